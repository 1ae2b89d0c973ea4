import PyProof.Rows.All
import Wide.All
import OpenK.AllK
import Wide.FinOn
import HandS.Base
import HandS.Call
import HandS.List
import HandS.Comp
import HandS.Iter
import HandS.Walk
import HandS.Zip
import HandS.Words
import HandS.TupAny
import KE.GoesMore
import KE.GoesZip
import KE.KCallOwn
import HandS.IsInst
import HandS.Text
import HandS.Dict
import HandS.DictComp
import HandS.Flt
import HandS.TryOnly
import HandS.Ends
import HandS.WordsList
import HandS.Exc
import HandS.ExcOwn
import HandS.ExcCtx
import HandS.ExcInit
import HandS.ExcField
import HandS.ExcIs
import HandS.HotCalls
import HandS.Codes
import KE.KExcIs
import HandS.ExcValue
import KE.KOwnIter
import HandS.OwnEq
import HandS.IterNext
import HandS.Gcd
import HandS.Wide
import HandS.Rev
import HandS.MakeKwOnly
import HandS.ClsMeth
import HandS.Style
import PySem.Challenge.RW_wholecables_k01_judge_whole
set_option Elab.async false
set_option linter.all false
set_option maxRecDepth 100000
set_option maxHeartbeats 4000000
set_option maxHeartbeats 4000000
/-! Nests of ints: lists and tuples of any depth, and the same as tuples alone; comprehensions by what each turn gives; a comprehension in a comprehension. -/
namespace WK
open PySem PySem.Spec PyProof.Rows L2
inductive Td where
  | int (i : Int)
  | tup (ts : List Td)
mutual
def Td.dep : Td → Nat
  | .int _ => 0
  | .tup ts => Td.deps ts + 1
def Td.deps : List Td → Nat
  | [] => 0
  | t :: ts => max t.dep (Td.deps ts)
end
mutual
def Td.sm : Td → Prop
  | .int _ => True
  | .tup ts => ts.length ≤ 16000000 ∧ Td.sms ts
def Td.sms : List Td → Prop
  | [] => True
  | t :: ts => t.sm ∧ Td.sms ts
end
mutual
def Td.py : Td → PyData
  | .int i => .int i
  | .tup ts => .tuple (Td.pys ts)
def Td.pys : List Td → List PyData
  | [] => []
  | t :: ts => t.py :: Td.pys ts
end
theorem deps_le {ts : List Td} {t : Td} {n : Nat} (h : Td.deps ts ≤ n) (m : t ∈ ts) : t.dep ≤ n := by
  induction ts with
  | nil => cases m
  | cons x ts ih =>
    simp only [Td.deps] at h
    rcases List.mem_cons.mp m with z | z
    · rw [z]; omega
    · exact ih (by omega) z
theorem sms_of {ts : List Td} {t : Td} (h : Td.sms ts) (m : t ∈ ts) : t.sm := by
  induction ts with
  | nil => cases m
  | cons x ts ih =>
    simp only [Td.sms] at h
    rcases List.mem_cons.mp m with z | z
    · rw [z]; exact h.1
    · exact ih h.2 z
theorem sms_all {ts : List Td} (h : ∀ t ∈ ts, t.sm) : Td.sms ts := by
  induction ts with
  | nil => trivial
  | cons x ts ih => exact ⟨h x List.mem_cons_self, ih fun t m => h t (List.mem_cons_of_mem _ m)⟩
theorem deps_all {ts : List Td} {n : Nat} (h : ∀ t ∈ ts, t.dep ≤ n) : Td.deps ts ≤ n := by
  induction ts with
  | nil => exact Nat.zero_le _
  | cons x ts ih =>
    have h1 := h x List.mem_cons_self
    have h2 := ih fun t m => h t (List.mem_cons_of_mem _ m)
    simp only [Td.deps]
    omega
mutual
inductive Sn (K : PySem.W.Frag) (H : Hp) : V → Td → Prop
  | int (i : Int) : Sn K H (.int i) (.int i)
  | lst {a : Addr} {vs : List V} {ts : List Td} : H a = some (.lst vs) → SnAll K H vs ts → Sn K H (.ref a) (.tup ts)
  | tup {a : Addr} {vs : List V} {ts : List Td} : SqT K H a vs → SnAll K H vs ts → Sn K H (.ref a) (.tup ts)
inductive SnAll (K : PySem.W.Frag) (H : Hp) : List V → List Td → Prop
  | nil : SnAll K H [] []
  | cons {v : V} {vs : List V} {t : Td} {ts : List Td} : Sn K H v t → SnAll K H vs ts → SnAll K H (v :: vs) (t :: ts)
end
mutual
inductive Fz (K : PySem.W.Frag) (H : Hp) : V → Td → Prop
  | int (i : Int) : Fz K H (.int i) (.int i)
  | tup {a : Addr} {vs : List V} {ts : List Td} : SqT K H a vs → FzAll K H vs ts → Fz K H (.ref a) (.tup ts)
inductive FzAll (K : PySem.W.Frag) (H : Hp) : List V → List Td → Prop
  | nil : FzAll K H [] []
  | cons {v : V} {vs : List V} {t : Td} {ts : List Td} : Fz K H v t → FzAll K H vs ts → FzAll K H (v :: vs) (t :: ts)
end
/-- tuples stay -/
def Tk (K : PySem.W.Frag) (H H' : Hp) : Prop := ∀ a xs, SqT K H a xs → SqT K H' a xs
theorem Same_seqT {K : PySem.W.Frag} {H H' : Hp} {a : Addr} {xs : List V} (e : Same H H') (h : SqT K H a xs) : SqT K H' a xs := by
  rcases h with (h | ⟨o, h⟩) | h
  · exact .inl (.inl (e _ _ h))
  · exact .inl (.inr ⟨o, e _ _ h⟩)
  · exact .inr h
theorem Same.tk {K : PySem.W.Frag} {H H' : Hp} (e : Same H H') : Tk K H H' := fun _ _ h => Same_seqT e h
theorem tk_at {K : PySem.W.Frag} {H H' : Hp} {D : Addr} {o : HO} (hD : H D = some o) (no : ∀ xs, o ≠ .tup xs) (nf : ∀ b xs, o ≠ .frz b (.tup xs)) (e : ∀ b o, b ≠ D → H b = some o → H' b = some o) : Tk K H H' := by
  intro a xs h
  rcases h with (h | ⟨b, h⟩) | h
  · exact .inl (.inl (e _ _ (fun z => by rw [z, hD] at h; cases h; exact no _ rfl) h))
  · exact .inl (.inr ⟨b, e _ _ (fun z => by rw [z, hD] at h; cases h; exact nf _ _ rfl) h⟩)
  · exact .inr h
theorem tk_lst {K : PySem.W.Frag} {H H' : Hp} {D : Addr} {l : List V} (hD : H D = some (.lst l)) (e : ∀ b o, b ≠ D → H b = some o → H' b = some o) : Tk K H H' := tk_at hD (fun _ z => by cases z) (fun _ _ z => by cases z) e
theorem tk_ins {K : PySem.W.Frag} {H H' : Hp} {D C : Addr} {dx : Addr} {l : List (Str × V)} (hD : H D = some (.ins C dx l)) (e : ∀ b o, b ≠ D → H b = some o → H' b = some o) : Tk K H H' := tk_at hD (fun _ z => by cases z) (fun _ _ z => by cases z) e
mutual
theorem Sn.same {K : PySem.W.Frag} {H H' : Hp} (e : Same H H') : ∀ {v : V} {t : Td}, Sn K H v t → Sn K H' v t
  | _, _, .int i => .int i
  | _, _, .lst h a => .lst (e _ _ h) (SnAll.same e a)
  | _, _, .tup h a => .tup (Same_seqT e h) (SnAll.same e a)
theorem SnAll.same {K : PySem.W.Frag} {H H' : Hp} (e : Same H H') : ∀ {vs : List V} {ts : List Td}, SnAll K H vs ts → SnAll K H' vs ts
  | _, _, .nil => .nil
  | _, _, .cons h t => .cons (Sn.same e h) (SnAll.same e t)
end
mutual
theorem Fz.tk {K : PySem.W.Frag} {H H' : Hp} (e : Tk K H H') : ∀ {v : V} {t : Td}, Fz K H v t → Fz K H' v t
  | _, _, .int i => .int i
  | _, _, .tup h a => .tup (e _ _ h) (FzAll.tk e a)
theorem FzAll.tk {K : PySem.W.Frag} {H H' : Hp} (e : Tk K H H') : ∀ {vs : List V} {ts : List Td}, FzAll K H vs ts → FzAll K H' vs ts
  | _, _, .nil => .nil
  | _, _, .cons h t => .cons (Fz.tk e h) (FzAll.tk e t)
end
mutual
theorem Fz.sn {K : PySem.W.Frag} {H : Hp} : ∀ {v : V} {t : Td}, Fz K H v t → Sn K H v t
  | _, _, .int i => .int i
  | _, _, .tup h a => .tup h (FzAll.sn a)
theorem FzAll.sn {K : PySem.W.Frag} {H : Hp} : ∀ {vs : List V} {ts : List Td}, FzAll K H vs ts → SnAll K H vs ts
  | _, _, .nil => .nil
  | _, _, .cons h t => .cons (Fz.sn h) (FzAll.sn t)
end
mutual
theorem Fz.dp {K : PySem.W.Frag} {H : Hp} : ∀ {v : V} {t : Td}, Fz K H v t → Dp K H v t.py
  | _, _, .int i => by simp only [Td.py]; exact .int i
  | _, _, .tup h a => by simp only [Td.py]; exact .tup h (FzAll.dp a)
theorem FzAll.dp {K : PySem.W.Frag} {H : Hp} : ∀ {vs : List V} {ts : List Td}, FzAll K H vs ts → DpAll K H vs (Td.pys ts)
  | _, _, .nil => by simp only [Td.pys]; exact .nil
  | _, _, .cons h t => by simp only [Td.pys]; exact .cons (Fz.dp h) (FzAll.dp t)
end
theorem SnAll.len {K : PySem.W.Frag} {H : Hp} {vs : List V} {ts : List Td} (h : SnAll K H vs ts) : vs.length = ts.length := by
  induction vs generalizing ts with
  | nil => cases h; rfl
  | cons v vs ih => cases h with | cons h t => simp only [List.length_cons, ih t]
theorem FzAll.len {K : PySem.W.Frag} {H : Hp} {vs : List V} {ts : List Td} (h : FzAll K H vs ts) : vs.length = ts.length := h.sn.len
theorem SnAll.get {K : PySem.W.Frag} {H : Hp} {vs : List V} {ts : List Td} (h : SnAll K H vs ts) {i : Nat} {v : V} (e : vs[i]? = some v) : ∃ t, ts[i]? = some t ∧ Sn K H v t := by
  induction vs generalizing ts i with
  | nil => simp at e
  | cons x vs ih =>
    cases h with
    | cons h t =>
      cases i with
      | zero => cases e; exact ⟨_, rfl, h⟩
      | succ i => exact ih t e
theorem FzAll.get {K : PySem.W.Frag} {H : Hp} {vs : List V} {ts : List Td} (h : FzAll K H vs ts) {i : Nat} {v : V} (e : vs[i]? = some v) : ∃ t, ts[i]? = some t ∧ Fz K H v t := by
  induction vs generalizing ts i with
  | nil => simp at e
  | cons x vs ih =>
    cases h with
    | cons h t =>
      cases i with
      | zero => cases e; exact ⟨_, rfl, h⟩
      | succ i => exact ih t e
theorem FzAll.ints {K : PySem.W.Frag} {H : Hp} : ∀ {ns : List Int} {vs : List V}, FzAll K H vs (ns.map Td.int) → vs = ns.map V.int
  | [], _, .nil => rfl
  | n :: ns, _, .cons (.int _) t => by rw [FzAll.ints t]; rfl
theorem SnAll.ints {K : PySem.W.Frag} {H : Hp} : ∀ {ns : List Int} {vs : List V}, SnAll K H vs (ns.map Td.int) → vs = ns.map V.int
  | [], _, .nil => rfl
  | n :: ns, _, .cons (.int _) t => by rw [SnAll.ints t]; rfl
theorem FzAll.of_ints {K : PySem.W.Frag} {H : Hp} : ∀ (ns : List Int), FzAll K H (ns.map V.int) (ns.map Td.int)
  | [] => .nil
  | n :: ns => .cons (.int n) (FzAll.of_ints ns)
theorem SnAll.zero {K : PySem.W.Frag} {H : Hp} : ∀ {vs : List V} {ts : List Td}, SnAll K H vs ts → Td.deps ts ≤ 0 → FzAll K H vs ts
  | _, _, .nil, _ => .nil
  | _, _, .cons (.int i) t, h => .cons (.int i) (SnAll.zero t (by simp only [Td.deps] at h; omega))
  | _, _, .cons (.lst _ _) t, h => by simp only [Td.deps, Td.dep] at h; omega
  | _, _, .cons (.tup _ _) t, h => by simp only [Td.deps, Td.dep] at h; omega
/-- lists of things, item by item -/
def Rs {α : Type} (R : Hp → V → α → Prop) (H : Hp) (vs : List V) (zs : List α) : Prop := vs.length = zs.length ∧ ∀ (i : Nat) (v : V) (z : α), vs[i]? = some v → zs[i]? = some z → R H v z
def Stb {α : Type} (K : PySem.W.Frag) (R : Hp → V → α → Prop) : Prop := ∀ H H' v z, Tk K H H' → R H v z → R H' v z
theorem Rs.tk {α : Type} {K : PySem.W.Frag} {R : Hp → V → α → Prop} (s : Stb K R) {H H' : Hp} {vs : List V} {zs : List α} (h : Rs R H vs zs) (e : Tk K H H') : Rs R H' vs zs := ⟨h.1, fun i v z a b => s _ _ _ _ e (h.2 i v z a b)⟩
theorem Rs.nil {α : Type} {R : Hp → V → α → Prop} {H : Hp} : Rs R H [] [] := ⟨rfl, fun i v z h => by simp at h⟩
theorem Rs.snoc {α : Type} {R : Hp → V → α → Prop} {H : Hp} {vs : List V} {zs : List α} {v : V} {z : α} (h : Rs R H vs zs) (r : R H v z) : Rs R H (vs ++ [v]) (zs ++ [z]) := by
  refine ⟨by rw [List.length_append, List.length_append, h.1]; rfl, fun i u y hu hy => ?_⟩
  have hl := h.1
  by_cases hi : i < vs.length
  · rw [List.getElem?_append_left hi] at hu
    rw [List.getElem?_append_left (by omega)] at hy
    exact h.2 i u y hu hy
  · rw [List.getElem?_append_right (by omega)] at hu
    rw [List.getElem?_append_right (by omega)] at hy
    have e1 : i - vs.length = 0 := by
      rcases Nat.eq_zero_or_pos (i - vs.length) with z | z
      · exact z
      · rw [List.getElem?_eq_none (by simp only [List.length_cons, List.length_nil]; omega)] at hu; cases hu
    have e2 : i - zs.length = 0 := by omega
    rw [e1] at hu
    rw [e2] at hy
    cases hu
    cases hy
    exact r
def RI : Hp → V → Int → Prop := fun _ v z => v = .int z
def RB : Hp → V → Bool → Prop := fun _ v z => v = .bl z
theorem stb_RI {K : PySem.W.Frag} : Stb K RI := fun _ _ _ _ _ h => h
theorem stb_RB {K : PySem.W.Frag} : Stb K RB := fun _ _ _ _ _ h => h
theorem stb_Fz {K : PySem.W.Frag} : Stb K (Fz K) := fun _ _ _ _ e h => h.tk e
theorem Rs.maps {α : Type} {R : Hp → V → α → Prop} {f : α → V} (hf : ∀ H v z, R H v z → v = f z) {H : Hp} : ∀ {vs : List V} {zs : List α}, Rs R H vs zs → vs = zs.map f := fun {vs zs} h => by
  refine List.ext_getElem? fun i => ?_
  rw [List.getElem?_map]
  have hl := h.1
  by_cases hi : i < vs.length
  · have hv := List.getElem?_eq_getElem hi
    have hz : zs[i]? = some zs[i] := List.getElem?_eq_getElem (by omega)
    rw [hv, hz, hf _ _ _ (h.2 i _ _ hv hz)]
    rfl
  · rw [List.getElem?_eq_none (by omega), List.getElem?_eq_none (by omega)]
    rfl
theorem Rs.ints {H : Hp} {vs : List V} {zs : List Int} (h : Rs RI H vs zs) : vs = zs.map V.int := h.maps fun _ _ _ e => e
theorem Rs.bls {H : Hp} {vs : List V} {zs : List Bool} (h : Rs RB H vs zs) : vs = zs.map V.bl := h.maps fun _ _ _ e => e
theorem Rs.fz {K : PySem.W.Frag} {H : Hp} : ∀ {vs : List V} {ts : List Td}, Rs (Fz K) H vs ts → FzAll K H vs ts
  | [], [], _ => .nil
  | [], _ :: _, h => by have := h.1; simp at this
  | _ :: _, [], h => by have := h.1; simp at this
  | v :: vs, t :: ts, h => .cons (h.2 0 v t rfl rfl) (Rs.fz ⟨by have := h.1; simp at this; exact this, fun i u z hu hz => h.2 (i + 1) u z hu hz⟩)
theorem new_same {H : Hp} {p : Addr} (h : H p = none) (o : HO) : Same H (upd H p o) := fun b u q => by rw [upd_ne (ne_of_none q h)]; exact q
theorem ys_at {xs : List V} {i : Nat} {H H' : Hp} {x : V} (y : YAt xs i H x H') : Same H H' := by rw [y.1]; exact fun _ _ h => h
theorem ys_fn {f : Nat → V} {i : Nat} {H H' : Hp} {x : V} (y : YFn f i H x H') : Same H H' := by rw [y.1]; exact fun _ _ h => h
theorem ys_pair {xs ys : Nat → Option V} {i : Nat} {H H' : Hp} {x : V} (y : YPair xs ys i H x H') : Same H H' := by
  obtain ⟨T, _, _, _, h1, h2, _⟩ := y
  rw [h2]
  exact new_same h1 _
theorem walk_zT {K : PySem.W.Frag} {a b : Addr} {xs ys : List V} {n : Nat} (hn : n = min xs.length ys.length) : Walk (RZ.ItzT K a b) n (fun H => SqT K H a xs ∧ SqT K H b ys) (YPair (fun i => xs[i]?) (fun i => ys[i]?)) := by
  subst hn
  refine ⟨fun i _ hi q => ?_, fun _ q => ⟨xs, ys, q.1, q.2, by omega⟩, fun i H v H' _ q y => ?_⟩
  · have h1 : i < xs.length := by omega
    have h2 : i < ys.length := by omega
    exact ⟨xs, ys, xs[i], ys[i], q.1, q.2, by simp [h1], by simp [h2]⟩
  · obtain ⟨T, x, z, h1, h2, h3, h4, h5⟩ := y
    exact ⟨T, x, z, h1, h2, h3, h4 xs q.1, h5 ys q.2⟩
theorem sizes {n : Nat} (h : n ≤ 16000000) : n < sizeLine := Nat.lt_of_le_of_lt h (by rw [sizeLine_eq]; decide)
/-- what stays while the list at D grows -/
def StbD {α : Type} (D : Addr) (R : Hp → V → α → Prop) : Prop := ∀ H H' v z, (∃ l, H D = some (.lst l)) → (∀ b o, b ≠ D → H b = some o → H' b = some o) → R H v z → R H' v z
theorem Stb.at {α : Type} {K : PySem.W.Frag} {R : Hp → V → α → Prop} (s : Stb K R) (D : Addr) : StbD D R := fun _ _ _ _ ⟨_, hl⟩ e r => s _ _ _ _ (tk_lst hl e) r
theorem Rs.tkD {α : Type} {D : Addr} {R : Hp → V → α → Prop} (s : StbD D R) {H H' : Hp} {vs : List V} {zs : List α} (h : Rs R H vs zs) (hD : ∃ l, H D = some (.lst l)) (e : ∀ b o, b ≠ D → H b = some o → H' b = some o) : Rs R H' vs zs := ⟨h.1, fun i v z a b => s _ _ _ _ hD e (h.2 i v z a b)⟩
/-- a list of ints apart from D -/
def RL (D : Addr) : Hp → V → List Int → Prop := fun H v r => ∃ p, v = .ref p ∧ p ≠ D ∧ H p = some (.lst (r.map V.int))
theorem stb_RL {D : Addr} : StbD D (RL D) := fun _ _ _ _ _ e ⟨p, h1, h2, h3⟩ => ⟨p, h1, h2, e _ _ h2 h3⟩
/-- a comprehension: each turn gives one thing, or nothing -/
theorem lc_g {α β : Type} {J : It} {n : Nat} {G : Hp → Prop} {Y : Nat → Hp → V → Hp → Prop} (w : Walk J n G Y) {g : TG} {tt : TT} {te : TE} {vs : List Nat} {σ : L2.St} {H1 : Hp} {D : Addr} {Qd : Hp → Prop}
    (R : Hp → V → α → Prop) (st : StbD D R) (xs : List β) (hn : n = xs.length) (hl : xs.length ≤ 16000000) (hD : H1 D = none) (hG : ∀ H, Same H1 H → G H) (hY : ∀ i H x H', Y i H x H' → Same H H') (f : β → Option α)
    (hs : ∀ i b x H H', xs[i]? = some b → Same H1 H → Same H1 H' → Y i H x H' → (∃ l, H' D = some (.lst l)) → ∀ (A : V → Hp → Prop) (B : Hp → Prop), (∀ y z H4, f b = some z → Same H' H4 → R H4 y z → A y H4) → (f b = none → ∀ H4, Same H' H4 → B H4) →
      g x (wipe σ vs) H' fun σ2 H2 => wipe σ2 vs = wipe σ vs ∧ tt σ2 H2 fun b H3 => if b = true then te σ2 H3 A else B H3)
    (hd : ∀ H l, Same H1 H → H D = some (.lst l) → Rs R H l (xs.filterMap f) → Qd H) :
    ∃ W : Nat → Nat → Hp → Prop, (∃ m, W 0 m (upd H1 D (.lst []))) ∧ ∀ i m H, W i m H →
      (J.stop i H ∧ Qd H) ∨ (J.go i H ∧ ∃ Nx : Hp → Prop, (∀ H', Nx H' → ∃ m', m' < m ∧ W (i + 1) m' H') ∧ ∀ x H', J.yld i H x H' → g x (wipe σ vs) H' fun σ2 H2 => wipe σ2 vs = wipe σ vs ∧ tt σ2 H2 fun b H3 =>
        if b = true then te σ2 H3 fun y H4 => ∃ acc, H4 D = some (.lst acc) ∧ acc.length < sizeLine ∧ Nx (upd H4 D (.lst (acc ++ [y]))) else Nx H3) := by
  subst hn
  refine lc_it w (fun i H => Same H1 H ∧ ∃ l, H D = some (.lst l) ∧ Rs R H l ((xs.take i).filterMap f) ∧ l.length ≤ i) ⟨new_same hD _, [], upd_same, by rw [List.take_zero]; exact Rs.nil, Nat.le_refl _⟩ (fun i H _ p => hG H p.1) ?_ ?_
  · rintro i x H H' hi ⟨sm, l, hl1, rs, hlen⟩ y
    have hb : xs[i]? = some xs[i] := List.getElem?_eq_getElem hi
    have sy := hY i H x H' y
    have et : xs.take (i + 1) = xs.take i ++ [xs[i]] := by rw [List.take_add_one, hb]; rfl
    refine hs i _ x H H' hb sm (sm.trans sy) y ⟨l, sy _ _ hl1⟩ _ _ (fun v z H4 hz s4 r => ?_) (fun hz H4 s4 => ?_)
    · have h4 : H4 D = some (.lst l) := s4 _ _ (sy _ _ hl1)
      refine ⟨l, h4, sizes (by omega), fun b o e => ?_, l ++ [v], upd_same, ?_, by rw [List.length_append]; simp only [List.length_cons, List.length_nil]; omega⟩
      · rw [upd_ne (ne_of_none e hD)]
        exact s4 _ _ (sy _ _ (sm _ _ e))
      · rw [et, List.filterMap_append]
        have e1 : [xs[i]].filterMap f = [z] := by rw [List.filterMap_cons, hz]; rfl
        rw [e1]
        refine Rs.snoc (rs.tkD st ⟨l, hl1⟩ fun b o hb e => ?_) (st _ _ _ _ ⟨l, h4⟩ (fun b o hb e => ?_) r)
        · rw [upd_ne hb]
          exact s4 _ _ (sy _ _ e)
        · rw [upd_ne hb]
          exact e
    · refine ⟨sm.trans (sy.trans s4), l, s4 _ _ (sy _ _ hl1), ?_, by omega⟩
      rw [et, List.filterMap_append]
      have e1 : [xs[i]].filterMap f = [] := by rw [List.filterMap_cons, hz]; rfl
      rw [e1, List.append_nil]
      exact rs.tkD st ⟨l, hl1⟩ fun b o _ e => s4 _ _ (sy _ _ e)
  · rintro H ⟨sm, l, hl1, rs, _⟩
    rw [List.take_length] at rs
    exact hd H l sm hl1 rs
/-- the same for what stays while tuples stay -/
theorem lc_f {α β : Type} {K : PySem.W.Frag} {J : It} {n : Nat} {G : Hp → Prop} {Y : Nat → Hp → V → Hp → Prop} (w : Walk J n G Y) {g : TG} {tt : TT} {te : TE} {vs : List Nat} {σ : L2.St} {H1 : Hp} {D : Addr} {Qd : Hp → Prop}
    (R : Hp → V → α → Prop) (st : Stb K R) (xs : List β) (hn : n = xs.length) (hl : xs.length ≤ 16000000) (hD : H1 D = none) (hG : ∀ H, Same H1 H → G H) (hY : ∀ i H x H', Y i H x H' → Same H H') (f : β → Option α)
    (hs : ∀ i b x H H', xs[i]? = some b → Same H1 H → Same H1 H' → Y i H x H' → ∀ (A : V → Hp → Prop) (B : Hp → Prop), (∀ y z H4, f b = some z → Same H' H4 → R H4 y z → A y H4) → (f b = none → ∀ H4, Same H' H4 → B H4) →
      g x (wipe σ vs) H' fun σ2 H2 => wipe σ2 vs = wipe σ vs ∧ tt σ2 H2 fun b H3 => if b = true then te σ2 H3 A else B H3)
    (hd : ∀ H l, Same H1 H → H D = some (.lst l) → Rs R H l (xs.filterMap f) → Qd H) :
    ∃ W : Nat → Nat → Hp → Prop, (∃ m, W 0 m (upd H1 D (.lst []))) ∧ ∀ i m H, W i m H →
      (J.stop i H ∧ Qd H) ∨ (J.go i H ∧ ∃ Nx : Hp → Prop, (∀ H', Nx H' → ∃ m', m' < m ∧ W (i + 1) m' H') ∧ ∀ x H', J.yld i H x H' → g x (wipe σ vs) H' fun σ2 H2 => wipe σ2 vs = wipe σ vs ∧ tt σ2 H2 fun b H3 =>
        if b = true then te σ2 H3 fun y H4 => ∃ acc, H4 D = some (.lst acc) ∧ acc.length < sizeLine ∧ Nx (upd H4 D (.lst (acc ++ [y]))) else Nx H3) := lc_g w R (st.at D) xs hn hl hD hG hY f (fun i b x H H' h1 h2 h3 h4 _ => hs i b x H H' h1 h2 h3 h4) hd
/-- each turn gives one thing -/
theorem lc_m {α β : Type} {K : PySem.W.Frag} {J : It} {n : Nat} {G : Hp → Prop} {Y : Nat → Hp → V → Hp → Prop} (w : Walk J n G Y) {g : TG} {tt : TT} {te : TE} {vs : List Nat} {σ : L2.St} {H1 : Hp} {D : Addr} {Qd : Hp → Prop}
    (R : Hp → V → α → Prop) (st : Stb K R) (xs : List β) (hn : n = xs.length) (hl : xs.length ≤ 16000000) (hD : H1 D = none) (hG : ∀ H, Same H1 H → G H) (hY : ∀ i H x H', Y i H x H' → Same H H') (f : β → α)
    (hs : ∀ i b x H H', xs[i]? = some b → Same H1 H → Same H1 H' → Y i H x H' → ∀ (A : V → Hp → Prop) (B : Hp → Prop), (∀ y H4, Same H' H4 → R H4 y (f b) → A y H4) →
      g x (wipe σ vs) H' fun σ2 H2 => wipe σ2 vs = wipe σ vs ∧ tt σ2 H2 fun b H3 => if b = true then te σ2 H3 A else B H3)
    (hd : ∀ H l, Same H1 H → H D = some (.lst l) → Rs R H l (xs.map f) → Qd H) :
    ∃ W : Nat → Nat → Hp → Prop, (∃ m, W 0 m (upd H1 D (.lst []))) ∧ ∀ i m H, W i m H →
      (J.stop i H ∧ Qd H) ∨ (J.go i H ∧ ∃ Nx : Hp → Prop, (∀ H', Nx H' → ∃ m', m' < m ∧ W (i + 1) m' H') ∧ ∀ x H', J.yld i H x H' → g x (wipe σ vs) H' fun σ2 H2 => wipe σ2 vs = wipe σ vs ∧ tt σ2 H2 fun b H3 =>
        if b = true then te σ2 H3 fun y H4 => ∃ acc, H4 D = some (.lst acc) ∧ acc.length < sizeLine ∧ Nx (upd H4 D (.lst (acc ++ [y]))) else Nx H3) := by
  refine lc_f w R st xs hn hl hD hG hY (fun b => some (f b)) (fun i b x H H' hb s1 s2 y A B ha _ => hs i b x H H' hb s1 s2 y A B fun v H4 s4 r => ha v _ H4 rfl s4 r) fun H l s1 hl1 rs => hd H l s1 hl1 ?_
  rw [show (fun b => some (f b)) = some ∘ f from rfl, List.filterMap_eq_map] at rs
  exact rs
theorem lc_gm {α β : Type} {J : It} {n : Nat} {G : Hp → Prop} {Y : Nat → Hp → V → Hp → Prop} (w : Walk J n G Y) {g : TG} {tt : TT} {te : TE} {vs : List Nat} {σ : L2.St} {H1 : Hp} {D : Addr} {Qd : Hp → Prop}
    (R : Hp → V → α → Prop) (st : StbD D R) (xs : List β) (hn : n = xs.length) (hl : xs.length ≤ 16000000) (hD : H1 D = none) (hG : ∀ H, Same H1 H → G H) (hY : ∀ i H x H', Y i H x H' → Same H H') (f : β → α)
    (hs : ∀ i b x H H', xs[i]? = some b → Same H1 H → Same H1 H' → Y i H x H' → (∃ l, H' D = some (.lst l)) → ∀ (A : V → Hp → Prop) (B : Hp → Prop), (∀ y H4, Same H' H4 → R H4 y (f b) → A y H4) →
      g x (wipe σ vs) H' fun σ2 H2 => wipe σ2 vs = wipe σ vs ∧ tt σ2 H2 fun b H3 => if b = true then te σ2 H3 A else B H3)
    (hd : ∀ H l, Same H1 H → H D = some (.lst l) → Rs R H l (xs.map f) → Qd H) :
    ∃ W : Nat → Nat → Hp → Prop, (∃ m, W 0 m (upd H1 D (.lst []))) ∧ ∀ i m H, W i m H →
      (J.stop i H ∧ Qd H) ∨ (J.go i H ∧ ∃ Nx : Hp → Prop, (∀ H', Nx H' → ∃ m', m' < m ∧ W (i + 1) m' H') ∧ ∀ x H', J.yld i H x H' → g x (wipe σ vs) H' fun σ2 H2 => wipe σ2 vs = wipe σ vs ∧ tt σ2 H2 fun b H3 =>
        if b = true then te σ2 H3 fun y H4 => ∃ acc, H4 D = some (.lst acc) ∧ acc.length < sizeLine ∧ Nx (upd H4 D (.lst (acc ++ [y]))) else Nx H3) := by
  refine lc_g w R st xs hn hl hD hG hY (fun b => some (f b)) (fun i b x H H' hb s1 s2 y hd2 A B ha _ => hs i b x H H' hb s1 s2 y hd2 A B fun v H4 s4 r => ha v _ H4 rfl s4 r) fun H l s1 hl1 rs => hd H l s1 hl1 ?_
  rw [show (fun b => some (f b)) = some ∘ f from rfl, List.filterMap_eq_map] at rs
  exact rs
/-- a comprehension in a comprehension -/
def rl (scope sc : Scope) : Scope := { scope with names := scope.names.map fun (n, k) => if (k == .free && sc.kind == .function && sc.names.lookup n == some .cell) then (n, .cell) else (n, k) }
theorem blk_nest {N : List Str} {scope inner sc0 : Scope} {own : List (Str × Nat)} {cl : List (Str × Addr)} {C : Addr} {env : Env} (e : env.scope = sc0) (h : blkC N (rl scope sc0) inner own = true) : BlkOk N (compEnvC scope cl C env).scope inner own := by
  subst e
  exact blkOk_by h
theorem pi_tupK {X : Cx} {K : PySem.W.Frag} {tg e : Expr} {te : TE} (hK : X.K = K) (h : PE X e te) : PI X tg e (iTup K te) := by
  subst hK
  exact pi_tup h
theorem sl_tupAK {X : Cx} {K : PySem.W.Frag} (hK : X.K = K) : SlR X (rSlA K) := by
  subst hK
  exact sl_tupA
theorem pe_fldK {X : Cx} {K : PySem.W.Frag} {e : Expr} {ta : TE} {f : Str} {p : Pos} (hK : X.K = K) (h : PE X e ta) (hb : attributeBase e f X.env (eval e X.env) = eval e X.env) : PE X (.Attribute e f p) (tFld K ta f) := by
  subst hK
  exact pe_fld h hb
theorem pi_listK {X : Cx} {K : PySem.W.Frag} {tg e : Expr} {te : TE} (hK : X.K = K) (h : PE X e te) : PI X tg e (iList K te) := by
  subst hK
  exact pi_list h
end WK
/-! Ties of a web, their strengths over the common part, rows, matrices. -/
namespace P01
open PySem L2 WK
def gI (t b : Int) : Int := ((Nat.gcd t.natAbs b.natAbs : Nat) : Int)
theorem gI_pos {t b : Int} (ht : 0 < t) : 0 < gI t b := by
  have : 0 < Nat.gcd t.natAbs b.natAbs := Nat.gcd_pos_of_pos_left _ (by omega)
  unfold gI
  omega
theorem gI_pos' {t b : Int} (hb : 0 < b) : 0 < gI t b := by
  have : 0 < Nat.gcd t.natAbs b.natAbs := Nat.gcd_pos_of_pos_right _ (by omega)
  unfold gI
  omega
theorem gI_le {t b : Int} (ht : 0 < t) : gI t b ≤ t := by
  have : Nat.gcd t.natAbs b.natAbs ≤ t.natAbs := Nat.le_of_dvd (by omega) (Nat.gcd_dvd_left _ _)
  unfold gI
  omega
theorem gI_dvd1 {t b : Int} : gI t b ∣ t := by
  unfold gI
  exact Int.ofNat_dvd_left.mpr (Nat.gcd_dvd_left _ _)
theorem gI_dvd2 {t b : Int} : gI t b ∣ b := by
  unfold gI
  exact Int.ofNat_dvd_left.mpr (Nat.gcd_dvd_right _ _)
/-- the common part of a bottom and some numbers -/
def gf (b : Int) (ns : List Int) : Int := ns.foldl gI b
theorem gf_pos {b : Int} (hb : 0 < b) : ∀ (ns : List Int), 0 < gf b ns := fun ns => by
  induction ns generalizing b with
  | nil => exact hb
  | cons n ns ih => exact ih (gI_pos hb)
theorem gf_le {b : Int} (hb : 0 < b) : ∀ (ns : List Int), gf b ns ≤ b := fun ns => by
  induction ns generalizing b with
  | nil => exact Int.le_refl _
  | cons n ns ih => exact Int.le_trans (ih (gI_pos hb)) (gI_le hb)
theorem gf_dvd {b : Int} : ∀ (ns : List Int), gf b ns ∣ b ∧ ∀ n ∈ ns, gf b ns ∣ n := fun ns => by
  induction ns generalizing b with
  | nil => exact ⟨Int.dvd_refl _, fun n h => by cases h⟩
  | cons n ns ih =>
    have h := ih (b := gI b n)
    refine ⟨Int.dvd_trans h.1 gI_dvd1, fun m hm => ?_⟩
    rcases List.mem_cons.mp hm with e | e
    · rw [e]
      exact Int.dvd_trans h.1 gI_dvd2
    · exact h.2 m e
theorem gf_snoc (b : Int) (ns : List Int) (n : Int) : gf b (ns ++ [n]) = gI (gf b ns) n := by
  unfold gf
  rw [List.foldl_append]
  rfl
abbrev B (n : Nat) (x : Int) : Prop := x.natAbs < 2 ^ n
theorem B.mono {m n : Nat} {x : Int} (h : B m x) (hl : m ≤ n) : B n x := Nat.lt_of_lt_of_le h (Nat.pow_le_pow_right (by decide) hl)
theorem B.mul {m n : Nat} {x y : Int} (hx : B m x) (hy : B n y) : B (m + n) (x * y) := by
  show (x * y).natAbs < 2 ^ (m + n)
  rw [Int.natAbs_mul, Nat.pow_add]
  exact Nat.mul_lt_mul'' hx hy
theorem B.le {n : Nat} {x y : Int} (h0 : 0 ≤ x) (h : x ≤ y) (hy : B n y) : B n x := Nat.lt_of_le_of_lt (by omega) hy
theorem B.div {n : Nat} {x g : Int} (hg : 0 < g) (hx : B n x) : B n (x / g) := by
  show (x / g).natAbs < 2 ^ n
  exact Nat.lt_of_le_of_lt (Int.natAbs_ediv_le_natAbs x g) hx
abbrev T3 := Int × Int × Int
def td3 (t : T3) : Td := .tup [.int t.1, .int t.2.1, .int t.2.2]
def imin (i j : Int) : Int := if j < i then j else i
def imax (i j : Int) : Int := if j > i then j else i
def srt (t : T3) : T3 := (imin t.1 t.2.1, imax t.1 t.2.1, t.2.2)
/-- a tie of a web with pl places -/
structure OkT (pl : Int) (t : T3) : Prop where
  ne : t.1 ≠ t.2.1
  a0 : 0 ≤ t.1
  a1 : t.1 < pl
  b0 : 0 ≤ t.2.1
  b1 : t.2.1 < pl
  s1 : 1 ≤ t.2.2
  s2 : B 400 t.2.2
/-- the ties as a web keeps them, and its bottom -/
def wg (ts : List T3) (b : Int) : Int := gf b (ts.map (·.2.2))
def wt (ts : List T3) (b : Int) : List T3 := ts.map fun t => (imin t.1 t.2.1, imax t.1 t.2.1, t.2.2 / wg ts b)
def wb (ts : List T3) (b : Int) : Int := b / wg ts b
/-- the row of a tie -/
def b2 (p : Bool) : Int := if p then 1 else 0
def trow (pl : Int) (t : T3) : List Int := (List.range pl.toNat).map fun (k : Nat) => b2 (decide (V.int (0 + (k : Int)) = V.int t.1)) - b2 (decide (V.int (0 + (k : Int)) = V.int t.2.1))
abbrev RW := List Int × Int
def tdr (p : RW) : Td := .tup [.tup (p.1.map Td.int), .int p.2]
def wsum (ps : List RW) (i j : Nat) : Int := (ps.map fun p => p.2 * p.1.getD i 0 * p.1.getD j 0).sum
def wmat (n : Nat) (ps : List RW) : List (List Int) := (List.range n).map fun i => (List.range n).map fun j => wsum ps i j
def tdm (m : List (List Int)) : Td := .tup (m.map fun r => .tup (r.map Td.int))
theorem wsum_sym (ps : List RW) (i j : Nat) : wsum ps i j = wsum ps j i := by
  unfold wsum
  congr 1
  refine List.map_congr_left fun p _ => ?_
  rw [Int.mul_assoc, Int.mul_comm (p.1.getD i 0), ← Int.mul_assoc]
end P01
set_option maxHeartbeats 4000000
/-! enumerate over a tuple. -/
namespace WE
open PySem PySem.Spec PyProof.Rows L2
/-- enumerate(v): its two new cells -/
theorem meets_enB {v : Value} {o : Obj} {G : Heap → Prop} (B : Begins v o G) :
    Meets (Builtin.«enumerate.__new__» ⟨[.type "enumerate", v], []⟩) (fun _ R s => G s.heap ∧
      R (.ok (.ret (.ref (s.heap.push o).objs.size))) { s with heap := (s.heap.push o).push { cls := .type "enumerate", data := .fields #[.none, .bool false, .ref s.heap.objs.size, rawInt 0, .none, .none] } }) :=
  .of_wp fun prog w A R s h => by
    obtain ⟨hp, g, d, tk, os⟩ := s
    obtain ⟨h1, h⟩ := h
    have hsub := sub_enumerate
    have q1 : ∀ {A' : Around} {E : Value → Shared → Prop} {Q : Value → Shared → Prop}, Q (.ref hp.objs.size) ⟨hp.push o, g, d, tk, os⟩ → wpAny (model prog w) A' (pyIter v) Q E ⟨hp, g, d, tk, os⟩ :=
      fun q => B.iter prog w _ _ ⟨hp, g, d, tk, os⟩ _ h1 q
    wp_walk using q1
    refine wpAny_stack_any fun st => wpAny_pure ?_
    split
    · rename_i c _ _ _ _ _
      cases (c == Value.type "enumerate") <;> (wp_walk using q1; exact ⟨_, rfl, h⟩)
    · wp_walk using q1
      exact ⟨_, rfl, h⟩
theorem enB {prog : Program} {w : World} {A : Around} {E : Value → Shared → Prop} {s : Shared} {v : Value} {o : Obj} {G : Heap → Prop} {Q : Value → Shared → Prop} (B : Begins v o G) (h1 : G s.heap)
    (h : ∀ h', IsEnum h' (s.heap.objs.size + 1) s.heap.objs.size 0 .none → h'.get? s.heap.objs.size = some o → h'.objs.size = s.heap.objs.size + 2 →
      (∀ b o, s.heap.get? b = some o → h'.get? b = some o) → Q (.ref (s.heap.objs.size + 1)) { s with heap := h' }) :
    wpAny (model prog w) A (call (.type "enumerate") [v]) Q E s := by
  refine callType_new F.called_enumerate (by decide) (F.typeCall_enumerate_1 _) (F.newCall_enumerate_1 _) (fun obj => F.args_object_init_2 obj _) F.entry_enumerate_new (meets_enB B) ⟨h1, ?_⟩
  have hz : (s.heap.push o).objs.size = s.heap.objs.size + 1 := Heap.size_push ..
  show _ ∧ _
  rw [hz]
  have he : IsEnum ((s.heap.push o).push { cls := .type "enumerate", data := .fields #[.none, .bool false, .ref s.heap.objs.size, rawInt 0, .none, .none] }) (s.heap.objs.size + 1) s.heap.objs.size 0 .none := by
    have := Heap.get?_push_size (s.heap.push o) (o := { cls := .type "enumerate", data := .fields #[.none, .bool false, .ref s.heap.objs.size, rawInt 0, .none, .none] }) rfl
    rw [hz] at this
    exact this
  exact ⟨⟨_, he, rfl⟩, h _ he (Heap.get?_push_of_some _ (Heap.get?_push_size _ B.free)) (by rw [Heap.size_push, hz]) fun b o x => Heap.get?_push_of_some _ (Heap.get?_push_of_some _ x)⟩
/-- the tuple at a, each item in a new pair with its place -/
def IteT (K : PySem.W.Frag) (a : Addr) : It :=
  ⟨fun i H => ∃ (xs : List V) (x : V), SqT K H a xs ∧ xs[i]? = some x, fun i H v H' => ∃ T x, v = .ref T ∧ H T = none ∧ H' = upd H T (.tup [.int (i : Nat), x]) ∧ ∀ xs, SqT K H a xs → xs[i]? = some x, fun i H => ∃ xs : List V, SqT K H a xs ∧ xs.length ≤ i⟩
theorem turn_enT {P : Program} {w : World} {K : PySem.W.Frag} {elts : List Expr} {kk : Nat} {tpos : Pos} (a e it : Addr) :
    Turn P w K (.Tuple elts kk tpos) (IteT K a) [e, it] e (fun i h => (∃ old, IsEnum h e it ((i : Nat) : Int) old) ∧ h.IsTupleIter it a i ∧ e ≠ it) where
  mem := List.mem_cons_self
  obj := fun i h st b hb => by
    obtain ⟨⟨old, he⟩, ⟨o, ho, hc, hd⟩, _⟩ := st
    rcases List.mem_cons.mp hb with z | z
    · rw [z]
      exact ⟨_, he, fun v q => nomatch q⟩
    · rw [List.mem_singleton.mp z]
      exact ⟨o, ho, fun v q => by rw [hd] at q; cases q⟩
  keep := fun i h h' st k => by
    obtain ⟨⟨old, he⟩, hi, hne⟩ := st
    exact ⟨⟨old, k e (by simp) _ he⟩, hi.at fun o q => k it (by simp) o q, hne⟩
  item := by
    intro X hP hw hK hc i pins s σ H E I hf st hg
    subst hP hw hK
    obtain ⟨⟨old, he⟩, hit, hne⟩ := st
    obtain ⟨xs, x, hq, hx⟩ := hg
    obtain ⟨its, rv, p, hz⟩ := I.tuple hq
    obtain ⟨u, hu, ru⟩ := rv.get hx
    have hel : e < s.heap.objs.size := Heap.lt_size he
    have hil : it < s.heap.objs.size := by
      obtain ⟨_, q, _⟩ := hit
      exact Heap.lt_size q
    have hai : a ≠ it := fun z => by
      obtain ⟨o1, g1, d1, _⟩ := p
      obtain ⟨o2, g2, d2, _⟩ := hit
      rw [z, g2] at g1
      cases g1
      rw [d2] at d1
      injection d1 with d3
      exact absurd d3 (by decide)
    have hae : e ∉ [it, a] := fun z => by
      rcases List.mem_cons.mp z with z | z
      · exact hne z
      · obtain ⟨o1, g1, d1, _⟩ := p
        rw [← List.mem_singleton.mp z, he] at g1
        cases g1
        injection d1 with d3
        exact absurd d3 (by decide)
    have hlt : i < its.toArray.size := by
      rw [List.size_toArray]
      exact (List.getElem?_eq_some_iff.mp hu).1
    refine wpAny_pyNext_enum_itemD (Draws.tuple (prog := X.prog) (w := X.w) (A := X.A.in1) (I.ok.hd hc) it a hai its.toArray) he ⟨hit, p⟩ hlt hne hae fun u' h' tk hP' ho hst hT hsz hk => ?_
    have eu : u' = u := by
      have e1 : its.toArray[i]? = some u := by rw [List.getElem?_toArray]; exact hu
      exact Option.some.inj ((show its.toArray[i]? = some u' from hP').symm.trans e1)
    subst eu
    refine ⟨_, rfl, wpAny_letOwnedTupleGo_enum (s := { s with heap := h', toks := tk + 1 }) ho fun h'' he' sb => ?_⟩
    have hT2 : h''.get? s.heap.objs.size = some { cls := .type "tuple", data := .seq #[.int i tk, u'] } := (sb.2 _ (Nat.ne_of_gt hel)).trans hT
    have new : ObjOk X.prog X.w (upd H s.heap.objs.size (.tup [.int (i : Nat), x])) h'' s.heap.objs.size (.tup [.int (i : Nat), x]) :=
      ⟨by show 2 ≤ sizeLine; decide, [.int i tk, u'], .cons ⟨_, rfl⟩ (.cons ru .nil), ⟨_, hT2, rfl, _, rfl⟩⟩
    have I1 : Inv X pins σ (upd H s.heap.objs.size (.tup [.int (i : Nat), x])) { s with heap := h'', toks := tk + 1 } :=
      I.turnedNew (ch := [e, it]) (fun b ob hb q => (sb.2 b (fun z => hb (by simp [z]))).trans (hk b ob (fun z => hb (by simp [z])) (fun z => hb (by simp [z])) q)) hf (Nat.le_refl _) new
    refine ⟨.ref s.heap.objs.size, _, I1, rfl, ⟨_, x, rfl, I.hok.fresh (Nat.le_refl _), rfl, fun ys hy => by rw [I.tuple_inj hy hq]; exact hx⟩, ⟨⟨u', ?_⟩, hst.1.at fun o q => (sb.2 it (Ne.symm hne)).trans q, hne⟩, fun b hb => ?_⟩
    · have e1 : ((i + 1 : Nat) : Int) = (i : Int) + 1 := by omega
      rw [e1]
      exact he'
    · have hb' : b < s.heap.objs.size := by
        rcases List.mem_cons.mp hb with z | z
        · rw [z]
          exact hel
        · rw [List.mem_singleton.mp z]
          exact hil
      rw [upd_ne (Nat.ne_of_lt hb')]
      exact (hf b hb).1
  done := by
    intro X hP hw hK hc i pins s σ H E I hf st hg
    subst hP hw hK
    obtain ⟨⟨old, he⟩, hit, hne⟩ := st
    obtain ⟨xs, hq, hx⟩ := hg
    obtain ⟨its, rv, p, hz⟩ := I.tuple hq
    obtain ⟨f0, f1, f2, f3, f4, f5⟩ := hf it (by simp)
    have hl := rv.length
    have hT : s.TypeIs (.ref e) "enumerate" := ⟨_, he, rfl⟩
    unfold pyNext
    refine wpAny_bind (wpAny_attempt (wpAny_callSpecial?_slot (name := Str.ofString "__next__") hT F.slot_enumerate_next
      (wpAny_call_entry F.slot_enumerate_next hT F.entry_enumerate_next ?_ (F.args_enumerate_next_1 _))))
    show wpAny _ _ (field (.ref e) 2 >>= _) _ _ _
    refine wpAny_bind (wpAny_field he rfl (x := .ref it) rfl ?_)
    refine wpAny_bind (wpAny_nextOf_tuple_end (I.ok.hd hc) hit p (by simp; omega) fun h' x eb hx' => ?_)
    obtain ⟨o, ho, hcl⟩ := hx'
    refine wpAny_bind (wpAny_isInstance (T := "StopIteration") (b := true) ⟨o, ho, hcl⟩ isSubtype_stop ?_)
    exact wpAny_pure ⟨rfl, I.turned (t' := s.toks) (fun b o hb q => eb b o hb q) f0 f1 f3 f4 f5⟩
  self := fun A i s Q E st h => let ⟨⟨_, he⟩, _⟩ := st; wpAny_pyIter_enum he h
def iEnT (K : PySem.W.Frag) (ta : TA) : TI := fun σ H R => ta σ H fun vs H1 => ∃ a xs, vs = [.ref a] ∧ SqT K H1 a xs ∧ R (IteT K a) H1
theorem pi_enT {X : Cx} {e : Expr} {ta : TA} {p pos tpos : Pos} {elts : List Expr} {kk : Nat} (hg : Gl X "enumerate") (hm : X.mg "enumerate" = none) (ha : PA X [e] ta) (hs : starEach [e] X.env = [(false, eval e X.env)] := by rfl) :
    PI X (.Tuple elts kk tpos) (.Call (.Name "enumerate" p) [e] [] pos) (iEnT X.K ta) := by
  refine ⟨fun pins s σ H R I h => ?_⟩
  refine Call_ (ld_blt I hg hm boot_enumerate (PyProof.Rows.callWith_type1 (thn (ha.run pos pins s σ H _ I h) fun us s1 ⟨vs, H1, I1, r1, q1⟩ => ?_) hs rfl))
  obtain ⟨a, xs, ex, hq, q⟩ := q1
  subst ex
  obtain ⟨u, rfl, ru⟩ := vals1 r1
  cases ru
  obtain ⟨its, rv, p', hz⟩ := I1.tuple hq
  refine enB (begins_tuple a its.toArray) p' fun h' he hit hsz hk => wpAny_pyIter_enum he ?_
  have I2 : Inv X pins σ H1 { s1 with heap := h' } := I1.kept (t' := s1.toks) hk
  refine ⟨s1.heap.objs.size + 1, [s1.heap.objs.size + 1, s1.heap.objs.size], _, _, H1, rfl, I2, turn_enT a (s1.heap.objs.size + 1) s1.heap.objs.size, ⟨⟨.none, he⟩, ⟨_, hit, rfl, rfl⟩, Nat.succ_ne_self _⟩, fun b hb => ?_, q⟩
  have hle : s1.heap.objs.size ≤ b := by
    rcases List.mem_cons.mp hb with z | z
    · rw [z]
      exact Nat.le_add_right _ _
    · rw [List.mem_singleton.mp z]
      exact Nat.le_refl _
  exact I1.fpOk hle (I1.hok.fresh hle)
theorem walk_enT {K : PySem.W.Frag} {a : Addr} {xs : List V} : Walk (IteT K a) xs.length (fun H => SqT K H a xs) (YPair (fun i => some (.int (i : Nat))) (fun i => xs[i]?)) := by
  refine ⟨fun i _ hi q => ⟨xs, xs[i], q, by simp [hi]⟩, fun _ q => ⟨xs, q, Nat.le_refl _⟩, fun i H v H' _ q y => ?_⟩
  obtain ⟨T, x, h1, h2, h3, h4⟩ := y
  exact ⟨T, .int (i : Nat), x, h1, h2, h3, rfl, h4 xs q⟩
end WE
set_option maxHeartbeats 4000000
/-! zip of two sequences, each of them a list or a tuple. -/
namespace WZ
open PySem PySem.Spec PyProof.Rows L2
/-- a list (true) or a tuple (false) -/
def Sq (k : Bool) (K : PySem.W.Frag) (H : Hp) (a : Addr) (xs : List V) : Prop := if k = true then SqL K H a xs else SqT K H a xs
def Ob (k : Bool) (h : Heap) (a : Addr) (its : Array Value) : Prop := if k = true then h.IsList a its else h.IsTuple a its
def Ir (k : Bool) (h : Heap) (it a : Addr) (i : Nat) : Prop := if k = true then h.IsListIter it a i else h.IsTupleIter it a i
def itO (k : Bool) (a : Addr) : Obj := if k = true then { cls := .type "list_iterator", data := .fields #[.ref a, .int 0 0] } else { cls := .type "tuple_iterator", data := .fields #[.ref a, .int 0 0] }
theorem Ir.at {k : Bool} {h h' : Heap} {it a : Addr} {i : Nat} (x : Ir k h it a i) (e : ∀ o, h.get? it = some o → h'.get? it = some o) : Ir k h' it a i := by
  cases k with
  | true => exact (show h.IsListIter it a i from x).at e
  | false => exact (show h.IsTupleIter it a i from x).at e
theorem Ir.obj {k : Bool} {h : Heap} {it a : Addr} {i : Nat} (x : Ir k h it a i) : ∃ o, h.get? it = some o ∧ ∀ v, o.data ≠ .cell v := by
  cases k with
  | true =>
    obtain ⟨o, e, _, d⟩ := (show h.IsListIter it a i from x)
    exact ⟨o, e, fun v q => by rw [d] at q; cases q⟩
  | false =>
    obtain ⟨o, e, _, d⟩ := (show h.IsTupleIter it a i from x)
    exact ⟨o, e, fun v q => by rw [d] at q; cases q⟩
theorem Ob.lt {k : Bool} {h : Heap} {a : Addr} {its : Array Value} (x : Ob k h a its) : a < h.objs.size := by
  cases k with
  | true =>
    obtain ⟨o, e, _⟩ := (show h.IsList a its from x)
    exact Heap.lt_size e
  | false =>
    obtain ⟨o, e, _⟩ := (show h.IsTuple a its from x)
    exact Heap.lt_size e
theorem draw {prog : Program} {w : World} {A : Around} (hh : A.handled = none) (k : Bool) (it a : Addr) (hne : a ≠ it) (items : Array Value) :
    Draws prog w A it [it, a] items.size (fun i v => items[i]? = some v) (fun i h => Ir k h it a i ∧ Ob k h a items) := by
  cases k with
  | true => exact Draws.list hh it a hne items
  | false => exact Draws.tuple hh it a hne items
theorem begin {k : Bool} (a : Addr) (items : Array Value) : Begins (.ref a) (itO k a) fun h => Ob k h a items := by
  cases k with
  | true => exact begins_list a items
  | false => exact begins_tuple a items
theorem obj_of {X : Cx} {pins : List (Addr × Obj)} {σ : L2.St} {H : Hp} {s : Shared} {k : Bool} {a : Addr} {xs : List V} (I : Inv X pins σ H s) (h : Sq k X.K H a xs) : ∃ its : List Value, Vals xs its ∧ Ob k s.heap a its.toArray := by
  cases k with
  | true =>
    obtain ⟨its, rv, p, _⟩ := I.list (show SqL X.K H a xs from h)
    exact ⟨its, rv, p.isList⟩
  | false =>
    obtain ⟨its, rv, p, _⟩ := I.tuple (show SqT X.K H a xs from h)
    exact ⟨its, rv, p⟩
theorem inj {X : Cx} {pins : List (Addr × Obj)} {σ : L2.St} {H : Hp} {s : Shared} {k : Bool} {a : Addr} {xs ys : List V} (I : Inv X pins σ H s) (h : Sq k X.K H a xs) (h' : Sq k X.K H a ys) : xs = ys := by
  cases k with
  | true => exact I.list_inj h h'
  | false => exact I.tuple_inj h h'
/-- the sequences at a and b as they stand at each turn, the items in new pairs -/
def ItzA (K : PySem.W.Frag) (k l : Bool) (a b : Addr) : It :=
  ⟨fun i H => ∃ (xs ys : List V) (x y : V), Sq k K H a xs ∧ Sq l K H b ys ∧ xs[i]? = some x ∧ ys[i]? = some y,
    fun i H v H' => ∃ T x y, v = .ref T ∧ H T = none ∧ H' = upd H T (.tup [x, y]) ∧ (∀ xs, Sq k K H a xs → xs[i]? = some x) ∧ ∀ ys, Sq l K H b ys → ys[i]? = some y,
    fun i H => ∃ xs ys : List V, Sq k K H a xs ∧ Sq l K H b ys ∧ i ≤ xs.length ∧ i ≤ ys.length ∧ (i = xs.length ∨ i = ys.length)⟩
theorem turn_zipA {P : Program} {w : World} {K : PySem.W.Frag} {k l : Bool} {elts : List Expr} {kk : Nat} {tpos : Pos} {a b z TI TO i1 i2 : Addr} (D : ZipSep2 z TI TO i1 i2 [i1, a] [i2, b]) :
    Turn P w K (.Tuple elts kk tpos) (ItzA K k l a b) [z, TI, TO, i1, i2] z (fun i h => IsZip h z TI TO .none ∧ IsTupOf2 h TI (.ref i1) (.ref i2) ∧ (∃ x y, IsTupOf2 h TO x y) ∧ Ir k h i1 a i ∧ Ir l h i2 b i) where
  mem := by simp
  obj := fun i h st c hc => by
    obtain ⟨hz, hTI, ⟨x, y, hTO⟩, h1, h2⟩ := st
    have e' : c = z ∨ c = TI ∨ c = TO ∨ c = i1 ∨ c = i2 := by simpa using hc
    rcases e' with q | q | q | q | q
    · rw [q]; exact ⟨_, hz, fun v q => nomatch q⟩
    · rw [q]; exact ⟨_, hTI, fun v q => nomatch q⟩
    · rw [q]; exact ⟨_, hTO, fun v q => nomatch q⟩
    · rw [q]; exact h1.obj
    · rw [q]; exact h2.obj
  keep := fun i h h' st k => by
    obtain ⟨hz, hTI, ⟨x, y, hTO⟩, h1, h2⟩ := st
    exact ⟨k z (by simp) _ hz, k TI (by simp) _ hTI, ⟨x, y, k TO (by simp) _ hTO⟩, h1.at fun o q => k i1 (by simp) o q, h2.at fun o q => k i2 (by simp) o q⟩
  item := by
    intro X hP hw hK hc i pins s σ H E I hf st hg
    subst hP hw hK
    obtain ⟨hz, hTI, ⟨x0, y0, hTO⟩, h1, h2⟩ := st
    obtain ⟨xs, ys, x, y, hqx, hqy, hx, hy⟩ := hg
    obtain ⟨its, rv, p⟩ := obj_of I hqx
    obtain ⟨its2, rv2, p2⟩ := obj_of I hqy
    obtain ⟨u, hu, ru⟩ := rv.get hx
    obtain ⟨u2, hu2, ru2⟩ := rv2.get hy
    have hzl : z < s.heap.objs.size := Heap.lt_size hz
    have l1 : i < its.toArray.size := by
      rw [List.size_toArray]
      exact (List.getElem?_eq_some_iff.mp hu).1
    have l2 : i < its2.toArray.size := by
      rw [List.size_toArray]
      exact (List.getElem?_eq_some_iff.mp hu2).1
    have n1 : a ≠ i1 := fun e => by
      have := D.sep1_2
      obtain ⟨o, ho, _⟩ := h1.obj
      cases k with
      | true =>
        obtain ⟨o1, g1, c1, d1⟩ := (show s.heap.IsListIter i1 a i from h1)
        obtain ⟨o2, g2, c2, _⟩ := (show s.heap.IsList a its.toArray from p)
        rw [e, g1] at g2
        cases g2
        rw [c1] at c2
        injection c2 with c3
        exact absurd c3 (by decide)
      | false =>
        obtain ⟨o1, g1, c1, d1⟩ := (show s.heap.IsTupleIter i1 a i from h1)
        obtain ⟨o2, g2, c2, _⟩ := (show s.heap.IsTuple a its.toArray from p)
        rw [e, g1] at g2
        cases g2
        rw [c1] at c2
        injection c2 with c3
        exact absurd c3 (by decide)
    have n2 : b ≠ i2 := fun e => by
      cases l with
      | true =>
        obtain ⟨o1, g1, c1, d1⟩ := (show s.heap.IsListIter i2 b i from h2)
        obtain ⟨o2, g2, c2, _⟩ := (show s.heap.IsList b its2.toArray from p2)
        rw [e, g1] at g2
        cases g2
        rw [c1] at c2
        injection c2 with c3
        exact absurd c3 (by decide)
      | false =>
        obtain ⟨o1, g1, c1, d1⟩ := (show s.heap.IsTupleIter i2 b i from h2)
        obtain ⟨o2, g2, c2, _⟩ := (show s.heap.IsTuple b its2.toArray from p2)
        rw [e, g1] at g2
        cases g2
        rw [c1] at c2
        injection c2 with c3
        exact absurd c3 (by decide)
    refine wpAny_pyNext_zipD2_item D (draw (prog := X.prog) (w := X.w) (A := X.A.in1) (I.ok.hd hc) k i1 a n1 its.toArray) (draw (prog := X.prog) (w := X.w) (A := X.A.in1) (I.ok.hd hc) l i2 b n2 its2.toArray) hz hTI hTO ⟨h1, p⟩ ⟨h2, p2⟩ l1 l2 fun x1 x2 h' tk hx1 hx2 z' TO' h1' h2' hT hsz hk => ?_
    have eu : x1 = u := by
      have e1 : its.toArray[i]? = some u := by rw [List.getElem?_toArray]; exact hu
      exact Option.some.inj ((show its.toArray[i]? = some x1 from hx1).symm.trans e1)
    have eu2 : x2 = u2 := by
      have e1 : its2.toArray[i]? = some u2 := by rw [List.getElem?_toArray]; exact hu2
      exact Option.some.inj ((show its2.toArray[i]? = some x2 from hx2).symm.trans e1)
    subst eu eu2
    refine ⟨_, rfl, wpAny_letOwnedTupleGo_zip (s := { s with heap := h', toks := tk }) z' fun h'' z'' sb => ?_⟩
    have hT2 : h''.get? s.heap.objs.size = some { cls := .type "tuple", data := .seq #[x1, x2] } := (sb.2 _ (Nat.ne_of_gt hzl)).trans hT
    have new : ObjOk X.prog X.w (upd H s.heap.objs.size (.tup [x, y])) h'' s.heap.objs.size (.tup [x, y]) :=
      ⟨by show 2 ≤ sizeLine; decide, [x1, x2], .cons ru (.cons ru2 .nil), ⟨_, hT2, rfl, _, rfl⟩⟩
    have I1 : Inv X pins σ (upd H s.heap.objs.size (.tup [x, y])) { s with heap := h'', toks := tk } :=
      I.turnedNew (t' := tk) (ch := [z, TI, TO, i1, i2]) (fun c o hb q => (sb.2 c (fun q' => hb (by simp [q']))).trans (hk c o (fun q' => hb (by simp [q'])) (fun q' => hb (by simp [q'])) (fun q' => hb (by simp [q'])) (fun q' => hb (by simp [q'])) q)) hf (Nat.le_refl _) new
    refine ⟨.ref s.heap.objs.size, _, I1, rfl, ⟨_, x, y, rfl, I.hok.fresh (Nat.le_refl _), rfl, fun l hl => by rw [inj I hl hqx]; exact hx, fun l hl => by rw [inj I hl hqy]; exact hy⟩, ⟨z'', ?_, ⟨x1, x2, ?_⟩, ?_, ?_⟩, fun c hcm => ?_⟩
    · exact (sb.2 _ D.TIz).trans (hk _ _ D.TIz D.TITO D.TIi1 D.TIi2 hTI)
    · exact (sb.2 _ D.TOz).trans TO'
    · exact h1'.1.at fun o q => (sb.2 _ (Ne.symm D.zi1)).trans q
    · exact h2'.1.at fun o q => (sb.2 _ (Ne.symm D.zi2)).trans q
    · have hlt : c < s.heap.objs.size := by
        have e' : c = z ∨ c = TI ∨ c = TO ∨ c = i1 ∨ c = i2 := by simpa using hcm
        rcases e' with q | q | q | q | q
        · rw [q]; exact hzl
        · rw [q]; exact Heap.lt_size hTI
        · rw [q]; exact Heap.lt_size hTO
        · rw [q]; obtain ⟨_, e1, _⟩ := h1.obj; exact Heap.lt_size e1
        · rw [q]; obtain ⟨_, e2, _⟩ := h2.obj; exact Heap.lt_size e2
      rw [upd_ne (Nat.ne_of_lt hlt)]
      exact (hf c hcm).1
  done := by
    intro X hP hw hK hc i pins s σ H E I hf st hg
    subst hP hw hK
    obtain ⟨hz, hTI, ⟨x0, y0, hTO⟩, h1, h2⟩ := st
    obtain ⟨xs, ys, hqx, hqy, g1, g2, hend⟩ := hg
    obtain ⟨its, rv, p⟩ := obj_of I hqx
    obtain ⟨its2, rv2, p2⟩ := obj_of I hqy
    have l1 := rv.length
    have l2 := rv2.length
    have n1 : a ≠ i1 := fun e => by
      cases k with
      | true =>
        obtain ⟨o1, g1, c1, d1⟩ := (show s.heap.IsListIter i1 a i from h1)
        obtain ⟨o2, g2, c2, _⟩ := (show s.heap.IsList a its.toArray from p)
        rw [e, g1] at g2
        cases g2
        rw [c1] at c2
        injection c2 with c3
        exact absurd c3 (by decide)
      | false =>
        obtain ⟨o1, g1, c1, d1⟩ := (show s.heap.IsTupleIter i1 a i from h1)
        obtain ⟨o2, g2, c2, _⟩ := (show s.heap.IsTuple a its.toArray from p)
        rw [e, g1] at g2
        cases g2
        rw [c1] at c2
        injection c2 with c3
        exact absurd c3 (by decide)
    have n2 : b ≠ i2 := fun e => by
      cases l with
      | true =>
        obtain ⟨o1, g1, c1, d1⟩ := (show s.heap.IsListIter i2 b i from h2)
        obtain ⟨o2, g2, c2, _⟩ := (show s.heap.IsList b its2.toArray from p2)
        rw [e, g1] at g2
        cases g2
        rw [c1] at c2
        injection c2 with c3
        exact absurd c3 (by decide)
      | false =>
        obtain ⟨o1, g1, c1, d1⟩ := (show s.heap.IsTupleIter i2 b i from h2)
        obtain ⟨o2, g2, c2, _⟩ := (show s.heap.IsTuple b its2.toArray from p2)
        rw [e, g1] at g2
        cases g2
        rw [c1] at c2
        injection c2 with c3
        exact absurd c3 (by decide)
    refine wpAny_pyNext_zipD2_end D (draw (prog := X.prog) (w := X.w) (A := X.A.in1) (I.ok.hd hc) k i1 a n1 its.toArray) (draw (prog := X.prog) (w := X.w) (A := X.A.in1) (I.ok.hd hc) l i2 b n2 its2.toArray) hz hTI hTO ⟨h1, p⟩ ⟨h2, p2⟩ (by rw [List.size_toArray]; omega) (by rw [List.size_toArray]; omega) (by rw [List.size_toArray, List.size_toArray]; omega) fun h' tk hk => ⟨rfl, I.turnedL (t' := tk) (ch := [z, TI, TO, i1, i2]) (fun c o hb q =>
      hk c o (fun q' => hb (by simp [q'])) (fun q' => hb (by simp [q'])) (fun q' => hb (by simp [q'])) (fun q' => hb (by simp [q'])) q) hf⟩
  self := fun A i s Q E st h => wpAny_pyIter_zip st.1 h
theorem sep {n a b : Nat} (la : a < n) (lb : b < n) : ZipSep2 (n + 4) (n + 2) (n + 3) n (n + 1) [n, a] [n + 1, b] := by
  constructor
  all_goals
    try simp only [List.mem_cons, List.not_mem_nil, or_false, not_or, ne_eq, true_or]
    try simp only [Nat.add_right_inj, Nat.reduceEqDiff, not_false_eq_true]
    try first | (refine ⟨True.intro, fun (h : n + 4 = b) => by omega⟩) | (refine ⟨True.intro, fun (h : n + 3 = b) => by omega⟩) | exact fun (h : n = n + 1) => by omega | (refine ⟨fun (h : n + 4 = n) => by omega, fun (h : n + 4 = a) => by omega⟩) | (refine ⟨fun (h : n + 3 = n) => by omega, fun (h : n + 3 = a) => by omega⟩) | (refine ⟨fun (h : n + 4 = n + 1) => by omega, fun (h : n + 4 = b) => by omega⟩) | (refine ⟨fun (h : n + 3 = n + 1) => by omega, fun (h : n + 3 = b) => by omega⟩) | (refine ⟨fun (h : n = n + 1) => by omega, fun (h : n = b) => by omega⟩) | (refine ⟨fun (h : n + 1 = n) => by omega, fun (h : n + 1 = a) => by omega⟩) | exact fun (h : n + 2 = n) => by omega | exact fun (h : n + 2 = n + 1) => by omega | exact fun (h : n + 2 = n + 4) => by omega | exact fun (h : n + 3 = n + 4) => by omega | exact fun (h : n + 2 = n + 3) => by omega
theorem walk_zA {K : PySem.W.Frag} {k l : Bool} {a b : Addr} {xs ys : List V} {n : Nat} (hx : n = xs.length) (hy : n = ys.length) : Walk (ItzA K k l a b) n (fun H => Sq k K H a xs ∧ Sq l K H b ys) (YPair (fun i => xs[i]?) (fun i => ys[i]?)) := by
  subst hx
  refine ⟨fun i _ hi q => ?_, fun _ q => ⟨xs, ys, q.1, q.2, Nat.le_refl _, by omega, .inl rfl⟩, fun i H v H' _ q y => ?_⟩
  · have h1 : i < xs.length := by omega
    have h2 : i < ys.length := by omega
    exact ⟨xs, ys, xs[i], ys[i], q.1, q.2, by simp [h1], by simp [h2]⟩
  · obtain ⟨T, x, z, h1, h2, h3, h4, h5⟩ := y
    exact ⟨T, x, z, h1, h2, h3, h4 xs q.1, h5 ys q.2⟩
def iZipB (K : PySem.W.Frag) (ta : TA) : TI := fun σ H R => ta σ H fun vs H1 => ∃ (k l : Bool) (a b : Addr) (xs ys : List V), vs = [.ref a, .ref b] ∧ Sq k K H1 a xs ∧ Sq l K H1 b ys ∧ R (ItzA K k l a b) H1
theorem pi_zipB {X : Cx} {e e2 : Expr} {ta : TA} {p pos tpos : Pos} {elts : List Expr} {kk : Nat} (hg : Gl X "zip") (hm : X.mg "zip" = none) (ha : PA X [e, e2] ta)
    (hs : starEach [e, e2] X.env = (false, eval e X.env) :: starEach [e2] X.env := by rfl) (hpl : (backTo pos (starEach [e2] X.env)).any (·.1) = false := by rfl) :
    PI X (.Tuple elts kk tpos) (.Call (.Name "zip" p) [e, e2] [] pos) (iZipB X.K ta) := by
  refine ⟨fun pins s σ H R I h => ?_⟩
  refine Call_ (ld_blt I hg hm PyProof.Rows.boot_zip (PyProof.Rows.callWith_type1 (thn (ha.run pos pins s σ H _ I h) fun us s1 ⟨vs, H1, I1, r1, q1⟩ => ?_) hs hpl))
  obtain ⟨k, l, a, b, xs, ys, ex, hqx, hqy, q⟩ := q1
  subst ex
  cases r1 with
  | cons r rr =>
    cases rr with
    | cons r' rr =>
      cases rr
      cases r
      cases r'
      obtain ⟨its, rv, p1⟩ := obj_of I1 hqx
      obtain ⟨its2, rv2, p2⟩ := obj_of I1 hqy
      have la := p1.lt
      have lb := p2.lt
      refine zip_begins2 (begin (k := k) a its.toArray) (begin (k := l) b its2.toArray) p1 p2 fun h' hz hTI hTO h1 h2 hsz hk => wpAny_pyIter_zip hz ?_
      have I2 : Inv X pins σ H1 { s1 with heap := h' } := I1.kept (t' := s1.toks) hk
      have D : ZipSep2 (s1.heap.objs.size + 4) (s1.heap.objs.size + 2) (s1.heap.objs.size + 3) s1.heap.objs.size (s1.heap.objs.size + 1) [s1.heap.objs.size, a] [s1.heap.objs.size + 1, b] := by
        exact sep la lb
      refine ⟨s1.heap.objs.size + 4, [s1.heap.objs.size + 4, s1.heap.objs.size + 2, s1.heap.objs.size + 3, s1.heap.objs.size, s1.heap.objs.size + 1], _, _, H1, rfl, I2, turn_zipA (k := k) (l := l) D, ⟨hz, hTI, ⟨_, _, hTO⟩, ?_, ?_⟩, fun c hcm => ?_, q⟩
      · cases k with
        | true => exact ⟨_, h1, rfl, rfl⟩
        | false => exact ⟨_, h1, rfl, rfl⟩
      · cases l with
        | true => exact ⟨_, h2, rfl, rfl⟩
        | false => exact ⟨_, h2, rfl, rfl⟩
      · have hle : s1.heap.objs.size ≤ c := by
          have e' : c = s1.heap.objs.size + 4 ∨ c = s1.heap.objs.size + 2 ∨ c = s1.heap.objs.size + 3 ∨ c = s1.heap.objs.size ∨ c = s1.heap.objs.size + 1 := by simpa using hcm
          rcases e' with z | z | z | z | z
          · rw [z]; exact Nat.le_add_right _ _
          · rw [z]; exact Nat.le_add_right _ _
          · rw [z]; exact Nat.le_add_right _ _
          · rw [z]; exact Nat.le_refl _
          · rw [z]; exact Nat.le_add_right _ _
        exact I1.fpOk hle (I1.hok.fresh hle)
end WZ
set_option maxHeartbeats 4000000
/-! An instance of one's own class is called: x(e, ..), where x is a local name. -/
namespace WC
open PySem PySem.Spec PyProof.Rows L2
theorem keeper_inst {M : Model} {h : Heap} {x : Addr} {o : Obj} (ho : h.get? x = some o) (hd : o.data = .plain) : PySem.W.Looks M h (keeperOf (.ref x)) .caller := by
  refine PySem.W.Looks.andThen (PySem.W.Looks.ld (part := none) ho) ?_
  rw [hd]
  exact PySem.W.Looks.now
theorem callWith_inst {M : Model} {A : Around} {E : Value → Shared → Prop} {s : Shared} {env : Env} {pos : Pos} {x : Addr} {o : Obj} {e : Expr} {es : List Expr} {Q : Value → Shared → Prop} (hd : o.data = .plain)
    (h : wpAny M A (spliced (backTo pos (starEach (e :: es) env))) (fun us s1 => s1.heap.get? x = some o ∧ wpAny M A (call (.ref x) us) Q E s1) E s)
    (he : starEach (e :: es) env = (false, eval e env) :: starEach es env) (hpl : (backTo pos (starEach es env)).any (·.1) = false) :
    wpAny M A (callWith pos (.ref x) [] (backTo pos (starEach (e :: es) env)) []) Q E s := by
  rw [he] at h ⊢
  have hs : ((backTo pos ((false, eval e env) :: starEach es env)).any (·.1) || ([] : List (Option Str × Sem Value)).any (·.1.isNone)) = false := by
    show ((false || (backTo pos (starEach es env)).any (·.1)) || false) = false
    rw [hpl]
    rfl
  unfold callWith
  refine wpAny_bind (wpAny_holding (wpAny_mono (PySem.Calls.evalArgs_plain (Q := fun a s1 => s1.heap.get? x = some o ∧ a.kw = [] ∧ wpAny M A (call (.ref x) a.pos) Q E s1) (wpAny_mono h (fun us s1 z => ⟨z.1, rfl, z.2⟩) fun _ _ y => y)) (fun a s1 z => ?_) fun _ _ y => y))
  obtain ⟨z1, z2, z3⟩ := z
  obtain ⟨ap, ak⟩ := a
  dsimp only at z2 z3
  subst z2
  refine wpAny_bind (wpAny_standAt ?_)
  dsimp only
  simp only [hs]
  refine wpAny_bind ((keeper_inst z1 hd).here ?_)
  refine wpAny_bind (wpAny_mono (wpAny_operateT (m := call (.ref x) ([] ++ ap)) z3) (fun r s2 hr => wpAny_bind (wpAny_holding (wpAny_point (wpAny_pure hr)))) fun _ _ y => y)
/-- what a class must have that its instances may be called -/
structure Cl (K : PySem.W.Frag) (C f : Addr) : Prop where
  at_ : PySem.W.findIn K (.ref C) "__call__" = some (some (.ref f))
  fn : PySem.W.isFn K (.ref f) = true
  fi : PySem.W.fnIn K f = true
/-- the i-th slot holds an instance of the class at C -/
def tCallI (i : Nat) (C : Addr) (sp : Sp) (E : XK) (t : TA) : TE := fun σ H Q => ∃ a dx fs, σ[i]? = some (some (.ref a)) ∧ H a = some (.ins C dx fs) ∧ t σ H fun vs H1 => H1 a = some (.ins C dx fs) ∧ sp (.ref a :: vs) H1 Q E
theorem pe_callI {X : Cx} {CX : CXT} {k i : Nat} {f C : Addr} {fd : FuncData} {ps : List Str} {sp : Sp} {E : XK} {x : Str} {p pos : Pos} {e : Expr} {es : List Expr} {t : TA}
    (F : FnOk X.prog X.w X.K X.mg X.base CX k f fd ps sp) (L : Cl X.K C f) (hr : Room k X.A) (hN : X.N[i]? = some x) (hv : Vis X.env.scope x) (hb : Binds X.K fd ps []) (hx : Passes CX X E) (ha : PA X (e :: es) t)
    (hdb : (x == ("__debug__" : Str)) = false := by decide) (hcd : (x == ("__classdict__" : Str)) = false := by decide)
    (he : starEach (e :: es) X.env = (false, eval e X.env) :: starEach es X.env := by rfl) (hpl : (backTo pos (starEach es X.env)).any (·.1) = false := by rfl) :
    PE X (.Call (.Name x p) (e :: es) [] pos) (tCallI i C sp E t) := by
  refine ⟨fun pins s σ H Q I h => ?_⟩
  obtain ⟨a, dx, fs, hs, hi, ht⟩ := h
  refine wpAny_Call_Name_kw (thn ((pe_var (pos := p) hN hv hdb hcd).run pins s σ H (fun v H1 => v = .ref a ∧ H1 = H) I ⟨.ref a, hs, rfl, rfl⟩) fun u s1 ⟨v, H1, I1, r1, q1⟩ => ?_)
  obtain ⟨rfl, rfl⟩ := q1
  cases r1
  refine callWith_inst (o := PySem.W.instObj C dx) rfl (thn (ha.run pos pins s1 σ _ _ I1 ht) fun us s2 ⟨vs, H2, I2, r, q⟩ => ?_) he hpl
  obtain ⟨q1, q2⟩ := q
  obtain ⟨mA, O, _⟩ := ins_get I2.hok q1
  obtain ⟨od, J, _⟩ := O.look
  refine ⟨O.obj, ?_⟩
  have r3 : Vals (.ref a :: vs) (.ref a :: us) := .cons rfl r
  have hl : ((.ref a :: us) ++ ([] : List Value)).length = ps.length := by rw [List.append_nil, ← r3.length]; exact F.len _ _ _ _ q2
  have run := F.run X.A X.stack s2 H2 ⟨.ref a :: us, []⟩ (.ref a :: us) (.ref a :: vs) Q E hr I2.env0 (by have := hb s2 (.ref a :: us) I2.kIn hl; rw [List.append_nil] at this; exact this) r3 q2
  refine wpAny_call (codeAny_mono (PySem.W.kco_code (a := ⟨us, []⟩) I2.kIn J rfl L.at_ L.fn L.fi run) fun r s' hq => ?_)
  cases r with
  | error e => exact hx pins σ H2 s2 e s' I2 hq
  | ok fl =>
    cases fl with
    | ret u => exact I2.after hq
    | next => exact False.elim hq
    | brk => exact False.elim hq
    | cont => exact False.elim hq
/-- a square of a wide int -/
def CSq (i j : Int) : Prop := j = 2 ∧ i.natAbs < 2 ^ 4000
theorem op_sq {X : Cx} : OpR X (binaryOp .Pow) (rI CSq fun i j => .int (i ^ j.toNat)) := opI fun i j _ _ _ _ _ hc q => by
  have hb := PyProof.Rows.intBits_le hc.2
  exact PyProof.Rows.pow_int (by rw [hc.1]; decide) (by rw [hc.1]; omega) q
end WC
/-! A rule for «match e: case 'a': .. case _: ..» over a text. -/
namespace L2
open PySem PySem.Spec PyProof.Rows
/-- the cases of a match, of a value -/
structure PM (X : Cx) (cs : List MatchCase) (t : V → TS) : Prop where
  run : ∀ (pins : List (Addr × Obj)) (s : Shared) (σ : St) (H : Hp) (D : Ends) (v : V) (u : Value) (first : Bool), Inv X pins σ H s → RelV v u → t v D σ H → wpAny (model X.prog X.w) X.A (matchCases cs X.env u first) (SP X pins D) X.xe s
section
variable {X : Cx}
def tMNil : V → TS := fun _ D σ H => D.nx σ H
def tMStr (x : Str) (tb : TS) (tr : V → TS) : V → TS := fun v D σ H => ∃ y, v = .str y ∧ if decide (y = x) = true then tb D σ H else tr (.str y) D σ H
def tMAny (tb : TS) : V → TS := fun _ D σ H => tb D σ H
theorem pm_nil : PM X [] tMNil := ⟨fun pins s σ H D v u first I r h => wpAny_matchCases_nil ⟨σ, H, I, h⟩⟩
theorem pm_str {x : Str} {j p1 p2} {body : List Stmt} {rest : List MatchCase} {tb : TS} {tr : V → TS} (hb : PSs X body tb) (hr : PM X rest tr) :
    PM X (⟨.MatchValue (.Constant (.str x) j p1) p2, none, body⟩ :: rest) (tMStr x tb tr) := by
  refine ⟨fun pins s σ H D v u first I r h => ?_⟩
  obtain ⟨y, rfl, q⟩ := h
  obtain ⟨t, rfl⟩ := r
  refine wpAny_matchCases_cons (wpAny_matchPattern_Value (Calls.Constant_str ?_))
  refine eq_str ?_
  refine wpAny_truthy_bool ?_
  by_cases e : y = x
  · have e1 : (y == x) = true := by rw [e]; exact beq_self_eq_true x
    rw [if_pos (decide_eq_true e)] at q
    first
      | rw [e1]
      | (rw [decide_eq_true e])
    show wpAny _ X.A (assignInOrder [] []) _ _ _
    exact wpAny_assignInOrder_none (hb.run pins _ σ H D (I.tok _) q)
  · have e1 : (y == x) = false := beq_eq_false_iff_ne.mpr e
    rw [if_neg (by rw [decide_eq_false e]; exact Bool.false_ne_true)] at q
    first
      | rw [e1]
      | (rw [decide_eq_false e])
    exact hr.run pins _ σ H D (.str y) _ false (I.tok _) ⟨t, rfl⟩ q
theorem pm_any {p2} {body : List Stmt} {tb : TS} (hb : PSs X body tb) : PM X [⟨.MatchAs none none p2, none, body⟩] (tMAny tb) := by
  refine ⟨fun pins s σ H D v u first I r h => ?_⟩
  refine wpAny_matchCases_cons (wpAny_matchPattern_Capture ?_)
  show wpAny _ X.A (assignInOrder [] []) _ _ _
  exact wpAny_assignInOrder_none (hb.run pins _ σ H D I h)
def tMatch (te : TE) (t : V → TS) : TS := fun D σ H => te σ H fun v H1 => t v D σ H1
theorem ps_match {e : Expr} {cs : List MatchCase} {pos : Pos} {te : TE} {t : V → TS} (he : PE X e te) (hc : PM X cs t) : PS X (.Match e cs pos) (tMatch te t) := by
  refine ⟨fun pins s σ H D I h => ?_⟩
  refine wpAny_Match (thn (he.run pins s σ H _ I h) fun u s1 ⟨v, H1, I1, r1, q1⟩ => ?_)
  exact hc.run pins s1 σ H1 D v u true I1 r1 q1
/-! the rules that speak of the written part, with K said outright: for a comprehension's block, where the context is bound -/
section
variable {X : Cx}
theorem ix_tupK {K : PySem.W.Frag} (h : X.K = K) : IxR X (rIxT K) := by subst h; exact ix_tup
theorem ix_listK {K : PySem.W.Frag} (h : X.K = K) : IxR X (rIxL K) := by subst h; exact ix_list
theorem sl_listK {K : PySem.W.Frag} (h : X.K = K) : SlR X (rSlL K) := by subst h; exact sl_list
theorem sl_tupK {K : PySem.W.Frag} (h : X.K = K) : SlR X (rSlT K) := by subst h; exact sl_tup
theorem op_in_seqK {K : PySem.W.Frag} (h : X.K = K) : OpR X (compareOp .In) (rIn K false) := by subst h; exact op_in_seq
theorem op_notIn_seqK {K : PySem.W.Frag} (h : X.K = K) : OpR X (compareOp .NotIn) (rIn K true) := by subst h; exact op_notIn_seq
theorem call_len_seqK {K : PySem.W.Frag} (h : X.K = K) : CallR X (.builtin "len") (fun xs H Q => ∃ p ys, xs = [.ref p] ∧ (SqL K H p ys ∨ SqT K H p ys) ∧ Q (.int ys.length) H) := by subst h; exact call_len_seq
theorem call_isiK1 {K : PySem.W.Frag} (h : X.K = K) : CallR X (.builtin "isinstance") (rIsi K) := by subst h; exact call_isi
theorem cr_allK {K : PySem.W.Frag} (h : X.K = K) (hc : X.calm = true) : CallR X (.builtin "all") (rAll K) := by subst h; exact cr_all hc
theorem cr_anyK {K : PySem.W.Frag} (h : X.K = K) (hc : X.calm = true) : CallR X (.builtin "any") (rAny K) := by subst h; exact cr_any hc
theorem cr_sumK {K : PySem.W.Frag} (h : X.K = K) (hc : X.calm = true) : CallR X (.builtin "sum") (rSum K) := by subst h; exact cr_sum hc
end
end
end L2
/-! Rules for «one or the other», max of three ints, the written part's letter said outright. -/
namespace L2
open PySem PySem.Spec PyProof.Rows
section
variable {X : Cx}
theorem pi_or {tg iter : Expr} {w1 w2 : TI} (h1 : PI X tg iter w1) (h2 : PI X tg iter w2) : PI X tg iter (fun σ H R => w1 σ H R ∨ w2 σ H R) :=
  ⟨fun pins s σ H R I h => h.elim (h1.run pins s σ H R I) (h2.run pins s σ H R I)⟩
theorem pg_or {tg : Expr} {g1 g2 : TG} (h1 : PG X tg g1) (h2 : PG X tg g2) : PG X tg (fun v σ H Q => g1 v σ H Q ∨ g2 v σ H Q) :=
  ⟨fun pins s σ H v u Q I r h => h.elim (h1.run pins s σ H v u Q I r) (h2.run pins s σ H v u Q I r)⟩
theorem ix_or : IxR X (fun x y H Q => rIxL X.K x y H Q ∨ rIxT X.K x y H Q) := ix_list.or ix_tup
theorem ix_orK {K : PySem.W.Frag} (h : X.K = K) : IxR X (fun x y H Q => rIxL K x y H Q ∨ rIxT K x y H Q) := by subst h; exact ix_or
theorem call_max3I (hc : X.calm = true) : CallR X (.builtin "max") (fun xs H Q => ∃ i j k : Int, xs = [.int i, .int j, .int k] ∧ Q (.int (if k > (if j > i then j else i) then k else (if j > i then j else i))) H) := by
  intro pins s σ H xs us Q I r h
  obtain ⟨i, j, k, rfl, q⟩ := h
  have e : nuMax3 (.int i) (.int j) (.int k) = some (.int (if k > (if j > i then j else i) then k else (if j > i then j else i))) := by
    have two : ∀ a b : Int, nuMax2 (.int a) (.int b) = some (.int (if b > a then b else a)) := fun a b => by
      show some (if decide (a < b) = true then V.int b else V.int a) = _
      by_cases h : b > a
      · rw [if_pos (decide_eq_true (show a < b from h)), if_pos h]
      · rw [if_neg (by rw [decide_eq_false (show ¬ a < b from h)]; exact Bool.false_ne_true), if_neg h]
    unfold nuMax3
    rw [two i j]
    exact two _ k
  exact call_max3Nu hc pins s σ H _ us Q I r ⟨_, _, _, _, rfl, e, q⟩
theorem call_list_ofK {K : PySem.W.Frag} (h : X.K = K) : CallR X (.type "list") (fun xs H Q => ∃ p ys, xs = [.ref p] ∧ (SqL K H p ys ∨ SqT K H p ys) ∧ ∀ l, H l = none → Q (.ref l) (upd H l (.lst ys))) := by subst h; exact call_list_of
theorem call_tuple_ofK {K : PySem.W.Frag} (h : X.K = K) : CallR X (.type "tuple") (fun xs H Q => ∃ p ys, xs = [.ref p] ∧ ((SqL K H p ys ∧ ∀ l, H l = none → Q (.ref l) (upd H l (.tup ys))) ∨ (SqT K H p ys ∧ Q (.ref p) H))) := by subst h; exact call_tuple_of
theorem pg_tupK {K : PySem.W.Frag} {es : List Expr} {k : Nat} {t : TGs} {n : Nat} {pos : Pos} (hK : X.K = K) (hc : X.calm = true) (h : PGs X es t)
    (hn : (assignEach es X.env).length = n := by rfl) (hst : (assignEach es X.env).findIdx? (·.1) = none := by rfl) : PG X (.Tuple es k pos) (gTup K n t) := by subst hK; exact pg_tup hc h hn hst
theorem pg_lstK {K : PySem.W.Frag} {es : List Expr} {k : Nat} {t : TGs} {n : Nat} {pos : Pos} (hK : X.K = K) (hc : X.calm = true) (h : PGs X es t)
    (hn : (assignEach es X.env).length = n := by rfl) (hst : (assignEach es X.env).findIdx? (·.1) = none := by rfl) : PG X (.Tuple es k pos) (gLst K n t) := by subst hK; exact pg_lst hc h hn hst
end
section
variable {X : Cx}
/-- y = {..}, a dict comprehension stored in its own statement -/
theorem ps_setDc {i : Nat} {y : Str} {py : Pos} {kx vx tg iter : Expr} {ifs : List Expr} {scope : Scope} {own : List (Str × Nat)} {pos spos : Pos} {wi : TI} {g : TG} {tt : TT} {tk tv : TE} (hc : X.calm = true) (hN : X.N.Nodup) (hy : X.N[i]? = some y) (hyl : X.env.scope.names.lookup y = some .local)
    (hsw : swapsWith (.DictComp kx vx [⟨tg, iter, ifs, 0⟩] scope pos) (some (.Name y py)) spos.line X.env = pure true) (hi : PI X tg iter wi) (ok : BlkOk X.N X.env.scope scope own)
    (hg : ∀ (s : Shared) (H : Hp) (C : Addr) (cl : List (Str × Addr)) (fp : List Addr), PG (X.blk s H scope (compEnvC scope cl C X.env) fp) tg g) (ht : ∀ (s : Shared) (H : Hp) (C : Addr) (cl : List (Str × Addr)) (fp : List Addr), PTs (X.blk s H scope (compEnvC scope cl C X.env) fp) ifs tt)
    (hk : ∀ (s : Shared) (H : Hp) (C : Addr) (cl : List (Str × Addr)) (fp : List Addr), PE (X.blk s H scope (compEnvC scope cl C X.env) fp) kx tk)
    (he : ∀ (s : Shared) (H : Hp) (C : Addr) (cl : List (Str × Addr)) (fp : List Addr), PE (X.blk s H scope (compEnvC scope cl C X.env) fp) vx tv) (hs : ∀ x, foldedSetIterable iter X.env x = pure x := by intro _; rfl) :
    PS X (.Assign [.Name y py] (.DictComp kx vx [⟨tg, iter, ifs, 0⟩] scope pos) spos) (tAsg (tDc wi g tt tk tv (own.map (·.2))) (gName i)) := by
  refine ⟨fun pins s σ H D I h => ?_⟩
  rw [exec_Assign_Name_used _ _ _ _ hsw]
  refine wpAny_bind (wpAny_standAt (wpAny_bind ?_))
  show wpAny _ X.A (do let _ ← comprehension (.DictComp kx vx [⟨tg, iter, ifs, 0⟩] scope pos) scope X.env (firstIterPos [⟨tg, iter, ifs, 0⟩] pos) newDict false (eval iter X.env) (some (assign (.Name y py) X.env))) _ _ s
  have h : tDc wi g tt tk tv (own.map (·.2)) σ H (fun x H1 => gName i x σ H1 D.nx) := h
  refine wpAny_bind (thn (dc_core (Qf := fun _ s' => SP X pins D .next s') hc hN I hi ok hg ht hk he hs h fun L C s' m H' I' q hn f => ?_) fun _ s' hq => wpAny_pure (wpAny_pure hq))
  show wpAny _ _ (assign (.Name y py) X.env (.ref L)) _ _ _
  refine wpAny_assign_Name (store_ok2 (v := V.ref L) I' hN hy (.inl hyl) rfl (fun s2 I2 hex => ?_) (.inr hyl))
  obtain ⟨a, sb, ha⟩ := hex
  obtain ⟨f0, f1, f2, f3, f4, f5⟩ := f
  have haC : C ≠ a := ha.elim (fun z => by rw [z]; exact f1) fun z e => f4 y a z e.symm
  exact ⟨m, hn.sameBut sb haC, fun h3 sb3 => ⟨_, H', I2.turned (t' := s2.toks) (fun b o hb e => (sb3.2 b hb).trans e) f0 f1 f3 f4 f5, q⟩⟩
theorem sw_trueD {kx vx : Expr} {gs : List Comprehension} {scope : Scope} {pos py : Pos} {y : Str} {l : Nat} {env : Env} (hk : env.scope.kind = .function) (hy : env.scope.names.lookup y = some .local) (hl : (py.line == pos.line) = true)
    (ha : (scope.names.any fun (n, k) => n == y && (k == .local || k == .cell)) = false) : swapsWith (.DictComp kx vx gs scope pos) (some (.Name y py)) l env = pure true := by
  have ky : env.kindOf y = some .local := hy
  have hb : env.blockKind = .function := by
    unfold Env.blockKind
    rw [hk]
    rfl
  unfold swapsWith
  simp only [hb, ky, ha, Expr.pos, hl]
  rfl
end
/-- a dict comprehension over a list that stays -/
theorem dc_list {K : PySem.W.Frag} {a : Addr} {xs : List V} {g : TG} {tt : TT} {tk tv : TE} {vs : List Nat} {σ : St} {H1 : Hp} {D : Addr} {Qd : Hp → Prop} (Pv : Nat → Hp → Prop) (h0 : Pv 0 (upd H1 D (.dK []))) (hl : ∀ i H, i ≤ xs.length → Pv i H → SqL K H a xs)
    (hs : ∀ i x H, xs[i]? = some x → Pv i H → g x (wipe σ vs) H fun σ2 H2 => wipe σ2 vs = wipe σ vs ∧ tt σ2 H2 fun b H3 =>
      if b = true then tk σ2 H3 fun y H4 => tv σ2 H4 fun z H5 => ∃ kvs k, y = kV k ∧ H5 D = some (.dK kvs) ∧ kvs.length < sizeLine ∧ Pv (i + 1) (upd H5 D (.dK (putK kvs k z))) else Pv (i + 1) H3) (hd : ∀ H, Pv xs.length H → Qd H) :
    ∃ W : Nat → Nat → Hp → Prop, (∃ m, W 0 m (upd H1 D (.dK []))) ∧ ∀ i m H, W i m H →
      ((Itl K a).stop i H ∧ Qd H) ∨ ((Itl K a).go i H ∧ ∃ Nx : Hp → Prop, (∀ H', Nx H' → ∃ m', m' < m ∧ W (i + 1) m' H') ∧ ∀ x H', (Itl K a).yld i H x H' → g x (wipe σ vs) H' fun σ2 H2 => wipe σ2 vs = wipe σ vs ∧ tt σ2 H2 fun b H3 =>
        if b = true then tk σ2 H3 fun y H4 => tv σ2 H4 fun z H5 => ∃ kvs k, y = kV k ∧ H5 D = some (.dK kvs) ∧ kvs.length < sizeLine ∧ Nx (upd H5 D (.dK (putK kvs k z))) else Nx H3) := by
  refine ⟨fun i m H => m = xs.length - i ∧ i ≤ xs.length ∧ Pv i H, ⟨xs.length, by simp, Nat.zero_le _, h0⟩, ?_⟩
  rintro i m H ⟨rfl, hi, p⟩
  have q := hl i H hi p
  rcases Nat.lt_or_ge i xs.length with hlt | hge
  · refine .inr ⟨⟨xs, xs[i], q, by simp [hlt]⟩, Pv (i + 1), fun H' p' => ⟨xs.length - (i + 1), by omega, rfl, hlt, p'⟩, ?_⟩
    rintro x H' ⟨rfl, y⟩
    exact hs i x _ (y xs q) p
  · obtain rfl : i = xs.length := Nat.le_antisymm hi hge
    exact .inl ⟨⟨xs, q, Nat.le_refl _⟩, hd H p⟩
/-- a dict comprehension over the list or the tuple in slot i, which stays -/
theorem tDc_or {K : PySem.W.Frag} {a : Addr} {xs : List V} {i : Nat} {g : TG} {tt : TT} {tk tv : TE} {vs : List Nat} {σ : St} {H : Hp} {Q : VK} (hi : σ[i]? = some (some (V.ref a))) (hx : H a = some (.lst xs) ∨ H a = some (.tup xs)) (Pv : Addr → Nat → Hp → Prop)
    (h0 : ∀ D, H D = none → Pv D 0 (upd H D (.dK []))) (hl : ∀ D, H D = none → ∀ j H', Pv D j H' → ∀ u, H a = some u → H' a = some u)
    (hs : ∀ D, H D = none → ∀ j x H', xs[j]? = some x → Pv D j H' → g x (wipe σ vs) H' fun σ2 H2 => wipe σ2 vs = wipe σ vs ∧ tt σ2 H2 fun b H3 =>
      if b = true then tk σ2 H3 fun y H4 => tv σ2 H4 fun z H5 => ∃ kvs k, y = kV k ∧ H5 D = some (.dK kvs) ∧ kvs.length < sizeLine ∧ Pv D (j + 1) (upd H5 D (.dK (putK kvs k z))) else Pv D (j + 1) H3)
    (hd : ∀ D, H D = none → ∀ H', Pv D xs.length H' → Q (.ref D) H') : tDc (fun σ H R => iList K (tVar i) σ H R ∨ iTup K (tVar i) σ H R) g tt tk tv vs σ H Q := by
  rcases hx with hx | hx
  · exact .inl ⟨_, hi, a, rfl, ⟨_, SqL.of hx⟩, fun D hD => dc_list (K := K) (a := a) (xs := xs) (Pv D) (h0 D hD) (fun j H' _ p => SqL.of (hl D hD j H' p _ hx)) (hs D hD) (hd D hD)⟩
  · exact .inr ⟨_, hi, a, rfl, ⟨_, SqT.of hx⟩, fun D hD => dc_tup (K := K) (a := a) (xs := xs) (Pv D) (h0 D hD) (fun j H' _ p => SqT.of (hl D hD j H' p _ hx)) (hs D hD) (hd D hD)⟩
/-- a loop over the list or the tuple in slot i, which stays -/
theorem tFor_or {K : PySem.W.Frag} {a : Addr} {xs : List V} {i : Nat} {g : TG} {tb : TS} {D : Ends} {σ : St} {H : Hp} (hi : σ[i]? = some (some (V.ref a))) (hx : H a = some (.lst xs) ∨ H a = some (.tup xs)) (Pv : Nat → St → Hp → Prop)
    (h0 : Pv 0 σ H) (hl : ∀ j σ' H', Pv j σ' H' → ∀ u, H a = some u → H' a = some u)
    (hs : ∀ j x σ' H', xs[j]? = some x → Pv j σ' H' → g x σ' H' fun σ2 H2 => tb { D with nx := Pv (j + 1), ct := Pv (j + 1), bk := D.nx } σ2 H2)
    (hd : ∀ σ' H', Pv xs.length σ' H' → D.nx σ' H') : tFor (fun σ H R => iList K (tVar i) σ H R ∨ iTup K (tVar i) σ H R) g tb D σ H := by
  rcases hx with hx | hx
  · exact .inl ⟨_, hi, a, rfl, ⟨_, SqL.of hx⟩, for_list (K := K) (a := a) (xs := xs) Pv h0 (fun j σ' H' _ p => SqL.of (hl j σ' H' p _ hx)) hs hd⟩
  · exact .inr ⟨_, hi, a, rfl, ⟨_, SqT.of hx⟩, for_tup (K := K) (a := a) (xs := xs) Pv h0 (fun j σ' H' _ p => SqT.of (hl j σ' H' p _ hx)) hs hd⟩
/-- a comprehension over the list or the tuple in slot i, which stays -/
theorem tLc_or {K : PySem.W.Frag} {a : Addr} {xs : List V} {i : Nat} {g : TG} {tt : TT} {te : TE} {vs : List Nat} {σ : St} {H : Hp} {Q : VK} (hi : σ[i]? = some (some (V.ref a))) (hx : H a = some (.lst xs) ∨ H a = some (.tup xs)) (Pv : Addr → Nat → Hp → Prop)
    (h0 : ∀ D, H D = none → Pv D 0 (upd H D (.lst []))) (hl : ∀ D, H D = none → ∀ j H', Pv D j H' → ∀ u, H a = some u → H' a = some u)
    (hs : ∀ D, H D = none → ∀ j x H', xs[j]? = some x → Pv D j H' → g x (wipe σ vs) H' fun σ2 H2 => wipe σ2 vs = wipe σ vs ∧ tt σ2 H2 fun b H3 =>
      if b = true then te σ2 H3 fun y H4 => ∃ acc, H4 D = some (.lst acc) ∧ acc.length < sizeLine ∧ Pv D (j + 1) (upd H4 D (.lst (acc ++ [y]))) else Pv D (j + 1) H3)
    (hd : ∀ D, H D = none → ∀ H', Pv D xs.length H' → Q (.ref D) H') : tLc (fun σ H R => iList K (tVar i) σ H R ∨ iTup K (tVar i) σ H R) g tt te vs σ H Q := by
  rcases hx with hx | hx
  · exact .inl ⟨_, hi, a, rfl, ⟨_, SqL.of hx⟩, fun D hD => lc_list (K := K) (a := a) (xs := xs) (Pv D) (h0 D hD) (fun j H' _ p => SqL.of (hl D hD j H' p _ hx)) (hs D hD) (hd D hD)⟩
  · exact .inr ⟨_, hi, a, rfl, ⟨_, SqT.of hx⟩, fun D hD => lc_tup (K := K) (a := a) (xs := xs) (Pv D) (h0 D hD) (fun j H' _ p => SqT.of (hl D hD j H' p _ hx)) (hs D hD) (hd D hD)⟩
end L2
/-! Own errors: made, raised, caught, asked of; defs that raise; defs that are called in a suite. All over the errors whose context is None. -/
namespace EX
open PySem PySem.Spec PyProof.Rows L2
/-- a def that may raise, by its body -/
theorem okR {P : Program} {w : World} {K : PySem.W.Frag} {mg : Str → Option Value} {base : Heap} {x qual : Str} {st : Stmt} {f : Addr} {fd : FuncData} {N ps : List Str} {k : Nat} {sp : Sp} (F : Fun K x qual st f fd) (S : FnScope N ps (defScope st))
    (len : ∀ vs H Q E, sp vs H Q E → vs.length = ps.length)
    (body : ∀ (cdv : Value) (A : Around) (outer : List Env) (s : Shared) (H : Hp) (vs : List V) (Q : VK) (E : XK), Room k (A.deeper (envOfC qual (defScope st) s.heap.objs.size f cdv)) → sp vs H Q E →
      ∃ t, PSs (cxOf (L2N.CX P w) P w K mg base N qual (defScope st) f cdv A outer s H E) (defBody st) t ∧ t { nx := fun _ H' => Q .non H', rt := Q } (start N vs) H) :
    FnOk P w K mg base (L2N.CX P w) (k + 1) f fd ps sp := by
  obtain ⟨oc, od, kV, doc, pm, an, cdv, ct, osl, rfl, lk, hcd⟩ := F.ex
  exact fn_of lk hcd S len fun A outer s H vs Q E hr hsp => body cdv A outer s H vs Q E hr hsp
/-- a def that does not raise, called while an error is handled, by its body -/
theorem okH {P : Program} {w : World} {K : PySem.W.Frag} {mg : Str → Option Value} {base : Heap} {x qual : Str} {st : Stmt} {f : Addr} {fd : FuncData} {N ps : List Str} {k : Nat} {sp : Sp} (F : Fun K x qual st f fd) (S : FnScope N ps (defScope st))
    (len : ∀ vs H Q E, sp vs H Q E → vs.length = ps.length)
    (body : ∀ (cdv : Value) (A : Around) (outer : List Env) (s : Shared) (H : Hp) (vs : List V) (Q : VK) (E : XK) (p : Addr × Obj), L2H.RoomH k (A.deeper (envOfC qual (defScope st) s.heap.objs.size f cdv)) → L2H.Hot1 A p → sp vs H Q E →
      ∃ t, PSs (L2H.cxH CX0 P w K mg base N qual (defScope st) f cdv A outer s H E p).nox (defBody st) t ∧ t { nx := fun _ H' => Q .non H', rt := Q } (start N vs) H) :
    L2H.FnH P w K mg base CX0 (k + 1) f fd ps sp := by
  obtain ⟨oc, od, kV, doc, pm, an, cdv, ct, osl, rfl, lk, hcd⟩ := F.ex
  refine L2H.fn_ofH lk hcd S len fun A outer s H vs Q E p hot hr hsp => ?_
  obtain ⟨t, h, q⟩ := body cdv A outer s H vs Q E p hr hot hsp
  exact ⟨t, h.nox, q⟩
/-- defs as their callers see them: one that may raise; one that is called in a suite -/
def CalX (P : Program) (w : World) (K : PySem.W.Frag) (mg : Str → Option Value) (base : Heap) (k : Nat) (x : Str) (ps : List Str) (sp : Sp) : Prop :=
  ∃ (f : Addr) (fd : FuncData), FnOk P w K mg base (L2N.CX P w) k f fd ps sp ∧ mg x = some (.ref f) ∧ PySem.W.keepIn K (.ref f) = true ∧ Binds K fd ps []
def CalH (P : Program) (w : World) (K : PySem.W.Frag) (mg : Str → Option Value) (base : Heap) (k : Nat) (x : Str) (ps : List Str) (sp : Sp) : Prop :=
  ∃ (f : Addr) (fd : FuncData), L2H.FnH P w K mg base CX0 k f fd ps sp ∧ mg x = some (.ref f) ∧ PySem.W.keepIn K (.ref f) = true ∧ Binds K fd ps []
section
variable {X : Cx} {k : Nat} {x : Str} {ps : List Str} {sp : Sp} {p pos : Pos} {e : Expr} {es : List Expr} {t : TA} {W : WX}
/-- f(..) that may raise; W: what is wished of what is raised -/
theorem pe_calX (C : CalX X.prog X.w X.K X.mg X.base k x ps sp) (hr : Room k X.A) (hg : Gl X x) (tk : L2N.Takes X W) (ha : PA X (e :: es) t)
    (hdb : (x == ("__debug__" : Str)) = false := by decide) (he : starEach (e :: es) X.env = (false, eval e X.env) :: starEach es X.env := by rfl) (hpl : (backTo pos (starEach es X.env)).any (·.1) = false := by rfl) :
    PE X (.Call (.Name x p) (e :: es) [] pos) (tCallS sp (WE W) t) := by
  obtain ⟨f, fd, G, m, kp, b⟩ := C
  exact pe_callS G hr hg m kp b (L2N.passAt tk) ha hdb he hpl
theorem passH {X : Cx} {σ : L2.St} : PassesAt CX0 X σ E0 := fun _ _ _ _ _ _ h => h.elim
/-- f(..) in a suite -/
theorem pe_calH (C : CalH X.prog X.w X.K X.mg X.base k x ps sp) (hr : L2H.RoomH k X.A) (hc : L2H.HotC X) (hg : Gl X x) (ha : PA X (e :: es) t)
    (hdb : (x == ("__debug__" : Str)) = false := by decide) (he : starEach (e :: es) X.env = (false, eval e X.env) :: starEach es X.env := by rfl) (hpl : (backTo pos (starEach es X.env)).any (·.1) = false := by rfl) :
    PE X (.Call (.Name x p) (e :: es) [] pos) (tCallS sp (fun _ => E0) t) := by
  obtain ⟨f, fd, G, m, kp, b⟩ := C
  exact L2H.pe_callH G hr hc hg m kp b (fun _ => passH) ha hdb he hpl
/-- the suite of an error whose context is None bears it -/
theorem hot_of {X : Cx} {a : Addr} {oe : Obj} {cls : Value} {d : Option Addr} {pn : List (Addr × Obj)} (hz : L2N.Zn cls d oe) (hf : ∃ vs, oe.data = .fields vs) : L2H.HotC (X.suite a ((a, oe) :: pn)) := by
  obtain ⟨vs, e⟩ := hf
  exact ⟨(a, oe), ⟨rfl, vs, e, hz.2.2 vs e⟩, List.mem_cons_self⟩
theorem roomS {X : Cx} {k : Nat} {a : Addr} {pn : List (Addr × Obj)} (hr : Room k X.A) : L2H.RoomH k (X.suite a pn).A := ⟨hr.dp, hr.un⟩
/-- nothing is let out -/
theorem takesN {X : Cx} : L2N.Takes X (fun _ _ _ _ => False) := fun _ _ h => by
  obtain ⟨_, _, _, _, _, _, _, _, _, _, _, _, _, _, _, _, z⟩ := h
  exact z.elim
theorem passN {X : Cx} {E : XK} : Passes CX0 X E := fun _ _ _ _ _ _ _ h => h.elim
end
/-! ### making -/
section
variable {X : Cx} {C : Addr} {bmB : List Value} {B newId initId : String}
/-- X(), an own class without an __init__ -/
theorem pmk0 {x : Str} {p pos : Pos} (F : ExcBaseFacts B newId initId bmB) (q : PySem.W.excIn X.K C bmB newId = true) (gC : X.mg x = some (.ref C)) (kC : PySem.W.keepIn X.K (.ref C) = true) (r : Raises X (.ref C)) (hg : Gl X x)
    (hdb : (x == ("__debug__" : Str)) = false := by decide) : L2N.PMk X (.Call (.Name x p) [] [] pos) (fun _ H Q => Q (.ref C) none H) := by
  intro pins s σ H Q I h
  refine wpAny_Call_Name_kw (ld_glob I hg gC (PySem.W.callWith_K0 I.kIn kC ?_) hdb)
  obtain ⟨bm, N, nm, qn, bs, hdct, sn, sub, ab, col, dd, k0, k1, k2, k3, k5, mN, hC, hN, hni, T⟩ := exc_obj I.kIn q
  exact wpAny_call_exc_subT F T hC hN hni (fun h' e hm => L2N.mk_of I hm r h (I.hok.gone hm.new)) (Nat.zero_le _)
/-- X(..), an own class with an __init__ -/
theorem pmkI {CX : CXT} {x : Str} {fI : Addr} {k : Nat} {fd : FuncData} {ps : List Str} {sp : Sp} {e : Expr} {es : List Expr} {ta : TA} {p pos : Pos} (T : OexC X.K C) (iC : PySem.W.findIn X.K (.ref C) "__init__" = some (some (.ref fI)))
    (tI : PySem.W.typeIn X.K (.ref fI) = some (.type "function")) (F1 : FnOk X.prog X.w X.K X.mg X.base CX k fI fd ps sp) (hr : Room (k + 1) X.A) (hb : Binds X.K fd ps []) (hx : Passes CX X (fun _ _ _ => False)) (hg : Gl X x) (hm : X.mg x = some (.ref C)) (ha : PA X (e :: es) ta)
    (hdb : (x == ("__debug__" : Str)) = false := by decide) (he : starEach (e :: es) X.env = (false, eval e X.env) :: starEach es X.env := by rfl) (hpl : (backTo pos (starEach es X.env)).any (·.1) = false := by rfl) :
    L2N.PMk X (.Call (.Name x p) (e :: es) [] pos) (tMkO C sp [] ta) := by
  intro pins s σ H Q I h
  obtain ⟨nm, q, N, bs, bm, sn, sub, ab, col, dd, k0, k1, k2, k3, k5, hC, hbm⟩ := T.cls
  refine wpAny_Call_Name_kw (ld_glob I hg hm (PySem.W.callWith_K (h₀ := X.base) I.ok.mod.kin T.kC (thn (ha.run pos pins s σ H _ I h) fun us s1 hh => ?_) he hpl) hdb)
  obtain ⟨vs, H1, I1, r1, hz, q1⟩ := hh
  refine ⟨I1.kIn, ?_⟩
  show wpAny _ _ (call (.ref C) us) _ _ _
  obtain ⟨hp, g, dr, tk, os⟩ := s1
  have fresh := I1.hok.fresh (Nat.le_succ hp.objs.size)
  have hq := q1 (hp.objs.size + 1) fresh
  rw [List.append_nil] at hq
  generalize eh : (hp.push (PySem.W.kdv_tup us)).push (PySem.HandSPX.excO C hp.objs.size) = hn
  have kk : ∀ b o, hp.get? b = some o → hn.get? b = some o := fun b o z => by
    rw [← eh]
    exact Heap.get?_push_of_some _ (Heap.get?_push_of_some _ z)
  have hget : hn.get? (hp.objs.size + 1) = some (PySem.HandSPX.excO C hp.objs.size) := by
    rw [← eh]
    heap_get
  have I2 : Inv X pins σ (upd H1 (hp.objs.size + 1) (exo (hp.objs.size + 1) C none)) ⟨hn, g, dr, tk, os⟩ := I1.laid (t' := tk) kk (Nat.le_succ _) (exo_ok hget)
  have r2 : Vals (V.ref (hp.objs.size + 1) :: vs) (Value.ref (hp.objs.size + 1) :: us) := .cons rfl r1
  have hl : (Value.ref (hp.objs.size + 1) :: us).length = ps.length := r2.length.symm.trans (F1.len _ _ _ _ hq)
  have hb' := hb _ (Value.ref (hp.objs.size + 1) :: us) I2.kIn (by rw [List.append_nil]; exact hl)
  rw [List.append_nil] at hb'
  have hus : us.length ≤ sizeLine := by
    rw [← Vals.length r1]
    exact Nat.le_trans hz (by rw [sizeLine_eq]; decide)
  have run := F1.run _ X.stack _ _ ⟨Value.ref (hp.objs.size + 1) :: us, []⟩ _ _ _ (fun _ _ _ => False) (hr.make C us []) (I2.env0.make C us []) hb' r2 hq
  rw [← eh] at run
  refine wpAny_call (PySem.HandSPX.call_own F.excBase_ValueError (fun Y => PySem.HandSPX.refsVE_contains Y bm hbm) (I1.kIn _ _ hC) (PySem.W.looks_findIn I1.kIn iC) (fun self => PySem.W.bind_fn I1.kIn self tI) hus (codeAny_mono run fun r s' hq' => ?_))
  rw [eh] at hq'
  cases r with
  | error er => exact hx pins σ _ _ er s' I2 hq'
  | ok fl =>
    cases fl with
    | next => exact hq'.elim
    | brk => exact hq'.elim
    | cont => exact hq'.elim
    | ret u =>
      obtain ⟨v, H2, os2, bare2, un2, hok2, rv, ev, d, fs, ea, ed, hd1, q2⟩ := hq'
      subst ev
      obtain ⟨h2, g2, d2, t2, os'⟩ := s'
      obtain ⟨t0, G, J, kG, ge, hoe, na⟩ := mk_end0 (d2 := d2) (t2 := t2) I1 (Nat.le_succ _) kk un2 hok2 os2 bare2 ea ed hd1
      exact ⟨rv, hp.objs.size + 1, _, _, ⟨G, g2, d2, t2, os'⟩, _, .ref C, some d, rfl, J, kG, ge, hoe, ⟨rfl, rfl, fun vs z => by cases z; rfl⟩, rfl, rfl, na, rfl, bare2, raises_own T.exC T.tyC, q2⟩
end
/-! ### asking of a caught error -/
/-- what the class at C must say for its instances to be asked of -/
structure XCls (K : PySem.W.Frag) (C : Addr) : Prop where
  cl : (PySem.W.clsIn K C).isSome = true
  ga : PySem.W.findIn K (.ref C) "__getattribute__" = some (some (.builtin "BaseException.__getattribute__"))
  gg : PySem.W.findIn K (.ref C) "__getattr__" = some none
  su : PySem.W.subIn K (.ref C) (.type "BaseException") = some true
  ca : PySem.W.findIn K (.ref C) "__class__" = some (some (.builtin "object.__class__"))
  cn : PySem.W.specialIn K (.builtin "object.__class__") "__get__" = some (some (.builtin "getset_descriptor.__get__"))
  ct : PySem.W.takesIn K (.builtin "object.__class__") = some true
  cm : PySem.W.mroIn K C (.type "object") = some true
  hd : PySem.W.hasDictIn K C = true
  ty : PySem.W.typeIn K (.ref C) = some (.type "type")
  kp : PySem.W.keepIn K (.ref C) = true
def xclsB (K : PySem.W.Frag) (C : Addr) : Bool :=
  (PySem.W.clsIn K C).isSome && decide (PySem.W.findIn K (.ref C) "__getattribute__" = some (some (.builtin "BaseException.__getattribute__"))) && decide (PySem.W.findIn K (.ref C) "__getattr__" = some none) &&
  decide (PySem.W.subIn K (.ref C) (.type "BaseException") = some true) && decide (PySem.W.findIn K (.ref C) "__class__" = some (some (.builtin "object.__class__"))) &&
  decide (PySem.W.specialIn K (.builtin "object.__class__") "__get__" = some (some (.builtin "getset_descriptor.__get__"))) && decide (PySem.W.takesIn K (.builtin "object.__class__") = some true) &&
  decide (PySem.W.mroIn K C (.type "object") = some true) && PySem.W.hasDictIn K C && decide (PySem.W.typeIn K (.ref C) = some (.type "type")) && PySem.W.keepIn K (.ref C)
theorem xcls_of {K : PySem.W.Frag} {C : Addr} (h : xclsB K C = true) : XCls K C := by
  unfold xclsB at h
  simp only [Bool.and_eq_true, decide_eq_true_eq] at h
  obtain ⟨⟨⟨⟨⟨⟨⟨⟨⟨⟨a, b⟩, c⟩, d⟩, e⟩, f⟩, g⟩, h⟩, i⟩, j⟩, k⟩ := h
  exact ⟨a, b, c, d, e, f, g, h, i, j, k⟩
theorem XCls.xf {K : PySem.W.Frag} {C : Addr} (T : XCls K C) : XfC K C := ⟨T.ga, T.gg, T.su, T.hd⟩
theorem XCls.raises {X : Cx} {C : Addr} (T : XCls X.K C) : Raises X (.ref C) := raises_own T.su T.ty
theorem XCls.kit {K : PySem.W.Frag} {C x : Addr} {ox : Obj} {od : Option Obj} (T : XCls K C) : PySem.W.KitX K (.ref x) (.ref C) (fun h => PySem.W.InstAt h x ox C od) := PySem.W.kitx_exc T.cl T.ga T.gg T.su T.ca T.cn T.ct T.cm
/-- the class at C beside the class at D, as isinstance and except see them: b tells whether C is D or stands below it -/
structure Below (K : PySem.W.Frag) (C D : Addr) (b : Bool) : Prop where
  one : PySem.W.kitOne K (.ref C) (.ref D) = some b
  exm : PySem.W.exmOne K (.ref C) (.ref D) = some b
theorem exm_kit {K : PySem.W.Frag} {C D : Addr} {b : Bool} (T : XCls K C) (hs : PySem.W.subIn K (.ref C) (.ref D) = some b) (U : XCls K D) (hne : (Value.ref C == Value.ref D) = true → b = true) : Below K C D b := by
  have h2 : ((PySem.W.clsIn K D).isSome && PySem.W.typeIn K (.ref D) == some (.type "type")) = true := by
    rw [U.cl, U.ty]
    rfl
  have h3 : PySem.W.kitCls K (.ref C) (.ref D) = some b := by
    show (if _ then _ else _) = _
    rw [if_pos h2]
    exact hs
  refine ⟨?_, ?_⟩
  · show (if _ then _ else _) = _
    by_cases e : (Value.ref C == Value.ref D) = true
    · rw [if_pos e, hne e]
    · rw [if_neg e]
      exact h3
  · show (if _ then _ else _) = _
    have e : (PySem.W.subIn K (.ref D) (.type "BaseException") == some true) = true := by rw [U.su]; rfl
    rw [if_pos e]
    exact h3
/-- isinstance and except, from what the written part says of two classes -/
theorem kit_sub {K : PySem.W.Frag} {C D : Addr} {b : Bool} (i : PySem.W.isClsIn K D = true) (t : PySem.W.typeIn K (.ref D) = some (.type "type")) (s : PySem.W.subIn K (.ref C) (.ref D) = some b) (r : PySem.W.subIn K (.ref C) (.ref C) = some true) : PySem.W.kitOne K (.ref C) (.ref D) = some b := by
  have h2 : ((PySem.W.clsIn K D).isSome && PySem.W.typeIn K (.ref D) == some (.type "type")) = true := by
    have i' : (PySem.W.clsIn K D).isSome = true := i
    rw [i', t]
    rfl
  show (if _ then _ else _) = _
  by_cases e : (Value.ref C == Value.ref D) = true
  · rw [if_pos e]
    have e' : Value.ref C = Value.ref D := eq_of_beq e
    rw [← e', r] at s
    exact s
  · rw [if_neg e]
    show (if _ then _ else _) = _
    rw [if_pos h2]
    exact s
theorem kit_blt {K : PySem.W.Frag} {C : Addr} {T : String} {b : Bool} (m : PySem.W.kitMeta T = true) (s : PySem.W.subIn K (.ref C) (.type T) = some b) : PySem.W.kitOne K (.ref C) (.type T) = some b := by
  show (if _ then _ else _) = _
  rw [if_neg (by exact Bool.false_ne_true)]
  show (if _ then _ else _) = _
  rw [if_pos m]
  exact s
theorem exm_sub {K : PySem.W.Frag} {C D : Addr} {b : Bool} (i : PySem.W.isClsIn K D = true) (t : PySem.W.typeIn K (.ref D) = some (.type "type")) (e : PySem.W.subIn K (.ref D) (.type "BaseException") = some true) (s : PySem.W.subIn K (.ref C) (.ref D) = some b) : PySem.W.exmOne K (.ref C) (.ref D) = some b := by
  have h2 : ((PySem.W.clsIn K D).isSome && PySem.W.typeIn K (.ref D) == some (.type "type")) = true := by
    have i' : (PySem.W.clsIn K D).isSome = true := i
    rw [i', t]
    rfl
  have h1 : (PySem.W.subIn K (.ref D) (.type "BaseException") == some true) = true := by
    rw [e]
    rfl
  show (if _ then _ else _) = _
  rw [if_pos h1]
  show (if _ then _ else _) = _
  rw [if_pos h2]
  exact s
/-- where the error's own dict stands -/
def DictAt (H : Hp) (d : Option Addr) : Prop := d = none ∨ ∃ (dd : Addr) (fs : List (Str × V)), d = some dd ∧ H dd = some (.xd fs)
theorem inst_of {X : Cx} {pins : List (Addr × Obj)} {σ : L2.St} {H : Hp} {s : Shared} {a D : Addr} {oe : Obj} {d : Option Addr} {pn : List (Addr × Obj)} (I : Inv (X.suite a ((a, oe) :: pn)) pins σ H s) (hz : Zc (.ref D) d oe) (hf : ∃ vs, oe.data = .fields vs) (hd : DictAt H d) :
    ∃ od, PySem.W.InstAt s.heap a oe D od := by
  obtain ⟨hget, _⟩ := I.pin (a, oe) (List.mem_append_left _ List.mem_cons_self)
  obtain ⟨vs, hv⟩ := hf
  have no : PySem.W.notCls oe = true := by unfold PySem.W.notCls; rw [hv]
  rcases hd with rfl | ⟨dd, fs, rfl, hx⟩
  · exact ⟨none, hget, hz.1, no, by rw [hz.2]; trivial⟩
  · have hx : ObjOk X.prog X.w H s.heap dd (.xd fs) := I.hok dd _ hx
    obtain ⟨mA, hns, _⟩ := hx
    obtain ⟨od, ho, _⟩ := lookIn_ns hns
    exact ⟨some od, hget, hz.1, no, by rw [hz.2]; exact ho⟩
/-- isinstance(e, c) -/
def rIsX (K : PySem.W.Frag) (a : Addr) (cls : Value) (d : Option Addr) : List V → Hp → VK → Prop := fun xs H Q => ∃ (D : Addr) (c : V) (cv : Value) (b : Bool), xs = [.ref a, c] ∧ ClsV c cv ∧ cls = .ref D ∧ XCls K D ∧ DictAt H d ∧ PySem.W.kitOne K (.ref D) cv = some b ∧ Q (.bl b) H
/-- isinstance(e, (c, ..)) -/
def rIsXT (K : PySem.W.Frag) (a : Addr) (cls : Value) (d : Option Addr) : List V → Hp → VK → Prop := fun xs H Q => ∃ (D tp : Addr) (cs : List V) (us : List Value) (b : Bool), xs = [.ref a, .ref tp] ∧ H tp = some (.tup cs) ∧ Paired ClsV cs us ∧ cls = .ref D ∧ XCls K D ∧ DictAt H d ∧
  PySem.W.kitAny K (.ref D) us = some b ∧ Q (.bl b) H
section
variable {X : Cx} {a : Addr} {oe : Obj} {cls : Value} {d : Option Addr} {pn : List (Addr × Obj)}
theorem call_isX {K : PySem.W.Frag} (hK : X.K = K) (hz : Zc cls d oe) (hf : ∃ vs, oe.data = .fields vs) : CallR (X.suite a ((a, oe) :: pn)) (.builtin "isinstance") (rIsX K a cls d) := by
  subst hK
  intro pins s σ H xs us Q I r h
  obtain ⟨D, c, cv, b, rfl, k, rfl, T, hd, e, q⟩ := h
  obtain ⟨u1, u2, rfl, r1, r2⟩ := vals2 r
  cases (show u1 = Value.ref a from r1)
  have e2 := k.eq r2
  subst e2
  obtain ⟨od, J⟩ := inst_of I hz hf hd
  exact PySem.W.kia_one T.kit I.kIn J e (fun z => nomatch z) fun tk => ⟨.bl b, H, I.tok tk, rfl, q⟩
theorem call_isXT {K : PySem.W.Frag} (hK : X.K = K) (hz : Zc cls d oe) (hf : ∃ vs, oe.data = .fields vs) : CallR (X.suite a ((a, oe) :: pn)) (.builtin "isinstance") (rIsXT K a cls d) := by
  subst hK
  intro pins s σ H xs us Q I r h
  obtain ⟨D, tp, cs, ws, b, rfl, hT, k, rfl, T, hd, e, q⟩ := h
  obtain ⟨u1, u2, rfl, r1, r2⟩ := vals2 r
  cases (show u1 = Value.ref a from r1)
  cases (show u2 = Value.ref tp from r2)
  obtain ⟨_, its, rv, o, h1, h2, n, h3⟩ := (show ObjOk X.prog X.w H s.heap tp (.tup cs) from I.hok tp _ hT)
  have e3 := ClsV.all k rv
  subst e3
  obtain ⟨oc, od', dt, sl⟩ := o
  simp only at h2 h3
  subst h2 h3
  obtain ⟨od, J⟩ := inst_of I hz hf hd
  exact PySem.W.kia_tup T.kit I.kIn J h1 e (fun z => nomatch z) fun tk => ⟨.bl b, H, I.tok tk, rfl, q⟩
end
end EX
/-! An exception object as a value; a caught error as an argument. -/
namespace EX
open PySem PySem.Spec PyProof.Rows L2
section
variable {X : Cx} {C : Addr} {bmB : List Value} {B newId initId : String}
/-- X() as a value, an own class without an __init__ -/
theorem pe_exc0 {x : Str} {p pos : Pos} (F : ExcBaseFacts B newId initId bmB) (q : PySem.W.excIn X.K C bmB newId = true) (gC : X.mg x = some (.ref C)) (kC : PySem.W.keepIn X.K (.ref C) = true) (hg : Gl X x) (hdb : (x == ("__debug__" : Str)) = false := by decide) :
    PE X (.Call (.Name x p) [] [] pos) (fun _ H Q => ∀ a, H a = none → Q (.ref a) (upd H a (ExO (.ref C) a))) := by
  refine ⟨fun pins s σ H Q I h => ?_⟩
  refine wpAny_Call_Name_kw (ld_glob I hg gC (PySem.W.callWith_K0 I.kIn kC ?_) hdb)
  obtain ⟨bm, N, nm, qn, bs, hdct, sn, sub, ab, col, dd, k0, k1, k2, k3, k5, mN, hC, hN, hni, T⟩ := exc_obj I.kIn q
  refine wpAny_call_exc_subT F T hC hN hni (fun h' e hm => ?_) (Nat.zero_le _)
  have free : H e = none := I.hok.gone hm.new
  obtain ⟨t, there, _, _⟩ := hm.there
  exact ⟨.ref e, _, I.laidN hm.keeps hm.new free (exO_ok there ⟨rfl, rfl⟩ rfl rfl rfl (show 4 < 6 by decide)), rfl, h e free⟩
end
theorem notCls_of {o : Obj} {vs : Array Value} (h : o.data = .fields vs) : PySem.W.notCls o = true := by
  unfold PySem.W.notCls
  rw [h]
/-- isinstance of an exception object that is a value -/
def rIsO (K : PySem.W.Frag) : List V → Hp → VK → Prop := fun xs H Q => ∃ (a D : Addr) (c : V) (cv : Value) (b : Bool), xs = [.ref a, c] ∧ ClsV c cv ∧ H a = some (ExO (.ref D) a) ∧ XCls K D ∧ PySem.W.kitOne K (.ref D) cv = some b ∧ Q (.bl b) H
def rIsOT (K : PySem.W.Frag) : List V → Hp → VK → Prop := fun xs H Q => ∃ (a D tp : Addr) (cs : List V) (us : List Value) (b : Bool), xs = [.ref a, .ref tp] ∧ H tp = some (.tup cs) ∧ Paired ClsV cs us ∧ H a = some (ExO (.ref D) a) ∧ XCls K D ∧ PySem.W.kitAny K (.ref D) us = some b ∧ Q (.bl b) H
section
variable {X : Cx}
theorem inst_O {pins : List (Addr × Obj)} {σ : L2.St} {H : Hp} {s : Shared} {a D : Addr} (I : Inv X pins σ H s) (h : H a = some (ExO (.ref D) a)) : ∃ oe, PySem.W.InstAt s.heap a oe D none := by
  obtain ⟨⟨oe, vs, hget, hz, hd, _⟩, _⟩ := (show ObjOk X.prog X.w H s.heap a (ExO (.ref D) a) from I.hok a _ h)
  exact ⟨oe, hget, hz.1, notCls_of hd, by rw [hz.2]; trivial⟩
theorem call_isO {K : PySem.W.Frag} (hK : X.K = K) : CallR X (.builtin "isinstance") (rIsO K) := by
  subst hK
  intro pins s σ H xs us Q I r h
  obtain ⟨a, D, c, cv, b, rfl, k, ha, T, e, q⟩ := h
  obtain ⟨u1, u2, rfl, r1, r2⟩ := vals2 r
  cases (show u1 = Value.ref a from r1)
  have e2 := k.eq r2
  subst e2
  obtain ⟨oe, J⟩ := inst_O I ha
  exact PySem.W.kia_one T.kit I.kIn J e (fun z => nomatch z) fun tk => ⟨.bl b, H, I.tok tk, rfl, q⟩
theorem call_isOT {K : PySem.W.Frag} (hK : X.K = K) : CallR X (.builtin "isinstance") (rIsOT K) := by
  subst hK
  intro pins s σ H xs us Q I r h
  obtain ⟨a, D, tp, cs, ws, b, rfl, hT, k, ha, T, e, q⟩ := h
  obtain ⟨u1, u2, rfl, r1, r2⟩ := vals2 r
  cases (show u1 = Value.ref a from r1)
  cases (show u2 = Value.ref tp from r2)
  obtain ⟨_, its, rv, o, h1, h2, n, h3⟩ := (show ObjOk X.prog X.w H s.heap tp (.tup cs) from I.hok tp _ hT)
  have e3 := ClsV.all k rv
  subst e3
  obtain ⟨oc, od', dt, sl⟩ := o
  simp only at h2 h3
  subst h2 h3
  obtain ⟨oe, J⟩ := inst_O I ha
  exact PySem.W.kia_tup T.kit I.kIn J h1 e (fun z => nomatch z) fun tk => ⟨.bl b, H, I.tok tk, rfl, q⟩
end
/-! ### isinstance of a pinned error, in any context that bears it -/
def rIsP (K : PySem.W.Frag) (a : Addr) (D : Addr) : List V → Hp → VK → Prop := fun xs H Q => ∃ (c : V) (cv : Value) (b : Bool), xs = [.ref a, c] ∧ ClsV c cv ∧ XCls K D ∧ PySem.W.kitOne K (.ref D) cv = some b ∧ Q (.bl b) H
def rIsPT (K : PySem.W.Frag) (a : Addr) (D : Addr) : List V → Hp → VK → Prop := fun xs H Q => ∃ (tp : Addr) (cs : List V) (us : List Value) (b : Bool), xs = [.ref a, .ref tp] ∧ H tp = some (.tup cs) ∧ Paired ClsV cs us ∧ XCls K D ∧ PySem.W.kitAny K (.ref D) us = some b ∧ Q (.bl b) H
section
variable {X : Cx} {p : Addr × Obj} {D : Addr}
theorem inst_P {pins : List (Addr × Obj)} {σ : L2.St} {H : Hp} {s : Shared} (I : Inv X pins σ H s) (hm : p ∈ X.pn) (hz : Zc (.ref D) none p.2) (hf : ∃ vs, p.2.data = .fields vs) : PySem.W.InstAt s.heap p.1 p.2 D none := by
  obtain ⟨hget, _⟩ := I.pin p (List.mem_append_left _ hm)
  obtain ⟨vs, hv⟩ := hf
  exact ⟨hget, hz.1, notCls_of hv, by rw [hz.2]; trivial⟩
theorem call_isP {K : PySem.W.Frag} (hK : X.K = K) (hm : p ∈ X.pn) (hz : Zc (.ref D) none p.2) (hf : ∃ vs, p.2.data = .fields vs) : CallR X (.builtin "isinstance") (rIsP K p.1 D) := by
  subst hK
  intro pins s σ H xs us Q I r h
  obtain ⟨c, cv, b, rfl, k, T, e, q⟩ := h
  obtain ⟨u1, u2, rfl, r1, r2⟩ := vals2 r
  cases (show u1 = Value.ref p.1 from r1)
  have e2 := k.eq r2
  subst e2
  exact PySem.W.kia_one T.kit I.kIn (inst_P I hm hz hf) e (fun z => nomatch z) fun tk => ⟨.bl b, H, I.tok tk, rfl, q⟩
theorem call_isPT {K : PySem.W.Frag} (hK : X.K = K) (hm : p ∈ X.pn) (hz : Zc (.ref D) none p.2) (hf : ∃ vs, p.2.data = .fields vs) : CallR X (.builtin "isinstance") (rIsPT K p.1 D) := by
  subst hK
  intro pins s σ H xs us Q I r h
  obtain ⟨tp, cs, ws, b, rfl, hT, k, T, e, q⟩ := h
  obtain ⟨u1, u2, rfl, r1, r2⟩ := vals2 r
  cases (show u1 = Value.ref p.1 from r1)
  cases (show u2 = Value.ref tp from r2)
  obtain ⟨_, its, rv, o, h1, h2, n, h3⟩ := (show ObjOk X.prog X.w H s.heap tp (.tup cs) from I.hok tp _ hT)
  have e3 := ClsV.all k rv
  subst e3
  obtain ⟨oc, od', dt, sl⟩ := o
  simp only at h2 h3
  subst h2 h3
  exact PySem.W.kia_tup T.kit I.kIn (inst_P I hm hz hf) h1 e (fun z => nomatch z) fun tk => ⟨.bl b, H, I.tok tk, rfl, q⟩
end
/-! ### a def whose one argument is the error that is handled -/
structure FnE (P : Program) (w : World) (K : PySem.W.Frag) (mg : Str → Option Value) (base : Heap) (k : Nat) (f : Addr) (fd : FuncData) (x : Str) (D : Addr) (v : V) : Prop where
  run : ∀ (A : Around) (outer : List Env) (s : Shared) (H : Hp) (Q : VK) (p : Addr × Obj), L2H.RoomH k A → L2H.Hot1 A p → Zc (.ref D) none p.2 → L2H.PinOk outer H s p → Env0 P w K mg base A outer s H → BindsTo s fd ⟨[.ref p.1], []⟩ [(x, .ref p.1)] → (∀ H', Same H H' → Q v H') →
    codeAny (model P w) A (.call (.ref f) ⟨[.ref p.1], []⟩) (CR CX0 outer P w H s Q (fun _ _ _ => False)) s
def CalE (P : Program) (w : World) (K : PySem.W.Frag) (mg : Str → Option Value) (base : Heap) (k : Nat) (n x : Str) (D : Addr) (v : V) : Prop :=
  ∃ (f : Addr) (fd : FuncData), FnE P w K mg base k f fd x D v ∧ mg n = some (.ref f) ∧ PySem.W.keepIn K (.ref f) = true ∧ Binds K fd [x] []
section
variable {P : Program} {w : World} {K : PySem.W.Frag} {mg : Str → Option Value} {base : Heap} {x n qual : Str} {st : Stmt} {f D : Addr} {fd : FuncData} {N : List Str} {k : Nat} {v : V}
/-- such a def, by its body -/
theorem okE (F : Fun K n qual st f fd) (S : FnScope N [x] (defScope st))
    (body : ∀ (cdv : Value) (A : Around) (outer : List Env) (s : Shared) (H : Hp) (Q : VK) (p : Addr × Obj), L2H.RoomH k (A.deeper (envOfC qual (defScope st) s.heap.objs.size f cdv)) → Zc (.ref D) none p.2 → (∃ vs, p.2.data = .fields vs) → (∀ H', Same H H' → Q v H') →
      ∃ t, PSs (L2H.cxH CX0 P w K mg base N qual (defScope st) f cdv A outer s H (fun _ _ _ => False) p).nox (defBody st) t ∧ t { nx := fun _ H' => Q .non H', rt := Q } (start N [.ref p.1]) H) : FnE P w K mg base (k + 1) f fd x D v := by
  obtain ⟨oc, od, kV, doc, pm, an, cdv, ct, osl, rfl, lk, hcd⟩ := F.ex
  refine ⟨fun A outer s H Q p hr hot hz pin e0 hb q => ?_⟩
  have there : ∀ b o, base.get? b = some o → s.heap.get? b = some o := fun b o e => (e0.bs b o e).1
  have kin : K.In s.heap := e0.mod.kin.keeps there
  have lims := e0.mod.nolimit.keeps there
  have kinds : ∀ y ∈ [(x, Value.ref p.1)], (defScope st).names.lookup y.1 = some .local ∨
      ((defScope st).names.lookup y.1 = some .cell ∧ ((cellsFrom (s.heap.objs.size + 1) (defScope st).names []).lookup y.1).isSome = true) := fun y hy => by
    rw [List.mem_singleton.mp hy]
    exact (S.par x List.mem_cons_self).imp id fun q => ⟨q, PySem.W.cellsFrom_some _ _ _ (.inl q)⟩
  refine codeAny_call_function hr.depth (kin _ _ lk) rfl S.co S.gen rfl
    (PySem.W.codeRec_of kin hcd) (hb _ _ _ _ ?_)
  refine wpAny_newFunctionEnv_cells S.kind kinds fun env he s1 y => ?_
  subst he
  refine ⟨lims.keeps y.toInCall.keep, codeAny_func ?_⟩
  obtain ⟨t, ht, ht2⟩ := body cdv A outer s H Q p (hr.deeper _) hz (hot.2.elim fun a h => ⟨a, h.1⟩) q
  have I := L2H.inv_startH (CX := CX0) (us := [.ref p.1]) (vs := [V.ref p.1]) (E := fun _ _ _ => False) (cd := cdv) S pin e0 rfl (.cons rfl .nil) y
  refine wpAny_mono (ht.nox.run [] s1 (L2.start N [V.ref p.1]) H _ I ht2)
    (fun fl s' hs => ?_) (fun e s' hs => hs)
  match fl, hs with
  | .ret u, ⟨v, σ', H', J, rv, q⟩ => exact ⟨v, H', J.os, J.bare, J.base, J.hok, rv, q⟩
  | .next, ⟨σ', H', J, q⟩ => exact ⟨V.non, H', J.os, J.bare, J.base, J.hok, rfl, q⟩
  | .brk, ⟨_, _, _, q⟩ => exact q.elim
  | .cont, ⟨_, _, _, q⟩ => exact q.elim
end
/-- f(e), e the error that the suite holds -/
def tCallE (D : Addr) (v : V) (a : Addr) (cls : Value) (d : Option Addr) (te : TE) : TE := fun σ H Q => te σ H fun y H1 => y = .ref a ∧ cls = .ref D ∧ d = none ∧ ∀ H', Same H1 H' → Q v H'
theorem pe_callE {X : Cx} {k : Nat} {a D : Addr} {oe : Obj} {cls : Value} {d : Option Addr} {pn : List (Addr × Obj)} {n x : Str} {v : V} {q pos : Pos} {e : Expr} {te : TE} (C : CalE X.prog X.w X.K X.mg X.base k n x D v) (hr : L2H.RoomH k (X.suite a ((a, oe) :: pn)).A) (hz : L2N.Zn cls d oe) (hf : ∃ vs, oe.data = .fields vs)
    (hg : Gl X n) (ha : PE (X.suite a ((a, oe) :: pn)) e te) (hdb : (n == ("__debug__" : Str)) = false := by decide) (he : starEach [e] X.env = [(false, eval e X.env)] := by rfl) (hpl : (backTo pos (starEach ([] : List Expr) X.env)).any (·.1) = false := by rfl) :
    PE (X.suite a ((a, oe) :: pn)) (.Call (.Name n q) [e] [] pos) (tCallE D v a cls d te) := by
  obtain ⟨f, fd, G, hm, hk, hb⟩ := C
  refine ⟨fun pins s σ H Q I h => ?_⟩
  refine wpAny_Call_Name_kw (ld_glob I hg hm ?_ hdb)
  refine PySem.W.callWith_K (h₀ := X.base) I.ok.mod.kin hk ?_ he hpl
  refine thn ((pa_cons (hs := he) ha pa_nil).run pos pins s σ H (fun ys H1 => match ys with | [y] => y = V.ref a ∧ cls = .ref D ∧ d = none ∧ ∀ H', Same H1 H' → Q v H' | _ => False) I h) fun us s1 hh => ?_
  obtain ⟨ys, H1, I1, r, q⟩ := hh
  refine ⟨I1.kIn, ?_⟩
  match ys, us, r, q with
  | [y], [u], r, q1 =>
    obtain ⟨rfl, rfl, rfl, q2⟩ := q1
    obtain rfl : u = Value.ref a := by
      cases r with
      | cons r0 _ => exact r0
    obtain ⟨z1, z2, z3, z4, z5⟩ := I1.pin (a, oe) (List.mem_append_left _ List.mem_cons_self)
    obtain ⟨vs, ev⟩ := id hf
    have pin : L2H.PinOk X.stack H1 s1 (a, oe) := ⟨z1, z2, fun hmem => (List.mem_cons.mp (I1.stkSub a hmem)).elim z3 z4, z5⟩
    have run := G.run (X.suite a ((a, oe) :: pn)).A X.stack s1 H1 Q (a, oe) hr ⟨rfl, vs, ev, hz.2.2 vs ev⟩ hz.zc pin I1.env0 (hb s1 [.ref a] I1.kIn rfl) q2
    refine wpAny_call (codeAny_mono run fun r s' hq => ?_)
    match r, hq with
    | .ok (.ret u), hq => exact I1.after hq
end EX
set_option maxHeartbeats 4000000
/-! Objects of one's own classes: len(o), iter(tuple) in __iter__, a walk over o, o == y with any answer. -/
namespace KO
open PySem PySem.Spec PyProof.Rows L2
/-! ### a promise that knows where the call begins -/
structure FnS (P : Program) (w : World) (K : PySem.W.Frag) (mg : Str → Option Value) (base : Heap) (CX : CXT) (k : Nat) (f : Addr) (fd : FuncData) (ps : List Str) (sp : Nat → Sp) : Prop where
  len : ∀ n vs H Q E, sp n vs H Q E → vs.length = ps.length
  run : ∀ (A : Around) (outer : List Env) (s : Shared) (H : Hp) (args : Args) (us : List Value) (vs : List V) (Q : VK) (E : XK), Room k A → Env0 P w K mg base A outer s H → BindsTo s fd args (ps.zip us) → Vals vs us → sp s.heap.objs.size vs H Q E →
    codeAny (model P w) A (.call (.ref f) args) (CR CX outer P w H s Q E) s
theorem fnS_of {P : Program} {w : World} {K : PySem.W.Frag} {mg : Str → Option Value} {base : Heap} {k : Nat} {f : Addr} {x qual : Str} {st : Stmt} {fd : FuncData} {N ps : List Str} {sp : Nat → Sp} (F : Fun K x qual st f fd) (S : FnScope N ps (defScope st)) (len : ∀ n vs H Q E, sp n vs H Q E → vs.length = ps.length)
    (hbody : ∀ (cdv : Value) (A : Around) (outer : List Env) (s : Shared) (H : Hp) (vs : List V) (Q : VK) (E : XK), Room k (A.deeper (envOfC qual (defScope st) s.heap.objs.size f cdv)) → sp s.heap.objs.size vs H Q E →
      ∃ t, PSs (cxOf CX0 P w K mg base N qual (defScope st) f cdv A outer s H E).nox (defBody st) t ∧ t { nx := fun _ H' => Q .non H', rt := Q } (start N vs) H) : FnS P w K mg base CX0 (k + 1) f fd ps sp := by
  obtain ⟨oc, od, kV, doc, pm, an, cdv, ct, osl, rfl, lk, hcd⟩ := F.ex
  refine ⟨len, fun A outer s H args us vs Q E hr e0 hb r hsp => ?_⟩
  have hl := len _ _ _ _ _ hsp
  have KX : K.In s.heap := e0.mod.kin.keeps fun b o e => (e0.bs b o e).1
  have lim : s.heap.NoLimit := e0.mod.nolimit.keeps fun b o e => (e0.bs b o e).1
  have hkind : ∀ y ∈ ps.zip us, (defScope st).names.lookup y.1 = some .local ∨ ((defScope st).names.lookup y.1 = some .cell ∧ ((cellsFrom (s.heap.objs.size + 1) (defScope st).names []).lookup y.1).isSome = true) := fun ⟨n, v⟩ hy => by
    rcases S.par n (List.of_mem_zip hy).1 with q | q
    · exact .inl q
    · exact .inr ⟨q, PySem.W.cellsFrom_some _ _ _ (.inl q)⟩
  refine codeAny_call_function hr.depth (KX _ _ lk) rfl S.co S.gen rfl (PySem.W.codeRec_of KX hcd) (hb _ _ _ _ ?_)
  refine wpAny_newFunctionEnv_cells S.kind hkind fun env he s1 x => ?_
  subst he
  refine ⟨lim.keeps x.toInCall.keep, codeAny_func ?_⟩
  obtain ⟨t, ht', hq⟩ := hbody cdv A outer s H vs Q E (hr.deeper _) hsp
  have ht : PSs (cxOf CX0 P w K mg base N qual (defScope st) f cdv A outer s H E) (defBody st) t := ht'.nox
  have I : Inv (cxOf CX0 P w K mg base N qual (defScope st) f cdv A outer s H E) [] (start N vs) H s1 := inv_start S hr.hd e0 hl r x
  refine wpAny_mono (ht.run [] s1 (start N vs) H _ I hq) (fun fl s' hs => ?_) fun e s' hs => hs
  have fin : ∀ {σ' : L2.St} {H' : Hp} {v : V} {u : Value}, Inv (cxOf CX0 P w K mg base N qual (defScope st) f cdv A outer s H E) [] σ' H' s' → RelV v u → Q v H' → CE outer P w H s Q u s' :=
    fun {σ' H' v u} J rv q => ⟨v, H', J.os, J.bare, J.base, J.hok, rv, q⟩
  cases fl with
  | ret u =>
    obtain ⟨v, σ', H', J, rv, q⟩ := hs
    exact fin J rv q
  | next =>
    obtain ⟨σ', H', J, q⟩ := hs
    exact fin (v := V.non) (u := Value.none) J rfl q
  | brk =>
    obtain ⟨_, _, _, q⟩ := hs
    exact False.elim q
  | cont =>
    obtain ⟨_, _, _, q⟩ := hs
    exact False.elim q
/-! ### an iterator over a tuple, as a value -/
/-- at it an iterator over the tuple at t, not yet begun -/
def ItT (t it : Addr) : HO := .ext fun h => h.IsTupleIter it t 0
section
variable {X : Cx} {pins : List (Addr × Obj)} {σ : L2.St} {H : Hp} {s : Shared}
theorem itT_ok {P : Program} {w : World} {H : Hp} {h : Heap} {t it : Addr} (e : h.IsTupleIter it t 0) : ObjOk P w H h it (ItT t it) := ⟨e, let ⟨o, ho, _⟩ := e; ⟨o, ho⟩, fun h1 h2 q k => q.at k⟩
/-- iter(t), t a tuple: the new object lies behind all that was there when the def began -/
def rIterT (K : PySem.W.Frag) (n : Nat) : List V → Hp → VK → Prop := fun xs H Q => ∃ (t : Addr) (zs : List V), xs = [.ref t] ∧ SqT K H t zs ∧ ∀ it, H it = none → n ≤ it → Q (.ref it) (upd H it (ItT t it))
theorem call_iterT : CallR X (.builtin "iter") (rIterT X.K X.s_0.heap.objs.size) := by
  intro pins s σ H xs us Q I r h
  obtain ⟨t, zs, rfl, hq, q⟩ := h
  obtain rfl := Vals.ref1 r
  obtain ⟨its, rv, p, hz⟩ := I.tuple hq
  refine Calls.call_function_entry (by decide +kernel) (by decide +kernel) PySem.W.kdk_entry_iter (PySem.W.kdk_args_iter _) ?_
  unfold Builtin.«iter»
  refine wpAny_bind (m := someArgs "iter" 1 2 _) (wpAny_of_eq (a := [Value.ref t]) (by first | rfl | kernel_rfl!) ?_)
  show wpAny _ _ (pyIter (.ref t) >>= _) _ _ _
  refine wpAny_bind (wpAny_pyIter_tuple (show s.heap.IsTuple t its.toArray from p) ?_)
  refine wpAny_pure ⟨_, rfl, ?_⟩
  exact ⟨.ref s.heap.objs.size, _, I.laid (t' := s.toks) (fun b u e => Heap.get?_push_of_some _ e) (Nat.le_refl _) (itT_ok ⟨_, Heap.get?_push_size _ rfl, rfl, rfl⟩), rfl, q _ (I.hok.fresh (Nat.le_refl _)) I.sz⟩
/-- an object that came in this def may be forgotten -/
theorem forget {a : Addr} {φ : Heap → Prop} (I : Inv X pins σ (upd H a (.ext φ)) s) (hn : H a = none) (h0 : X.s_0.heap.objs.size ≤ a) : Inv X pins σ H s := by
  have ne : ∀ {b}, (upd H a (.ext φ)) b = none → H b = none := fun {b} e => by
    by_cases z : b = a
    · rw [z]
      exact hn
    · rw [upd_ne z] at e
      exact e
  have old : ∀ {b o}, X.s_0.heap.get? b = some o → b ≠ a := fun {b o} e z => by
    have := Heap.lt_size e
    rw [z] at this
    exact absurd (Nat.lt_of_lt_of_le this h0) (Nat.lt_irrefl _)
  have some_ : ∀ {b o}, (upd H a (.ext φ)) b = some o → (∀ ψ, o ≠ .ext ψ) → H b = some o := fun {b o} e z => by
    by_cases y : b = a
    · rw [y, upd_same] at e
      cases e
      exact absurd rfl (z _)
    · rw [upd_ne y] at e
      exact e
  refine ⟨I.ok, I.os, I.bare, ⟨I.base.keep, I.base.slot, fun b o e n hx => ne (I.base.free b o e n hx), I.base.there, fun b xs e => ?_, fun b o u e => ?_, fun b ps e => ?_⟩, I.loc, I.cell, ne I.free, fun x c e => ne (I.freeC x c e), fun p hp => ?_, fun b u e => ?_, I.len⟩
  · exact some_ (I.base.tups b xs e) fun ψ z => by cases z
  · exact some_ (I.base.frzs b o u e) fun ψ z => by cases z
  · obtain ⟨m, q⟩ := I.base.tbls b ps e
    exact ⟨m, some_ q fun ψ z => by cases z⟩
  · obtain ⟨e, n, r⟩ := I.pin p hp
    exact ⟨e, ne n, r⟩
  · have hb : b ≠ a := fun z => by
      rw [z, hn] at e
      cases e
    refine (I.hok b u (by rw [upd_ne hb]; exact e)).stay (fun c v hc q => q) (fun c q => ?_) fun c xs q => ?_
    · exact some_ q fun ψ z => by cases z
    · exact some_ q fun ψ z => by cases z
/-! ### a walk over an object whose __iter__ gives an iterator over one of its tuples -/
structure ItC (K : PySem.W.Frag) (C f : Addr) : Prop where
  at_ : PySem.W.findIn K (.ref C) "__iter__" = some (some (.ref f))
  fn : PySem.W.isFn K (.ref f) = true
/-- what such an __iter__ promises -/
def spIter (K : PySem.W.Frag) (C : Addr) (fld : Str) : Nat → Sp := fun n vs H Q _ => ∃ a dx fs t xs, vs = [.ref a] ∧ H a = some (.ins C dx fs) ∧ fs.lookup fld = some (.ref t) ∧ SqT K H t xs ∧ ∀ it, H it = none → n ≤ it → Q (.ref it) (upd H it (ItT t it))
def iOwn (i : Nat) (K : PySem.W.Frag) (C : Addr) (fld : Str) : TI := fun σ H R => ∃ a dx fs t xs, σ[i]? = some (some (.ref a)) ∧ H a = some (.ins C dx fs) ∧ fs.lookup fld = some (.ref t) ∧ SqT K H t xs ∧ R (Itt K t) H
theorem pi_own {i k : Nat} {x fld : Str} {C f : Addr} {fd : FuncData} {tg : Expr} {pos : Pos} (F : FnS X.prog X.w X.K X.mg X.base CX0 k f fd ["self"] (spIter X.K C fld)) (L : ItC X.K C f) (hr : Room k X.A) (hb : Binds X.K fd ["self"] [])
    (hN : X.N[i]? = some x) (hv : Vis X.env.scope x) (hdb : (x == ("__debug__" : Str)) = false := by decide) (hcd : (x == ("__classdict__" : Str)) = false := by decide) : PI X tg (.Name x pos) (iOwn i X.K C fld) := by
  refine ⟨fun pins s σ H R I h => ?_⟩
  obtain ⟨a, dx, fs, t, xs, hs, ha, hf, ht, q⟩ := h
  refine thn ((pe_var (pos := pos) hN hv hdb hcd).run pins s σ H (fun v H1 => v = .ref a ∧ H1 = H) I ⟨.ref a, hs, rfl, rfl⟩) fun u s1 ⟨v, H1, I1, r1, q1⟩ => ?_
  obtain ⟨rfl, rfl⟩ := q1
  cases r1
  obtain ⟨mA, J, _⟩ := ins_get I1.hok ha
  obtain ⟨od, J, _⟩ := J.look
  obtain ⟨m, hF⟩ := I1.fr
  refine PySem.W.owit_iter hF I1.ok.mod.kin J L.at_ L.fn ?_
  have hsp : spIter X.K C fld s1.heap.objs.size [.ref a] H1 (fun v H' => ∃ it, v = .ref it ∧ H1 it = none ∧ s1.heap.objs.size ≤ it ∧ H' = upd H1 it (ItT t it)) (fun _ _ _ => False) := ⟨a, dx, fs, t, xs, rfl, ha, hf, ht, fun it h1 h2 => ⟨it, rfl, h1, h2, rfl⟩⟩
  have r2 : Vals [V.ref a] [Value.ref a] := .cons rfl .nil
  refine wpAny_call (codeAny_mono (F.run X.A X.stack s1 H1 ⟨[.ref a], []⟩ [.ref a] [.ref a] _ _ hr I1.env0 (by
    have := hb s1 [.ref a] I1.kIn rfl
    simpa using this) r2 hsp) fun r s' hq => ?_)
  cases r with
  | error e => exact pass0 pins σ H1 s1 e s' I1 hq
  | ok fl =>
    cases fl with
    | next => exact False.elim hq
    | brk => exact False.elim hq
    | cont => exact False.elim hq
    | ret u =>
      obtain ⟨v, H', I', rv, it, rfl, hn, hsz, rfl⟩ := I1.after hq
      cases rv
      have hit : s'.heap.IsTupleIter it t 0 := (I'.hok it _ upd_same).1
      unfold PySem.W.OwitIt
      refine wpAny_specialOf (name := Str.ofString "__next__") hit.typeIs PySem.F.slot_tuple_iterator_next.lookup ?_
      exact ⟨it, [it], _, _, H1, rfl, forget I' hn (Nat.le_trans I1.sz hsz), turn_tuple t it, hit, fun b hb => by
        have e : b = it := by simpa using hb
        subst e
        exact I1.fpOk hsz hn, q⟩
/-! ### len(o) -/
structure LnC (K : PySem.W.Frag) (C f : Addr) : Prop where
  at_ : PySem.W.findIn K (.ref C) "__len__" = some (some (.ref f))
  fn : PySem.W.isFn K (.ref f) = true
def rLen (C : Addr) (sp : Sp) : List V → Hp → VK → Prop := fun xs H Q => ∃ a dx fs, xs = [.ref a] ∧ H a = some (.ins C dx fs) ∧ sp [.ref a] H (fun v H' => ∃ n : Nat, v = .int n ∧ n < 2 ^ 62 ∧ Q (.int n) H') (fun _ _ _ => False)
theorem call_lenOwn {k : Nat} {C f : Addr} {fd : FuncData} {sp : Sp} (F : FnOk X.prog X.w X.K X.mg X.base CX0 k f fd ["self"] sp) (L : LnC X.K C f) (hr : Room (k + 1) X.A) (hb : Binds X.K fd ["self"] []) : CallR X (.builtin "len") (rLen C sp) := by
  intro pins s σ H xs us Q I r h
  obtain ⟨a, dx, fs, rfl, ha, hsp⟩ := h
  obtain rfl := Vals.ref1 r
  have sb : Sub X k X.A.in1 := Sub.in1 (⟨hr, rfl⟩ : Sub X (k + 1) X.A)
  obtain ⟨mA, J, _⟩ := ins_get I.hok ha
  obtain ⟨od, J, _⟩ := J.look
  refine Calls.call_function_entry kind_len plain_len entry_len (args_len1 _) ?_
  unfold Builtin.«len»
  refine wpAny_bind (m := oneArg "len" _) (wpAny_pure ?_)
  have e0 : Env0 X.prog X.w X.K X.mg X.base X.A.in1 X.stack s H := by
    have e := I.env0
    exact ⟨by rw [sb.fr]; exact e.frames, e.mod, e.bs, e.bsz, e.funs, e.frf, e.hok, e.bare⟩
  have r2 : Vals [V.ref a] [Value.ref a] := .cons rfl .nil
  refine wpAny_bind (m := callSpecial? (.ref a) (PySem.Str.ofString "__len__")) (PySem.W.special_fn I.kIn J L.at_ (beq_iff_eq.mp L.fn) ?_)
  refine wpAny_call (codeAny_mono (F.run X.A.in1 X.stack s H ⟨[.ref a], []⟩ [.ref a] [.ref a] _ _ sb.room e0 (by
    have := hb s [.ref a] I.kIn rfl
    simpa using this) r2 hsp) fun r s' hq => ?_)
  cases r with
  | error e => exact pass0 pins σ H s e s' I hq
  | ok fl =>
    cases fl with
    | next => exact False.elim hq
    | brk => exact False.elim hq
    | cont => exact False.elim hq
    | ret u =>
      obtain ⟨v, H', I', rv, n, rfl, hn, q⟩ := I.after hq
      obtain ⟨tk, rfl⟩ := rv
      refine wpAny_bind (wpAny_holding (wpAny_pure ?_))
      refine wpAny_bind (wpAny_letGo ?_)
      show wpAny _ _ (if ((n : Nat) : Int) < 0 then _ else _) _ _ _
      rw [if_neg (by omega)]
      show wpAny _ _ (if ((n : Nat) : Int) ≥ 2 ^ 63 then _ else _) _ _ _
      rw [if_neg (by omega)]
      exact wpAny_bind (wpAny_mkInt (wpAny_pure ⟨_, rfl, .int n, H', I'.tok _, ⟨_, rfl⟩, q⟩))
/-! ### o == y by the own __eq__, with any answer -/
/-- o of the class at C, y of a type that is no class below C -/
def rOEq (K : PySem.W.Frag) (C : Addr) (sp : Sp) : R2 := fun x y H Q => ∃ a dx fs tb, x = .ref a ∧ H a = some (.ins C dx fs) ∧ TyX K H y tb ∧ PySem.W.notFirst K C tb = true ∧ sp [x, y] H (fun v H' => (∃ b, v = .bl b) ∧ Q v H') (fun _ _ _ => False)
theorem op_oeq {k : Nat} {C f : Addr} {fd : FuncData} {sp : Sp} {ps : List Str}
    (F : FnOk X.prog X.w X.K X.mg X.base CX0 k f fd ps sp) (hs : PySem.W.findIn X.K (.ref C) "__eq__" = some (some (.ref f))) (hf : PySem.W.isFn X.K (.ref f) = true) (hr : Room k X.A) (hb : Binds X.K fd ps []) : OpR X (compareOp .Eq) (rOEq X.K C sp) := by
  intro pins s σ H x y v u Q I rx ry hq
  obtain ⟨a, dx, fs, tb, rfl, ha, hy, hnf, hsp⟩ := hq
  cases rx
  show wpAny (model X.prog X.w) X.A (richCompare .Eq (.ref a) u) (EP X pins σ Q) X.xe s
  obtain ⟨mA, J, _⟩ := ins_get I.hok ha
  obtain ⟨od, J, _⟩ := J.look
  obtain ⟨m, hF⟩ := I.fr
  refine PySem.W.cmp_K (op := .Eq) (tb := tb) hr.units0 hF I.ok.mod.kin J (let ⟨_, kx, p, _⟩ := kit_of I ry hy; kx.ty _ _ I.kIn p) hnf hs hf ?_
  have hl := F.len _ _ _ _ hsp
  have r2 : Vals [V.ref a, y] [Value.ref a, u] := .cons rfl (.cons ry .nil)
  refine wpAny_call (codeAny_mono (F.run X.A X.stack s H ⟨[.ref a, u], []⟩ [.ref a, u] [.ref a, y] _ _ hr I.env0 (by
    have := hb s [.ref a, u] I.kIn (by simpa using hl)
    simpa using this) r2 hsp) fun r s' hq => ?_)
  cases r with
  | error e => exact pass0 pins σ H s e s' I hq
  | ok fl =>
    cases fl with
    | next => exact False.elim hq
    | brk => exact False.elim hq
    | cont => exact False.elim hq
    | ret w =>
      obtain ⟨z, H', I', rz, ⟨b, rfl⟩, q⟩ := I.after hq
      cases rz
      exact ⟨.bl b, H', I', rfl, q⟩
/-! ### o.f(e), where the field f holds an object that may be called -/
theorem getmeth_fld {f : Str} {v : V} {a C dx : Addr} {fs : List (Str × V)} {A : Around} {E : Value → Shared → Prop} {pl : Sem Bool} {Q : Value × List Value → Shared → Prop} (I : Inv X pins σ H s) (e : H a = some (.ins C dx fs)) (c : Cls X.K C) (n : NoAttr X.K C f) (l : fs.lookup f = some v)
    (h : ∀ u s', Inv X pins σ H s' → RelV v u → Q (u, []) s') : wpAny (model X.prog X.w) A (getMethod (.ref a) f pl) Q E s := by
  obtain ⟨mA, O, _⟩ := ins_get I.hok e
  obtain ⟨od, J, _⟩ := O.look
  have hcan := PySem.F.canon_object_ga
  obtain ⟨h1, h2⟩ := PySem.W.plainGet_of (c.get f)
  unfold getMethod specialOf
  refine wpAny_bind (wpAny_bind (J.type.here ((PySem.W.looks_findIn I.kIn h1).here ?_)))
  dsimp only
  rw [hcan, if_neg (by decide)]
  refine wpAny_bind (wpAny_bind (J.type.here ((PySem.W.looks_findIn I.kIn h2).here ?_)))
  refine wpAny_bind (wpAny_bind (J.type.here ((PySem.W.looks_findIn I.kIn n).here ?_)))
  exact wpAny_bind (getattr_ok I e c n l fun u s' I' ru => wpAny_pure (h u s' I' ru))
def tFldCall (C : Addr) (f : Str) (D : Addr) (sp : Sp) (E : XK) (ta : TE) (t : TA) : TE := fun σ H Q => ta σ H fun x H1 => ∃ a dx fs b dy gs, x = .ref a ∧ H1 a = some (.ins C dx fs) ∧ fs.lookup f = some (.ref b) ∧ t σ H1 fun vs H2 => H2 b = some (.ins D dy gs) ∧ sp (.ref b :: vs) H2 Q E
theorem pe_fldCall {CX : CXT} {k : Nat} {fn C D : Addr} {fd : FuncData} {ps : List Str} {sp : Sp} {E : XK} {o : Expr} {m : Str} {apos pos : Pos} {e : Expr} {es : List Expr} {ta : TE} {t : TA} {pl : Sem Bool} (he : PE X o ta) (c : Cls X.K C) (n : NoAttr X.K C m)
    (F : FnOk X.prog X.w X.K X.mg X.base CX k fn fd ps sp) (L : WC.Cl X.K D fn) (hr : Room k X.A) (hb : Binds X.K fd ps []) (hx : Passes CX X E) (ha : PA X (e :: es) t)
    (hst : starEach (e :: es) X.env = (false, eval e X.env) :: starEach es X.env := by rfl) (hpl : (backTo pos (starEach es X.env)).any (·.1) = false := by rfl)
    (ht : eval (.Call (.Attribute o m apos) (e :: es) [] pos) X.env = (do
      let ov ← eval o X.env
      standAt apos.atName
      let (f, first) ← holding [ov] (getMethod ov m pl)
      callWith pos f first (backTo pos (starEach (e :: es) X.env)) (backToKw pos (keywordEach [] X.env))) := by rfl) :
    PE X (.Call (.Attribute o m apos) (e :: es) [] pos) (tFldCall C m D sp E ta t) := by
  refine ⟨fun pins s σ H Q I h => ?_⟩
  refine PySem.W.methodCall_KW (pl := pl) (thn (he.run pins s σ H _ I h) fun u s1 ⟨x, H1, I1, rx, a, dx, fs, b, dy, gs, ex, ea, l, q⟩ => ?_) ht
  subst ex
  obtain rfl : u = Value.ref a := rx
  refine getmeth_fld I1 ea c n l fun u2 s2 I2 ru2 => ?_
  obtain rfl : u2 = Value.ref b := ru2
  refine WC.callWith_inst (o := PySem.W.instObj D dy) rfl (thn (ha.run pos pins s2 σ _ _ I2 q) fun us s3 ⟨vs, H3, I3, r, q3⟩ => ?_) hst hpl
  obtain ⟨q1, q2⟩ := q3
  obtain ⟨mA, O, _⟩ := ins_get I3.hok q1
  obtain ⟨od, J, _⟩ := O.look
  refine ⟨O.obj, ?_⟩
  have r3 : Vals (.ref b :: vs) (.ref b :: us) := .cons rfl r
  have hl : ((.ref b :: us) ++ ([] : List Value)).length = ps.length := by rw [List.append_nil, ← r3.length]; exact F.len _ _ _ _ q2
  have run := F.run X.A X.stack s3 H3 ⟨.ref b :: us, []⟩ (.ref b :: us) (.ref b :: vs) Q E hr I3.env0 (by have := hb s3 (.ref b :: us) I3.kIn hl; rw [List.append_nil] at this; exact this) r3 q2
  refine wpAny_call (codeAny_mono (PySem.W.kco_code (a := ⟨us, []⟩) I3.kIn J rfl L.at_ L.fn L.fi run) fun r s' hq => ?_)
  cases r with
  | error e => exact hx pins σ H3 s3 e s' I3 hq
  | ok fl =>
    cases fl with
    | ret u => exact I3.after hq
    | next => exact False.elim hq
    | brk => exact False.elim hq
    | cont => exact False.elim hq
/-! ### o + y by the own __add__, both of one class -/
def rOAdd (C : Addr) (sp : Sp) (E : XK) : R2 := fun x y H Q => ∃ a dx fs b dy gs, x = .ref a ∧ H a = some (.ins C dx fs) ∧ y = .ref b ∧ H b = some (.ins C dy gs) ∧ sp [x, y] H (fun v H' => (∃ p, v = .ref p) ∧ Q v H') E
theorem op_oadd {CX : CXT} {k : Nat} {C f : Addr} {fd : FuncData} {sp : Sp} {ps : List Str} {E : XK} (F : FnOk X.prog X.w X.K X.mg X.base CX k f fd ps sp) (hc : PySem.W.selfFirst X.K C = true) (hs : PySem.W.findIn X.K (.ref C) "__add__" = some (some (.ref f))) (hf : PySem.W.isFn X.K (.ref f) = true)
    (hr : Room k X.A) (hb : Binds X.K fd ps []) (hx : Passes CX X E) : OpR X (binaryOp .Add) (rOAdd C sp E) := by
  intro pins s σ H x y v u Q I rx ry hq
  obtain ⟨a, dx, fs, b, dy, gs, rfl, ha, rfl, hb2, hsp⟩ := hq
  cases rx
  cases ry
  obtain ⟨mA, J, _⟩ := ins_get I.hok ha
  obtain ⟨od, J, _⟩ := J.look
  obtain ⟨mB, J', _⟩ := ins_get I.hok hb2
  obtain ⟨od', J', _⟩ := J'.look
  obtain ⟨m, hF⟩ := I.fr
  refine PySem.W.binop_K (op := .Add) hF I.ok.mod.kin J J'.type hc hs hf ?_
  have hl := F.len _ _ _ _ hsp
  have r2 : Vals [V.ref a, V.ref b] [Value.ref a, Value.ref b] := .cons rfl (.cons rfl .nil)
  refine wpAny_call (codeAny_mono (F.run X.A X.stack s H ⟨[.ref a, .ref b], []⟩ [.ref a, .ref b] [.ref a, .ref b] _ E hr I.env0 (by
    have := hb s [.ref a, .ref b] I.kIn (by simpa using hl)
    simpa using this) r2 hsp) fun r s' hq => ?_)
  cases r with
  | error e => exact hx pins σ H s e s' I hq
  | ok fl =>
    cases fl with
    | next => exact False.elim hq
    | brk => exact False.elim hq
    | cont => exact False.elim hq
    | ret w =>
      obtain ⟨z, H', I', rz, ⟨p, rfl⟩, q⟩ := I.after hq
      cases rz
      exact ⟨.ref p, H', I', rfl, q⟩
end
end KO
/-! What the walks share. -/
namespace P01
open PySem PySem.Spec PyProof.Rows L2 SX EX WK
def top (i : Nat) : Stmt := PySem.Challenge.pw_wholecables_k01_judge_whole.main.body.getD i (.Pass ⟨0, 0, 0, 0⟩)
def clsBody : Stmt → List Stmt
  | .ClassDef _ _ _ b _ _ _ _ _ _ _ => b
  | _ => []
def mth (i j : Nat) : Stmt := (clsBody (top i)).getD j (.Pass ⟨0, 0, 0, 0⟩)
/-- a def as its callers see it -/
def Cal (P : Program) (w : World) (K : PySem.W.Frag) (mg : Str → Option Value) (base : Heap) (k : Nat) (x : Str) (ps : List Str) (sp : Sp) : Prop :=
  ∃ (f : Addr) (fd : FuncData), FnOk P w K mg base CX0 k f fd ps sp ∧ mg x = some (.ref f) ∧ PySem.W.keepIn K (.ref f) = true ∧ Binds K fd ps []
theorem pe_cal {X : Cx} {k : Nat} {x : Str} {ps : List Str} {sp : Sp} {p pos : Pos} {e : Expr} {es : List Expr} {t : TA} (C : Cal X.prog X.w X.K X.mg X.base k x ps sp) (hr : Room k X.A) (hg : Gl X x) (ha : PA X (e :: es) t)
    (hdb : (x == ("__debug__" : Str)) = false := by decide) (he : starEach (e :: es) X.env = (false, eval e X.env) :: starEach es X.env := by rfl) (hpl : (backTo pos (starEach es X.env)).any (·.1) = false := by rfl) :
    PE X (.Call (.Name x p) (e :: es) [] pos) (tCall sp [] E0 t) := by
  obtain ⟨f, fd, G, m, kp, b⟩ := C
  exact pe_call G hr hg m kp b .nil pass0 ha hdb he hpl
/-- a class as its makers see it: n values and keywords ks -/
def CalK (P : Program) (w : World) (K : PySem.W.Frag) (mg : Str → Option Value) (base : Heap) (k : Nat) (x : Str) (C : Addr) (n : Nat) (ks : List Str) (sp : Sp) : Prop :=
  ∃ (f : Addr) (fd : FuncData) (ps : List Str) (g : List Value → List Value → List Value), Mk K C f ∧ FnOk P w K mg base CX0 k f fd ps sp ∧ mg x = some (.ref C) ∧ KBn K fd ps (n + 1) ks g (fun vs zs => vs ++ zs)
theorem pe_calK {X : Cx} {k n : Nat} {C : Addr} {x : Str} {ks : List Str} {sp : Sp} {p pos : Pos} {e : Expr} {es : List Expr} {kws : List Keyword} {t tk : TA} (M : CalK X.prog X.w X.K X.mg X.base k x C n ks sp) (hr : Room (k + 1) X.A) (hg : Gl X x) (ha : PA X (e :: es) t) (hkw : PK X kws tk)
    (hall : (backToKw pos (keywordEach kws X.env)).all (·.1.isSome) = true := by rfl) (hks : (backToKw pos (keywordEach kws X.env)).filterMap (·.1) = ks := by rfl) (hdb : (x == ("__debug__" : Str)) = false := by decide)
    (he : starEach (e :: es) X.env = (false, eval e X.env) :: starEach es X.env := by rfl) (hpl : ((backTo pos (starEach (e :: es) X.env)).any (·.1) || (backToKw pos (keywordEach kws X.env)).any (·.1.isNone)) = false := by rfl) :
    PE X (.Call (.Name x p) (e :: es) kws pos) (tMakeK C n ks.length sp (fun vs zs => vs ++ zs) E0 t tk) := by
  obtain ⟨f, fd, ps, g, M, F, hm, hb⟩ := M
  exact pe_makeK M F hr hg hm hb pass0 ha hkw hall hks hdb he hpl
/-- a method as its callers see it -/
def CalM (P : Program) (w : World) (K : PySem.W.Frag) (mg : Str → Option Value) (base : Heap) (k : Nat) (C : Addr) (m : Str) (ps : List Str) (sp : Sp) : Prop :=
  ∃ (f : Addr) (fd : FuncData), FnOk P w K mg base CX0 k f fd ps sp ∧ Meth K C m f ∧ Binds K fd ps []
theorem pe_calM {X : Cx} {k : Nat} {C : Addr} {m : Str} {ps : List Str} {sp : Sp} {apos pos : Pos} {o e : Expr} {es : List Expr} {ta : TE} {t : TA} {pl : Sem Bool} (c : Cls X.K C) (M : CalM X.prog X.w X.K X.mg X.base k C m ps sp) (hr : Room k X.A) (he : PE X o ta) (ha : PA X (e :: es) t)
    (hst : starEach (e :: es) X.env = (false, eval e X.env) :: starEach es X.env := by rfl) (hpl : (backTo pos (starEach es X.env)).any (·.1) = false := by rfl)
    (ht : eval (.Call (.Attribute o m apos) (e :: es) [] pos) X.env = (do
      let ov ← eval o X.env
      standAt apos.atName
      let (f, first) ← holding [ov] (getMethod ov m pl)
      callWith pos f first (backTo pos (starEach (e :: es) X.env)) (backToKw pos (keywordEach [] X.env))) := by rfl) :
    PE X (.Call (.Attribute o m apos) (e :: es) [] pos) (tMeth C m sp [] E0 ta t) := by
  obtain ⟨f, fd, F, hm, hb⟩ := M
  exact pe_meth he c hm F hr hb .nil pass0 ha hst hpl ht
/-- an instance of the class at C as its callers see it -/
def CalI (P : Program) (w : World) (K : PySem.W.Frag) (mg : Str → Option Value) (base : Heap) (k : Nat) (C : Addr) (ps : List Str) (sp : Sp) : Prop :=
  ∃ (f : Addr) (fd : FuncData), FnOk P w K mg base CX0 k f fd ps sp ∧ WC.Cl K C f ∧ Binds K fd ps []
theorem pe_calI {X : Cx} {k i : Nat} {C : Addr} {x : Str} {ps : List Str} {sp : Sp} {p pos : Pos} {e : Expr} {es : List Expr} {t : TA} (M : CalI X.prog X.w X.K X.mg X.base k C ps sp) (hr : Room k X.A) (hN : X.N[i]? = some x) (hv : Vis X.env.scope x) (ha : PA X (e :: es) t)
    (hdb : (x == ("__debug__" : Str)) = false := by decide) (hcd : (x == ("__classdict__" : Str)) = false := by decide)
    (he : starEach (e :: es) X.env = (false, eval e X.env) :: starEach es X.env := by rfl) (hpl : (backTo pos (starEach es X.env)).any (·.1) = false := by rfl) :
    PE X (.Call (.Name x p) (e :: es) [] pos) (WC.tCallI i C sp E0 t) := by
  obtain ⟨f, fd, F, hm, hb⟩ := M
  exact WC.pe_callI F hm hr hN hv hb pass0 ha hdb hcd he hpl
/-- the built-in names that the text asks for are the built-in ones -/
structure Txt (mg : Str → Option Value) : Prop where
  b_len : mg "len" = none
  b_int : mg "int" = none
  b_bool : mg "bool" = none
  b_tuple : mg "tuple" = none
  b_list : mg "list" = none
  b_isinstance : mg "isinstance" = none
  b_range : mg "range" = none
  b_enumerate : mg "enumerate" = none
  b_zip : mg "zip" = none
  b_sum : mg "sum" = none
  b_min : mg "min" = none
  b_abs : mg "abs" = none
  b_all : mg "all" = none
  b_any : mg "any" = none
  b_max : mg "max" = none
  b_reversed : mg "reversed" = none
  g_gcd : mg "gcd" = some (.builtin "math.gcd")
/-- the classes of the text -/
structure Obs (K : PySem.W.Frag) (cF cR : Addr) : Prop where
  clF : Cls K cF
  F_size : NoAttr K cF "size"
  F_entries : NoAttr K cF "entries"
  F_bottom : NoAttr K cF "bottom"
  clR : Cls K cR
  R_holds : NoAttr K cR "holds"
  R_squares : NoAttr K cR "squares"
  R_point : NoAttr K cR "point"
theorem line_ge {n : Nat} (h : n ≤ 100000) : n ≤ sizeLine := Nat.le_trans h (by rw [sizeLine_eq]; decide)
theorem two_line : 2 ≤ sizeLine := line_ge (by omega)
theorem three_line : 3 ≤ sizeLine := line_ge (by omega)
theorem at_pos {α : Type} {xs : List α} {z : Int} {v : α} (h0 : 0 ≤ z) (h : xs[z.toNat]? = some v) : atI xs z = some v := by
  have e : z = ((z.toNat : Nat) : Int) := by omega
  rw [e]
  exact atI_nat h
theorem same_new {H : Hp} {p : Addr} (h : H p = none) (o : HO) : Same H (upd H p o) := new_same h o
theorem lc_yes {σ : L2.St} {H : Hp} {A B : Hp → Prop} (h : A H) : tYes σ H (fun b H3 => if b = true then A H3 else B H3) := by
  show (if true = true then A H else B H)
  exact iteT h
theorem ifT {c : Bool} {A B : Prop} (hc : c = true) (h : A) : if c = true then A else B := by rw [if_pos hc]; exact h
theorem ifF {c : Bool} {A B : Prop} (hc : c = false) (h : B) : if c = true then A else B := by rw [hc, if_neg Bool.false_ne_true]; exact h
theorem dec_ne {a b : V} (h : a ≠ b) : decide (a = b) = false := decide_eq_false h
theorem int_ne {a b : Int} (h : a ≠ b) : decide (V.int a = V.int b) = false := decide_eq_false fun e => h (V.int.inj e)
theorem int_eq {a b : Int} (h : a = b) : decide (V.int a = V.int b) = true := decide_eq_true (by rw [h])
theorem same_at {H H' : Hp} {D : Addr} {o : HO} (e : Same H H') (h : H D = none) : Same H (upd H' D o) := fun b u q => by
  have hne : b ≠ D := fun z => by
    rw [z, h] at q
    cases q
  rw [upd_ne hne]
  exact e _ _ q
theorem dec_lt {a b : Int} (h : decide (a < b) = true) : a < b := of_decide_eq_true h
theorem not_lt {a b : Int} (h : ¬ decide (a < b) = true) : ¬ a < b := of_decide_eq_false (Bool.eq_false_iff.mpr h)
theorem kitLT {K : PySem.W.Frag} : PySem.W.kitOne K (.type "list") (.type "list") = some true := kit_ty (by decide +kernel)
theorem wmul {m n : Nat} {x y : Int} (hx : B m x) (hy : B n y) (h0 : 0 < m) (h1 : 0 < n) (h : m + n ≤ 1000000) : CMulW x y := wide_mul hx hy h0 h1 h
theorem wdiv {n : Nat} {x g : Int} (hg : 0 < g) (h : B n g) (h0 : 0 < n) (h9 : n ≤ 9000) : CDivW x g := wide_div hg h h0 h9
theorem lk_hit {n : Str} {v : V} {l : List (Str × V)} : ((n, v) :: l).lookup n = some v := by rw [List.lookup_cons, beq_self_eq_true]
theorem lk_skip {n m : Str} {v : V} {l : List (Str × V)} (h : ¬ m = n) : ((n, v) :: l).lookup m = l.lookup m := by
  rw [List.lookup_cons]
  have : (m == n) = false := beq_eq_false_iff_ne.mpr h
  rw [this]
/-- a pair of ints -/
def FrAt (H : Hp) (a : Addr) (t b : Int) : Prop := H a = some (.tup [.int t, .int b])
theorem FrAt.same {H H' : Hp} {a : Addr} {t b : Int} (e : Same H H') (h : FrAt H a t b) : FrAt H' a t b := e _ _ h
end P01
namespace P01
open PySem PySem.Spec PyProof.Rows L2 SX EX WK
theorem kLT {K : PySem.W.Frag} : PySem.W.kitAny K (.type "list") [.type "list", .type "tuple"] = some true := by
  unfold PySem.W.kitAny
  rw [show PySem.W.kitOne K (.type "list") (.type "list") = some true from kit_ty (by decide +kernel)]
theorem kTT {K : PySem.W.Frag} : PySem.W.kitAny K (.type "tuple") [.type "list", .type "tuple"] = some true := by
  unfold PySem.W.kitAny
  rw [show PySem.W.kitOne K (.type "tuple") (.type "list") = some false from kit_ty (by decide +kernel)]
  unfold PySem.W.kitAny
  rw [show PySem.W.kitOne K (.type "tuple") (.type "tuple") = some true from kit_ty (by decide +kernel)]
theorem kIT {K : PySem.W.Frag} : PySem.W.kitAny K (.type "int") [.type "list", .type "tuple"] = some false := by
  unfold PySem.W.kitAny
  rw [show PySem.W.kitOne K (.type "int") (.type "list") = some false from kit_ty (by decide +kernel)]
  unfold PySem.W.kitAny
  rw [show PySem.W.kitOne K (.type "int") (.type "tuple") = some false from kit_ty (by decide +kernel)]
  rfl
theorem ty_tup {K : PySem.W.Frag} {H : Hp} {a : Addr} {xs : List V} (h : SqT K H a xs) : TyX K H (.ref a) (.type "tuple") := by
  rcases h with (h | ⟨o, h⟩) | ⟨o, its, n, h, c, _⟩
  · exact .base (.tup h)
  · exact .fTuple h
  · exact .kTuple h c
def spFz (K : PySem.W.Frag) (n : Nat) : Sp := fun vs H Q _ => ∃ (v : V) (t : Td), vs = [v] ∧ Sn K H v t ∧ t.dep ≤ n ∧ t.sm ∧ ∀ v' H', Same H H' → Fz K H' v' t → Q v' H'
theorem pairLT : Paired ClsV [V.ty "list", V.ty "tuple"] [.type "list", .type "tuple"] := .cons (.ty _) (.cons (.ty _) .nil)
section
variable {P : Program} {w : World} {K : PySem.W.Frag} {mg : Str → Option Value} {base : Heap} {f : Addr} {fd : FuncData}
abbrev s_frozen_numbers : Stmt := top 16
abbrev N_frozen_numbers : List Str := ["value"]
theorem sc_frozen_numbers : FnScope N_frozen_numbers ["value"] (defScope s_frozen_numbers) := ⟨rfl, rfl, rfl, by decide +kernel, rfl, by decide +kernel, by decide +kernel⟩
theorem ok_frozen_numbers (F : Fun K "frozen_numbers" "frozen_numbers" s_frozen_numbers f fd) (T : Txt mg) : FnOk P w K mg base CX0 1 f fd ["value"] (spFz K 1) := by
  refine F.ok sc_frozen_numbers (fun vs H Q E h => ?_) (fun cdv A outer s H vs Q E hr h => ?_)
  · obtain ⟨v, t, rfl, _⟩ := h
    rfl
  obtain ⟨v, t, rfl, hs, hd, hm, q⟩ := h
  refine ⟨_, (pss_cons (ps_if (pt_val (pe_callB call_isiT (by rfl) T.b_isinstance (by decide +kernel) (pa_cons (pv 0) (pa_cons (pe_tup (pa_cons (pe_bltn (v := .ty "list") (by rfl) T.b_list (by decide +kernel) rfl) (pa_cons (pe_bltn (v := .ty "tuple") (by rfl) T.b_tuple (by decide +kernel) rfl) pa_nil))) pa_nil)))) (pss_one (ps_ret (pe_callTy call_tuple_of (by rfl) T.b_tuple (by decide +kernel) (pa_cons (pv 0) pa_nil)))) pss_nil)
  (pss_one (ps_ret (pv 0)))), ?_⟩
  refine ⟨_, rfl, two_line, fun tp htp => ?_⟩
  have g := same_new htp (.tup [V.ty "list", V.ty "tuple"])
  have hs' := hs.same g
  cases hs' with
  | int i => exact ⟨_, tp, _, _, _, _, rfl, upd_same, pairLT, .base (.int i), kIT, _, rfl, ifF rfl ⟨_, rfl, q _ _ g (.int i)⟩⟩
  | @lst a vs ts ha hall =>
    simp only [Td.dep] at hd
    refine ⟨_, tp, _, _, _, _, rfl, upd_same, pairLT, .base (.lst ha), kLT, _, rfl, ifT rfl ⟨_, rfl, a, _, rfl, .inl ⟨SqL.of ha, fun l hl => ?_⟩⟩⟩
    have g2 := same_new hl (.tup vs)
    exact q _ _ (g.trans g2) (.tup (SqT.of upd_same) ((hall.zero (by omega)).tk (WK.Same.tk g2)))
  | @tup a vs ts ha hall =>
    simp only [Td.dep] at hd
    exact ⟨_, tp, _, _, _, _, rfl, upd_same, pairLT, ty_tup ha, kTT, _, rfl, ifT rfl ⟨_, rfl, a, _, rfl, .inr ⟨ha, q _ _ g (.tup ha (hall.zero (by omega)))⟩⟩⟩
abbrev s_frozen_part : Stmt := top 17
abbrev N_frozen_part : List Str := ["value", "part"]
theorem sc_frozen_part : FnScope N_frozen_part ["value"] (defScope s_frozen_part) := ⟨rfl, rfl, rfl, by decide +kernel, rfl, by decide +kernel, by decide +kernel⟩
theorem ok_frozen_part (F : Fun K "frozen_part" "frozen_part" s_frozen_part f fd) (T : Txt mg) (C_frozen_numbers : Cal P w K mg base 1 "frozen_numbers" ["value"] (spFz K 1)) : FnOk P w K mg base CX0 2 f fd ["value"] (spFz K 2) := by
  refine F.ok sc_frozen_part (fun vs H Q E h => ?_) (fun cdv A outer s H vs Q E hr h => ?_)
  · obtain ⟨v, t, rfl, _⟩ := h
    rfl
  obtain ⟨v, t, rfl, hs, hd, hm, q⟩ := h
  refine ⟨_, (pss_cons (ps_if (pt_val (pe_callB call_isiT (by rfl) T.b_isinstance (by decide +kernel) (pa_cons (pv 0) (pa_cons (pe_tup (pa_cons (pe_bltn (v := .ty "list") (by rfl) T.b_list (by decide +kernel) rfl) (pa_cons (pe_bltn (v := .ty "tuple") (by rfl) T.b_tuple (by decide +kernel) rfl) pa_nil))) pa_nil)))) (pss_one (ps_ret (pe_callTy call_tuple_of (by rfl) T.b_tuple (by decide +kernel) (pa_cons (pe_lc (own := [("part", 1)]) (g := gName 1) (tt := tYes) (by rfl) sc_frozen_part.nd (pi_or (pi_list (pv 0)) (pi_tup (pv 0))) (blkOk_by (N := N_frozen_part) (sc := defScope s_frozen_part) (by decide +kernel)) (fun _ _ _ _ _ => (pg_name (i := 1) sc_frozen_part.nd rfl (Or.inl rfl))) (fun _ _ _ _ _ => pts_nil) (fun _ _ _ _ _ => (pe_cal C_frozen_numbers (hr.mono (by omega)) rfl (pa_cons (pv 1) pa_nil)))) pa_nil)))) pss_nil)
  (pss_one (ps_ret (pv 0)))), ?_⟩
  refine ⟨_, rfl, two_line, fun tp htp => ?_⟩
  have g := same_new htp (.tup [V.ty "list", V.ty "tuple"])
  have hs' := hs.same g
  cases hs' with
  | int i => exact ⟨_, tp, _, _, _, _, rfl, upd_same, pairLT, .base (.int i), kIT, _, rfl, ifF rfl ⟨_, rfl, q _ _ g (.int i)⟩⟩
  | @lst a vs ts ha hall =>
    simp only [Td.dep] at hd
    simp only [Td.sm] at hm
    have hl := hall.len
    refine ⟨_, tp, _, _, _, _, rfl, upd_same, pairLT, .base (.lst ha), kLT, _, rfl, ifT rfl (.inl ⟨_, rfl, a, rfl, ⟨_, SqL.of ha⟩, fun D hD => ?_⟩)⟩
    refine lc_m (walk_list (K := K) (a := a) (xs := vs)) (Fz K) stb_Fz ts hl hm.1 hD (fun H' s => s.seq (SqL.of ha)) (fun _ _ _ _ => ys_at) id (fun i b x H1 H2 hb s1 s2 y A B hA => ?_) (fun H' l s1 hl1 rs => ?_)
    · obtain ⟨t1, ht1, hx⟩ := hall.get y.2
      rw [hb] at ht1
      cases ht1
      have mb := List.mem_of_getElem? hb
      exact ⟨rfl, lc_yes ⟨_, rfl, _, b, rfl, hx.same s2, Nat.le_trans (deps_le (n := 1) (by omega) mb) (Nat.le_refl _), sms_of hm.2 mb, fun v' H' s h => hA _ _ s h⟩⟩
    · rw [List.map_id] at rs
      refine ⟨D, l, rfl, .inl ⟨SqL.of hl1, fun l2 hl2 => ?_⟩⟩
      have g2 := same_new hl2 (.tup l)
      exact q _ _ (g.trans (s1.trans g2)) (.tup (SqT.of upd_same) (rs.fz.tk (WK.Same.tk g2)))
  | @tup a vs ts ha hall =>
    simp only [Td.dep] at hd
    simp only [Td.sm] at hm
    have hl := hall.len
    refine ⟨_, tp, _, _, _, _, rfl, upd_same, pairLT, ty_tup ha, kTT, _, rfl, ifT rfl (.inr ⟨_, rfl, a, rfl, ⟨_, ha⟩, fun D hD => ?_⟩)⟩
    refine lc_m (walk_tup (K := K) (a := a) (xs := vs)) (Fz K) stb_Fz ts hl hm.1 hD (fun H' s => Same_seqT s ha) (fun _ _ _ _ => ys_at) id (fun i b x H1 H2 hb s1 s2 y A B hA => ?_) (fun H' l s1 hl1 rs => ?_)
    · obtain ⟨t1, ht1, hx⟩ := hall.get y.2
      rw [hb] at ht1
      cases ht1
      have mb := List.mem_of_getElem? hb
      exact ⟨rfl, lc_yes ⟨_, rfl, _, b, rfl, hx.same s2, Nat.le_trans (deps_le (n := 1) (by omega) mb) (Nat.le_refl _), sms_of hm.2 mb, fun v' H' s h => hA _ _ s h⟩⟩
    · rw [List.map_id] at rs
      refine ⟨D, l, rfl, .inl ⟨SqL.of hl1, fun l2 hl2 => ?_⟩⟩
      have g2 := same_new hl2 (.tup l)
      exact q _ _ (g.trans (s1.trans g2)) (.tup (SqT.of upd_same) (rs.fz.tk (WK.Same.tk g2)))
abbrev s_frozen : Stmt := top 18
abbrev N_frozen : List Str := ["value", "part"]
theorem sc_frozen : FnScope N_frozen ["value"] (defScope s_frozen) := ⟨rfl, rfl, rfl, by decide +kernel, rfl, by decide +kernel, by decide +kernel⟩
theorem ok_frozen (F : Fun K "frozen" "frozen" s_frozen f fd) (T : Txt mg) (C_frozen_part : Cal P w K mg base 2 "frozen_part" ["value"] (spFz K 2)) : FnOk P w K mg base CX0 3 f fd ["value"] (spFz K 3) := by
  refine F.ok sc_frozen (fun vs H Q E h => ?_) (fun cdv A outer s H vs Q E hr h => ?_)
  · obtain ⟨v, t, rfl, _⟩ := h
    rfl
  obtain ⟨v, t, rfl, hs, hd, hm, q⟩ := h
  refine ⟨_, (pss_cons (ps_if (pt_val (pe_callB call_isiT (by rfl) T.b_isinstance (by decide +kernel) (pa_cons (pv 0) (pa_cons (pe_tup (pa_cons (pe_bltn (v := .ty "list") (by rfl) T.b_list (by decide +kernel) rfl) (pa_cons (pe_bltn (v := .ty "tuple") (by rfl) T.b_tuple (by decide +kernel) rfl) pa_nil))) pa_nil)))) (pss_one (ps_ret (pe_callTy call_tuple_of (by rfl) T.b_tuple (by decide +kernel) (pa_cons (pe_lc (own := [("part", 1)]) (g := gName 1) (tt := tYes) (by rfl) sc_frozen.nd (pi_or (pi_list (pv 0)) (pi_tup (pv 0))) (blkOk_by (N := N_frozen) (sc := defScope s_frozen) (by decide +kernel)) (fun _ _ _ _ _ => (pg_name (i := 1) sc_frozen.nd rfl (Or.inl rfl))) (fun _ _ _ _ _ => pts_nil) (fun _ _ _ _ _ => (pe_cal C_frozen_part (hr.mono (by omega)) rfl (pa_cons (pv 1) pa_nil)))) pa_nil)))) pss_nil)
  (pss_one (ps_ret (pv 0)))), ?_⟩
  refine ⟨_, rfl, two_line, fun tp htp => ?_⟩
  have g := same_new htp (.tup [V.ty "list", V.ty "tuple"])
  have hs' := hs.same g
  cases hs' with
  | int i => exact ⟨_, tp, _, _, _, _, rfl, upd_same, pairLT, .base (.int i), kIT, _, rfl, ifF rfl ⟨_, rfl, q _ _ g (.int i)⟩⟩
  | @lst a vs ts ha hall =>
    simp only [Td.dep] at hd
    simp only [Td.sm] at hm
    have hl := hall.len
    refine ⟨_, tp, _, _, _, _, rfl, upd_same, pairLT, .base (.lst ha), kLT, _, rfl, ifT rfl (.inl ⟨_, rfl, a, rfl, ⟨_, SqL.of ha⟩, fun D hD => ?_⟩)⟩
    refine lc_m (walk_list (K := K) (a := a) (xs := vs)) (Fz K) stb_Fz ts hl hm.1 hD (fun H' s => s.seq (SqL.of ha)) (fun _ _ _ _ => ys_at) id (fun i b x H1 H2 hb s1 s2 y A B hA => ?_) (fun H' l s1 hl1 rs => ?_)
    · obtain ⟨t1, ht1, hx⟩ := hall.get y.2
      rw [hb] at ht1
      cases ht1
      have mb := List.mem_of_getElem? hb
      exact ⟨rfl, lc_yes ⟨_, rfl, _, b, rfl, hx.same s2, Nat.le_trans (deps_le (n := 2) (by omega) mb) (Nat.le_refl _), sms_of hm.2 mb, fun v' H' s h => hA _ _ s h⟩⟩
    · rw [List.map_id] at rs
      refine ⟨D, l, rfl, .inl ⟨SqL.of hl1, fun l2 hl2 => ?_⟩⟩
      have g2 := same_new hl2 (.tup l)
      exact q _ _ (g.trans (s1.trans g2)) (.tup (SqT.of upd_same) (rs.fz.tk (WK.Same.tk g2)))
  | @tup a vs ts ha hall =>
    simp only [Td.dep] at hd
    simp only [Td.sm] at hm
    have hl := hall.len
    refine ⟨_, tp, _, _, _, _, rfl, upd_same, pairLT, ty_tup ha, kTT, _, rfl, ifT rfl (.inr ⟨_, rfl, a, rfl, ⟨_, ha⟩, fun D hD => ?_⟩)⟩
    refine lc_m (walk_tup (K := K) (a := a) (xs := vs)) (Fz K) stb_Fz ts hl hm.1 hD (fun H' s => Same_seqT s ha) (fun _ _ _ _ => ys_at) id (fun i b x H1 H2 hb s1 s2 y A B hA => ?_) (fun H' l s1 hl1 rs => ?_)
    · obtain ⟨t1, ht1, hx⟩ := hall.get y.2
      rw [hb] at ht1
      cases ht1
      have mb := List.mem_of_getElem? hb
      exact ⟨rfl, lc_yes ⟨_, rfl, _, b, rfl, hx.same s2, Nat.le_trans (deps_le (n := 2) (by omega) mb) (Nat.le_refl _), sms_of hm.2 mb, fun v' H' s h => hA _ _ s h⟩⟩
    · rw [List.map_id] at rs
      refine ⟨D, l, rfl, .inl ⟨SqL.of hl1, fun l2 hl2 => ?_⟩⟩
      have g2 := same_new hl2 (.tup l)
      exact q _ _ (g.trans (s1.trans g2)) (.tup (SqT.of upd_same) (rs.fz.tk (WK.Same.tk g2)))
end
end P01
namespace P01
open PySem PySem.Spec PyProof.Rows L2 SX EX WK
theorem take_one {α : Type} {xs : List α} {i : Nat} {x : α} (h : xs[i]? = some x) : xs.take (i + 1) = xs.take i ++ [x] := by
  rw [List.take_add_one, h]
  rfl
theorem ints_at {ns : List Int} {i : Nat} {x : V} (h : (ns.map V.int)[i]? = some x) : ∃ n, ns[i]? = some n ∧ x = V.int n := by
  rw [List.getElem?_map] at h
  cases e : ns[i]? with
  | none => rw [e] at h; cases h
  | some n => rw [e] at h; exact ⟨n, rfl, (Option.some.inj h).symm⟩
def spLow : Sp := fun vs H Q _ => ∃ (l : Addr) (ns : List Int) (b : Int), vs = [.ref l, .int b] ∧ H l = some (.lst (ns.map V.int)) ∧ 0 < b ∧ B 9000 b ∧ ns.length ≤ 16000000 ∧
  ∀ r t H', Same H H' → H' r = some (.tup [.ref t, .int (b / gf b ns)]) → H' t = some (.tup ((ns.map fun n => n / gf b ns).map V.int)) → Q (.ref r) H'
section
variable {P : Program} {w : World} {K : PySem.W.Frag} {mg : Str → Option Value} {base : Heap} {f : Addr} {fd : FuncData}
abbrev s_lowered : Stmt := top 19
abbrev N_lowered : List Str := ["numbers", "bottom", "shared", "number"]
theorem sc_lowered : FnScope N_lowered ["numbers", "bottom"] (defScope s_lowered) := ⟨rfl, rfl, rfl, by decide +kernel, rfl, by decide +kernel, by decide +kernel⟩
theorem ok_lowered (F : Fun K "lowered" "lowered" s_lowered f fd) (T : Txt mg) : FnOk P w K mg base CX0 1 f fd ["numbers", "bottom"] spLow := by
  refine F.ok sc_lowered (fun vs H Q E h => ?_) (fun cdv A outer s H vs Q E hr h => ?_)
  · obtain ⟨l, ns, b, rfl, _⟩ := h
    rfl
  obtain ⟨l, ns, b, rfl, hl, hb, hB, hn, q⟩ := h
  refine ⟨_, (pss_cons (ps_set (i := 2) sc_lowered.nd rfl (Or.inr rfl) (pv 1))
  (pss_cons (ps_for PassesOwn.never rfl (pi_list (pv 0)) (pg_name (i := 3) sc_lowered.nd rfl (Or.inl rfl)) (pss_one (ps_set (i := 2) sc_lowered.nd rfl (Or.inr rfl) (pe_callBfun cr_gcd rfl T.g_gcd (pa_cons (pv 2) (pa_cons (pv 3) pa_nil))))))
  (pss_one (ps_ret (pe_tup (pa_cons (pe_callTy call_tuple_of (by rfl) T.b_tuple (by decide +kernel) (pa_cons (pe_lc (own := [("number", 3)]) (g := gName 3) (tt := tYes) (by rfl) sc_lowered.nd (pi_list (pv 0)) (blkOk_by (N := N_lowered) (sc := defScope s_lowered) (by decide +kernel)) (fun _ _ _ _ _ => (pg_name (i := 3) sc_lowered.nd rfl (Or.inl rfl))) (fun _ _ _ _ _ => pts_nil) (fun _ _ _ _ _ => (pe_op op_fdivW (pv 3) (pv 2)))) pa_nil)) (pa_cons (pe_op op_fdivW (pv 1) (pv 2)) pa_nil))))))), ?_⟩
  have hg := gf_pos hb ns
  have hgB : B 9000 (gf b ns) := B.le (Int.le_of_lt hg) (gf_le hb ns) hB
  refine ⟨_, rfl, _, rfl, l, rfl, ⟨_, SqL.of hl⟩, for_list (K := K) (a := l) (xs := ns.map V.int) (fun i σ H' => ∃ v : Option V, σ = [some (.ref l), some (.int b), some (.int (gf b (ns.take i))), v] ∧ H' = H)
    ⟨none, rfl, rfl⟩ (fun i σ H' _ ⟨_, _, e⟩ => by rw [e]; exact SqL.of hl) ?_ ?_⟩
  · rintro i x σ H' hi ⟨v, rfl, rfl⟩
    obtain ⟨n, hni, rfl⟩ := ints_at hi
    refine ⟨_, rfl, _, rfl, _, _, rfl, some (V.int n), ?_, rfl⟩
    rw [take_one hni, gf_snoc]
    rfl
  · rintro σ H' ⟨v, rfl, rfl⟩
    rw [List.length_map, List.take_length]
    refine ⟨_, rfl, l, rfl, ⟨_, SqL.of hl⟩, fun D hD => ?_⟩
    refine lc_m (walk_list (K := K) (a := l) (xs := ns.map V.int)) RI (stb_RI (K := K)) ns (List.length_map ..) (by omega) hD (fun H' s => s.seq (SqL.of hl)) (fun _ _ _ _ => ys_at) (fun n => n / gf b ns) (fun i n x H1 H2 hb s1 s2 y A B hA => ?_) (fun H2 l1 s1 hl1 rs => ?_)
    · obtain ⟨n', hn', rfl⟩ := ints_at y.2
      rw [hb] at hn'
      cases hn'
      exact ⟨rfl, lc_yes ⟨_, rfl, _, rfl, _, _, rfl, rfl, wdiv hg hgB (by decide) (by decide), hA _ _ (fun _ _ h => h) rfl⟩⟩
    · refine ⟨D, l1, rfl, .inl ⟨SqL.of hl1, fun t ht => ?_⟩⟩
      refine ⟨_, rfl, _, rfl, _, _, rfl, rfl, wdiv hg hgB (by decide) (by decide), two_line, fun r hr' => ?_⟩
      refine q r t _ (s1.trans ((same_new ht _).trans (same_new hr' _))) upd_same ?_
      rw [upd_ne (ne_of_none (upd_same (H := H2) (a := t)) hr'), upd_same, rs.ints]
/-! ### fractions -/
def spFraction : Sp := fun vs H Q _ => ∃ t b : Int, vs = [.int t, .int b] ∧ 0 < b ∧ B 9000 b ∧ ∀ r H', Same H H' → FrAt H' r (t / gI t b) (b / gI t b) → Q (.ref r) H'
abbrev s_fraction : Stmt := top 20
abbrev N_fraction : List Str := ["top", "bottom", "shared"]
theorem sc_fraction : FnScope N_fraction ["top", "bottom"] (defScope s_fraction) := ⟨rfl, rfl, rfl, by decide +kernel, rfl, by decide +kernel, by decide +kernel⟩
theorem ok_fraction (F : Fun K "fraction" "fraction" s_fraction f fd) (T : Txt mg) : FnOk P w K mg base CX0 1 f fd ["top", "bottom"] spFraction := by
  refine F.ok sc_fraction (fun vs H Q E h => ?_) (fun cdv A outer s H vs Q E hr h => ?_)
  · obtain ⟨t, b, rfl, _⟩ := h
    rfl
  obtain ⟨t, b, rfl, hb, hB, q⟩ := h
  refine ⟨_, (pss_cons (ps_if (pt_cmpR op_eq (pv 1) pe_int (nomark _)) (pss_one ps_never) pss_nil)
  (pss_cons (ps_set (i := 2) sc_fraction.nd rfl (Or.inl rfl) (pe_callBfun cr_gcd rfl T.g_gcd (pa_cons (pv 0) (pa_cons (pv 1) pa_nil))))
  (pss_cons (ps_if (pt_cmpR op_lt (pv 1) pe_int (nomark _)) (pss_one (ps_set (i := 2) sc_fraction.nd rfl (Or.inl rfl) (pe_un un_neg (pv 2)))) pss_nil)
  (pss_one (ps_ret (pe_tup (pa_cons (pe_op op_fdivW (pv 0) (pv 2)) (pa_cons (pe_op op_fdivW (pv 1) (pv 2)) pa_nil)))))))), ?_⟩
  refine ⟨_, rfl, rfl, _, rfl, ifF (int_ne (by omega)) ?_⟩
  refine ⟨_, rfl, _, rfl, t, b, rfl, ?_⟩
  refine ⟨_, rfl, _, _, rfl, rfl, _, rfl, ifF (decide_eq_false (by omega)) ?_⟩
  have g := gI_pos' (t := t) hb
  have gB : B 9000 (gI t b) := B.le (Int.le_of_lt g) (by
    have : Nat.gcd t.natAbs b.natAbs ≤ b.natAbs := Nat.le_of_dvd (by omega) (Nat.gcd_dvd_right _ _)
    unfold gI
    omega) hB
  refine ⟨_, rfl, _, rfl, _, _, rfl, rfl, wdiv g gB (by decide) (by decide), _, rfl, _, rfl, _, _, rfl, rfl, wdiv g gB (by decide) (by decide), two_line, fun r hr' => q r _ (same_new hr' _) upd_same⟩
end
end P01
namespace P01
open PySem PySem.Spec PyProof.Rows L2 SX EX WK
theorem inV_ints (x : Int) (ns : List Int) : inV (.int x) (ns.map V.int) = decide (x ∈ ns) := by
  unfold inV
  rw [Bool.eq_iff_iff, List.any_eq_true, decide_eq_true_iff]
  constructor
  · rintro ⟨v, hv, e⟩
    obtain ⟨n, hn, rfl⟩ := List.mem_map.mp hv
    have e1 : (n == x) = true := e
    rw [← eq_of_beq e1]
    exact hn
  · intro h
    exact ⟨.int x, List.mem_map.mpr ⟨x, h, rfl⟩, by show (x == x) = true; exact beq_self_eq_true x⟩
theorem flat_ints (ns : List Int) : (ns.map V.int).all flatV = true := by
  rw [List.all_eq_true]
  intro v hv
  obtain ⟨n, _, rfl⟩ := List.mem_map.mp hv
  rfl
/-- the matrix at v -/
theorem fz_mat {K : PySem.W.Frag} {H : Hp} {v : V} {m : List (List Int)} (h : Fz K H v (tdm m)) : ∃ (a : Addr) (vs : List V), v = .ref a ∧ SqT K H a vs ∧ vs.length = m.length ∧ ∀ (i : Nat) (r : List Int), m[i]? = some r → ∃ p : Addr, vs[i]? = some (.ref p) ∧ SqT K H p (r.map V.int) := by
  cases h with
  | @tup a vs ts ha hall =>
    have hl : vs.length = m.length := by rw [hall.len, List.length_map]
    refine ⟨a, vs, rfl, ha, hl, fun i r hr => ?_⟩
    have hi : i < vs.length := by
      have := (List.getElem?_eq_some_iff.mp hr).1
      omega
    obtain ⟨t, ht, hz⟩ := hall.get (List.getElem?_eq_getElem hi)
    rw [List.getElem?_map, hr] at ht
    cases ht
    generalize hv : vs[i] = u at hz
    cases hz with
    | @tup p us ts hp hq =>
      refine ⟨p, by rw [List.getElem?_eq_getElem hi, hv], ?_⟩
      rw [← hq.ints]
      exact hp
/-- the pairs at v -/
theorem fz_prs {K : PySem.W.Frag} {H : Hp} {v : V} {ps : List RW} (h : Fz K H v (.tup (ps.map tdr))) : ∃ (a : Addr) (vs : List V), v = .ref a ∧ SqT K H a vs ∧ vs.length = ps.length ∧ ∀ (i : Nat) (p : RW), ps[i]? = some p → ∃ q r : Addr, vs[i]? = some (.ref q) ∧ SqT K H q [.ref r, .int p.2] ∧ SqT K H r (p.1.map V.int) := by
  cases h with
  | @tup a vs ts ha hall =>
    have hl : vs.length = ps.length := by rw [hall.len, List.length_map]
    refine ⟨a, vs, rfl, ha, hl, fun i p hp => ?_⟩
    have hi : i < vs.length := by
      have := (List.getElem?_eq_some_iff.mp hp).1
      omega
    obtain ⟨t, ht, hz⟩ := hall.get (List.getElem?_eq_getElem hi)
    rw [List.getElem?_map, hp] at ht
    cases ht
    generalize hv : vs[i] = u at hz
    cases hz with
    | @tup q us ts hq hal =>
      cases hal with
      | cons h1 h2 =>
        cases h2 with
        | cons h3 h4 =>
          cases h4
          cases h3
          cases h1 with
          | @tup r rs ts hr hrs =>
            refine ⟨q, r, by rw [List.getElem?_eq_getElem hi, hv], hq, ?_⟩
            rw [← hrs.ints]
            exact hr
/-- three ints at v -/
theorem fz_tie {K : PySem.W.Frag} {H : Hp} {v : V} {t : T3} (h : Fz K H v (td3 t)) : ∃ a, v = .ref a ∧ SqT K H a [.int t.1, .int t.2.1, .int t.2.2] := by
  cases h with
  | @tup a vs ts ha hall =>
    cases hall with
    | cons h1 h2 =>
      cases h2 with
      | cons h3 h4 =>
        cases h4 with
        | cons h5 h6 =>
          cases h6
          cases h1
          cases h3
          cases h5
          exact ⟨a, rfl, ha⟩
theorem fz_ints {K : PySem.W.Frag} {H : Hp} {v : V} {ns : List Int} (h : Fz K H v (.tup (ns.map Td.int))) : ∃ a, v = .ref a ∧ SqT K H a (ns.map V.int) := by
  cases h with
  | @tup a vs ts ha hall =>
    rw [← hall.ints]
    exact ⟨a, rfl, ha⟩
def Sqr (m : List (List Int)) : Prop := ∀ r ∈ m, r.length = m.length
def ent (m : List (List Int)) (i j : Nat) : Int := (m.getD i []).getD j 0
def Sym (m : List (List Int)) : Prop := ∀ i j, ent m i j = ent m j i
section
variable {P : Program} {w : World} {K : PySem.W.Frag} {mg : Str → Option Value} {base : Heap} {f : Addr} {fd : FuncData}
def spSquare (K : PySem.W.Frag) : Sp := fun vs H Q _ => ∃ (v : V) (m : List (List Int)), vs = [v] ∧ Fz K H v (tdm m) ∧ Sqr m ∧ ∀ H', Same H H' → Q .non H'
abbrev s_check_square : Stmt := top 23
abbrev N_check_square : List Str := ["lines", "row", "line"]
theorem sc_check_square : FnScope N_check_square ["lines"] (defScope s_check_square) := ⟨rfl, rfl, rfl, by decide +kernel, rfl, by decide +kernel, by decide +kernel⟩
theorem ok_check_square (F : Fun K "check_square" "check_square" s_check_square f fd) (T : Txt mg) : FnOk P w K mg base CX0 1 f fd ["lines"] (spSquare K) := by
  refine F.ok sc_check_square (fun vs H Q E h => ?_) (fun cdv A outer s H vs Q E hr h => ?_)
  · obtain ⟨v, m, rfl, _⟩ := h
    rfl
  obtain ⟨v, m, rfl, hz, hs, q⟩ := h
  obtain ⟨a, vs, rfl, ha, hl, hrow⟩ := fz_mat hz
  refine ⟨_, (pss_one (ps_for PassesOwn.never rfl (WE.pi_enT (by rfl) T.b_enumerate (pa_cons (pv 0) pa_nil)) (pg_tup rfl (pgs_cons (pg_name (i := 1) sc_check_square.nd rfl (Or.inl rfl)) (pgs_cons (pg_name (i := 2) sc_check_square.nd rfl (Or.inl rfl)) pgs_nil))) (pss_one (ps_if (pt_cmpR op_ne (pe_callB call_len_seq (by rfl) T.b_len PySem.boot_len (pa_cons (pv 2) pa_nil)) (pe_callB call_len_seq (by rfl) T.b_len PySem.boot_len (pa_cons (pv 0) pa_nil)) (nomark _)) (pss_one ps_never) pss_nil)))), ?_⟩
  refine ⟨_, rfl, a, vs, rfl, ha, for_it (WE.walk_enT (K := K) (a := a) (xs := vs)) (fun i σ H' => ∃ v1 v2 : Option V, σ = [some (.ref a), v1, v2] ∧ Same H H') ⟨none, none, rfl, fun _ _ h => h⟩ (fun i σ H' _ ⟨_, _, _, s⟩ => Same_seqT s ha) ?_ ?_⟩
  · rintro i x σ H1 H2 hi ⟨v1, v2, rfl, s1⟩ y
    have s2 := ys_pair y
    obtain ⟨Tp, x1, x2, rfl, hT, rfl, e1, e2⟩ := y
    cases e1
    obtain ⟨r, hr1⟩ : ∃ r, m[i]? = some r := ⟨_, List.getElem?_eq_getElem (by omega)⟩
    obtain ⟨p, hp, hpr⟩ := hrow i r hr1
    rw [show vs[i]? = some x2 from e2] at hp
    cases hp
    have s3 := s1.trans s2
    refine ⟨_, _, rfl, SqT.of upd_same, rfl, _, _, rfl, _, _, rfl, rfl, ?_⟩
    refine ⟨_, rfl, _, _, rfl, .inr (Same_seqT s3 hpr), _, rfl, _, _, rfl, .inr (Same_seqT s3 ha), rfl, _, rfl, ifF ?_ ⟨_, _, rfl, s3⟩⟩
    have e : (((r.map V.int).length : Nat) : Int) = ((vs.length : Nat) : Int) := by rw [List.length_map, hl, hs r (List.mem_of_getElem? hr1)]
    rw [e]
    simp
  · rintro σ H' ⟨_, _, rfl, s1⟩
    exact q H' s1
def spSymm (K : PySem.W.Frag) : Sp := fun vs H Q _ => ∃ (v : V) (m : List (List Int)), vs = [v] ∧ Fz K H v (tdm m) ∧ Sqr m ∧ Sym m ∧ m.length ≤ 1000 ∧ Q .non H
theorem ent_at {m : List (List Int)} {i j : Nat} {r : List Int} (h : m[i]? = some r) (hj : j < r.length) : r[j]? = some (ent m i j) := by
  unfold ent
  rw [show m.getD i [] = r from by rw [List.getD_eq_getElem?_getD, h]; rfl, List.getD_eq_getElem?_getD, List.getElem?_eq_getElem hj]
  rfl
theorem at_int {ns : List Int} {j : Nat} {x : Int} (h : ns[j]? = some x) : (ns.map V.int)[j]? = some (.int x) := by
  rw [List.getElem?_map, h]
  rfl
abbrev s_check_symmetric : Stmt := top 24
abbrev N_check_symmetric : List Str := ["lines", "row", "column"]
theorem sc_check_symmetric : FnScope N_check_symmetric ["lines"] (defScope s_check_symmetric) := ⟨rfl, rfl, rfl, by decide +kernel, rfl, by decide +kernel, by decide +kernel⟩
theorem ok_check_symmetric (F : Fun K "check_symmetric" "check_symmetric" s_check_symmetric f fd) (T : Txt mg) : FnOk P w K mg base CX0 1 f fd ["lines"] (spSymm K) := by
  refine F.ok sc_check_symmetric (fun vs H Q E h => ?_) (fun cdv A outer s H vs Q E hr h => ?_)
  · obtain ⟨v, m, rfl, _⟩ := h
    rfl
  obtain ⟨v, m, rfl, hz, hs, hsy, h1000, q⟩ := h
  obtain ⟨a, vs, rfl, ha, hl, hrow⟩ := fz_mat hz
  refine ⟨_, (pss_one (ps_for PassesOwn.never rfl (pi_range1 (by rfl) T.b_range (pa_cons (pe_callB call_len_seq (by rfl) T.b_len PySem.boot_len (pa_cons (pv 0) pa_nil)) pa_nil)) (pg_name (i := 1) sc_check_symmetric.nd rfl (Or.inl rfl)) (pss_one (ps_for PassesOwn.never rfl (pi_range2 (by rfl) T.b_range (pa_cons (pe_op op_add (pv 1) pe_int) (pa_cons (pe_callB call_len_seq (by rfl) T.b_len PySem.boot_len (pa_cons (pv 0) pa_nil)) pa_nil))) (pg_name (i := 2) sc_check_symmetric.nd rfl (Or.inl rfl)) (pss_one (ps_if (pt_cmpR op_ne (pe_ix ix_tup (pe_ix ix_tup (pv 0) (pv 1) (fun _ _ => rfl)) (pv 2) (fun _ _ => rfl)) (pe_ix ix_tup (pe_ix ix_tup (pv 0) (pv 2) (fun _ _ => rfl)) (pv 1) (fun _ _ => rfl)) (nomark _)) (pss_one ps_never) pss_nil)))))), ?_⟩
  have row : ∀ i, i < m.length → ∃ (p : Addr) (r : List Int), vs[i]? = some (.ref p) ∧ SqT K H p (r.map V.int) ∧ ∀ j, j < m.length → r[j]? = some (ent m i j) := fun i hi => by
    have e := List.getElem?_eq_getElem hi
    obtain ⟨p, h1, h2⟩ := hrow i _ e
    exact ⟨p, _, h1, h2, fun j hj => ent_at e (by rw [hs _ (List.mem_of_getElem? e)]; exact hj)⟩
  refine ⟨_, rfl, _, _, rfl, .inr ha, (m.length : Int), by rw [hl], by omega, by omega, for_range (lo := 0) (n := m.length) (fun i σ H' => ∃ v1 v2 : Option V, σ = [some (.ref a), v1, v2] ∧ H' = H) ⟨none, none, rfl, rfl⟩ ?_ ?_⟩
  · rintro i σ H' hi ⟨v1, v2, rfl, rfl⟩
    obtain ⟨p, r, hp, hpr, hent⟩ := row i hi
    refine ⟨_, rfl, _, _, rfl, rfl, _, rfl, _, _, rfl, .inr ha, 0 + (i : Int) + 1, (m.length : Int), by rw [hl], ⟨by omega, by omega, by omega, by omega⟩, ?_⟩
    refine for_range (lo := 0 + (i : Int) + 1) (n := ((m.length : Int) - (0 + (i : Int) + 1)).toNat) (fun j σ H1 => ∃ v2 : Option V, σ = [some (.ref a), some (.int (0 + (i : Int))), v2] ∧ H1 = H') ⟨v2, rfl, rfl⟩ ?_ ?_
    · rintro j σ H1 hj ⟨v2, rfl, rfl⟩
      have hk : i + 1 + j < m.length := by omega
      obtain ⟨p2, r2, hp2, hpr2, hent2⟩ := row (i + 1 + j) hk
      have ei : (0 + (i : Int)).toNat = i := by omega
      have ej : (0 + (i : Int) + 1 + (j : Int)).toNat = i + 1 + j := by omega
      refine ⟨_, rfl, _, rfl, a, _, _, _, rfl, rfl, ha, at_pos (by omega) (by rw [ei]; exact hp), _, rfl, p, _, _, _, rfl, rfl, hpr, at_pos (by omega) (by rw [ej]; exact at_int (hent _ hk)), ?_⟩
      refine ⟨_, rfl, _, rfl, a, _, _, _, rfl, rfl, ha, at_pos (by omega) (by rw [ej]; exact hp2), _, rfl, p2, _, _, _, rfl, rfl, hpr2, at_pos (by omega) (by rw [ei]; exact at_int (hent2 _ hi)), ?_⟩
      refine ⟨rfl, _, rfl, ifF ?_ ⟨_, rfl, rfl⟩⟩
      rw [hsy i (i + 1 + j)]
      simp
    · rintro σ H1 ⟨v2, rfl, rfl⟩
      exact ⟨_, _, rfl, rfl⟩
  · rintro σ H' ⟨_, _, rfl, rfl⟩
    exact q
end
end P01
namespace P01
open PySem PySem.Spec PyProof.Rows L2 SX EX WK
theorem putF_ne {f g : Str} {x v : V} {r : List (Str × V)} (h : ¬ g = f) : putF f v ((g, x) :: r) = (g, x) :: putF f v r := if_neg h
theorem flF (n e b : V) : putF "bottom" b (putF "entries" e (putF "size" n [])) = ([("size", n), ("entries", e), ("bottom", b)] : List (Str × V)) := by
  show putF "bottom" b (putF "entries" e [("size", n)]) = _
  rw [putF_ne (by decide +kernel)]
  show putF "bottom" b [("size", n), ("entries", e)] = _
  rw [putF_ne (by decide +kernel), putF_ne (by decide +kernel)]
  rfl
theorem dep_tdm {m : List (List Int)} : (tdm m).dep ≤ 2 := by
  simp only [tdm, Td.dep]
  have : Td.deps (m.map fun r => .tup (r.map Td.int)) ≤ 1 := deps_all fun t h => by
    obtain ⟨r, _, rfl⟩ := List.mem_map.mp h
    simp only [Td.dep]
    have : Td.deps (r.map Td.int) ≤ 0 := deps_all fun t h => by
      obtain ⟨n, _, rfl⟩ := List.mem_map.mp h
      exact Nat.le_refl _
    omega
  omega
theorem sm_ints {ns : List Int} (h : ns.length ≤ 16000000) : (Td.tup (ns.map Td.int)).sm := by
  simp only [Td.sm]
  refine ⟨by rw [List.length_map]; exact h, sms_all fun t h => ?_⟩
  obtain ⟨n, _, rfl⟩ := List.mem_map.mp h
  simp only [Td.sm]
theorem sm_tdm {m : List (List Int)} (h : m.length ≤ 16000000) (hr : ∀ r ∈ m, r.length ≤ 16000000) : (tdm m).sm := by
  simp only [tdm, Td.sm]
  refine ⟨by rw [List.length_map]; exact h, sms_all fun t h => ?_⟩
  obtain ⟨r, hm, rfl⟩ := List.mem_map.mp h
  exact sm_ints (hr r hm)
theorem flat_len {n : Nat} : ∀ {m : List (List Int)}, (∀ r ∈ m, r.length = n) → m.flatten.length = m.length * n
  | [], _ => by simp
  | r :: m, h => by
    rw [List.flatten_cons, List.length_append, flat_len fun x hx => h x (List.mem_cons_of_mem _ hx), h r List.mem_cons_self, List.length_cons, Nat.succ_mul]
    omega
theorem flat_row {n : Nat} : ∀ {m : List (List Int)} {i : Nat} {r : List Int}, (∀ r ∈ m, r.length = n) → m[i]? = some r → (m.flatten.drop (i * n)).take n = r
  | [], i, r, _, h => by simp at h
  | x :: m, 0, r, hl, h => by
    cases h
    rw [Nat.zero_mul, List.drop_zero, List.flatten_cons, List.take_left' (hl x List.mem_cons_self)]
  | x :: m, i + 1, r, hl, h => by
    have hx := hl x List.mem_cons_self
    rw [List.flatten_cons, Nat.succ_mul, Nat.add_comm, List.drop_append, List.drop_of_length_le (by omega), List.nil_append]
    have e : n + i * n - x.length = i * n := by omega
    rw [e]
    exact flat_row (fun y hy => hl y (List.mem_cons_of_mem _ hy)) (by simpa using h)
theorem flat_take {m : List (List Int)} {i : Nat} {r : List Int} (h : m[i]? = some r) : (m.take (i + 1)).flatten = (m.take i).flatten ++ r := by
  rw [take_one h, List.flatten_append]
  simp
/-- a form -/
def FormAt (K : PySem.W.Frag) (H : Hp) (C p : Addr) (n : Nat) (m : List (List Int)) (b : Int) : Prop := ∃ dx e, H p = some (.ins C dx [("size", .int n), ("entries", .ref e), ("bottom", .int b)]) ∧ Fz K H (.ref e) (tdm m)
/-- all but the thing at a stays -/
def But (a : Addr) (H H' : Hp) : Prop := ∀ c o, H c = some o → c ≠ a → H' c = some o
theorem But.of {a : Addr} {H H' : Hp} (s : Same H H') : But a H H' := fun c o e _ => s c o e
theorem But.put {a : Addr} {H H' : Hp} (s : But a H H') (o : HO) : But a H (upd H' a o) := fun c u e h => by rw [upd_ne h]; exact s c u e h
theorem But.then {a : Addr} {H H' H2 : Hp} (s : But a H H') (t : Same H' H2) : But a H H2 := fun c u e h => t c u (s c u e h)
def dm (m : List (List Int)) (g : Int) : List (List Int) := m.map fun r => r.map fun x => x / g
theorem sIx_of {n d : Nat} {z : Int} {k : Nat} (e : z = (k : Int)) (h : k ≤ n) : HT.sIx n d (some z) = k := by
  rw [e, HT.sIx_nat]
  omega
def spForm (K : PySem.W.Frag) (C : Addr) : Sp := fun vs H Q _ => ∃ (a dx : Addr) (v : V) (m : List (List Int)) (b : Int), vs = [.ref a, v, .int b] ∧ H a = some (.ins C dx []) ∧ Sn K H v (tdm m) ∧ Sqr m ∧ Sym m ∧ m.length ≤ 300 ∧ 0 < b ∧ B 9000 b ∧
  ∀ H', FormAt K H' C a m.length (dm m (gf b m.flatten)) (b / gf b m.flatten) → But a H H' → Q .non H'
section
variable {P : Program} {w : World} {K : PySem.W.Frag} {mg : Str → Option Value} {base : Heap} {f : Addr} {fd : FuncData} {cF cR : Addr}
abbrev s_iForm : Stmt := mth 28 0
abbrev N_iForm : List Str := ["self", "entries", "bottom", "lines", "size", "numbers", "least_bottom", "line", "number", "row"]
theorem sc_iForm : FnScope N_iForm ["self", "entries", "bottom"] (defScope s_iForm) := ⟨rfl, rfl, rfl, by decide +kernel, rfl, by decide +kernel, by decide +kernel⟩
theorem ok_iForm {kws : List (Str × V)} (F : FunD K "__init__" "Form.__init__" (defArgs s_iForm) (defBody s_iForm) (defScope s_iForm) [] kws f fd) (T : Txt mg) (O : Obs K cF cR) (C_frozen : Cal P w K mg base 3 "frozen" ["value"] (spFz K 3)) (C_check_square : Cal P w K mg base 1 "check_square" ["lines"] (spSquare K))
    (C_check_symmetric : Cal P w K mg base 1 "check_symmetric" ["lines"] (spSymm K)) (C_lowered : Cal P w K mg base 1 "lowered" ["numbers", "bottom"] spLow) : FnOk P w K mg base CX0 4 f fd ["self", "entries", "bottom"] (spForm K cF) := by
  refine F.ok sc_iForm (fun vs H Q E h => ?_) (fun cdv A outer s H vs Q E hr h => ?_)
  · obtain ⟨a, dx, v, m, b, rfl, _⟩ := h
    rfl
  obtain ⟨a, dx, v, m, b, rfl, hself, hv, hsq, hsy, hn, hb, hB, q⟩ := h
  refine ⟨_, (pss_cons (ps_set (i := 3) sc_iForm.nd rfl (Or.inl rfl) (pe_cal C_frozen (hr.mono (by omega)) rfl (pa_cons (pv 1) pa_nil)))
  (pss_cons (ps_expr (pe_cal C_check_square (hr.mono (by omega)) rfl (pa_cons (pv 3) pa_nil)))
  (pss_cons (ps_expr (pe_cal C_check_symmetric (hr.mono (by omega)) rfl (pa_cons (pv 3) pa_nil)))
  (pss_cons (ps_set (i := 4) sc_iForm.nd rfl (Or.inr rfl) (pe_callB call_len_seq (by rfl) T.b_len PySem.boot_len (pa_cons (pv 3) pa_nil)))
  (pss_cons (ps_asg (pe_cal C_lowered (hr.mono (by omega)) rfl (pa_cons (pe_lc2 (own := [("line", 7), ("number", 8)]) (vs1 := [8]) (g := gName 7) (tt := tYes) (g1 := gName 8) (tt1 := tYes) (by rfl) sc_iForm.nd (pi_tup (pv 3)) (blkOk_by (N := N_iForm) (sc := defScope s_iForm) (by decide +kernel)) (by decide) (fun _ _ _ _ _ => (pg_name (i := 7) sc_iForm.nd rfl (Or.inl rfl))) (fun _ _ _ _ _ => pts_nil) (fun _ _ _ _ _ => (pi_tupK (K := K) rfl (pv 7))) (fun _ _ _ _ _ => (pg_name (i := 8) sc_iForm.nd rfl (Or.inl rfl))) (fun _ _ _ _ _ => pts_nil) (fun _ _ _ _ _ => (pv 8))) (pa_cons (pv 2) pa_nil))) (pg_tup rfl (pgs_cons (pg_name (i := 5) sc_iForm.nd rfl (Or.inr rfl)) (pgs_cons (pg_name (i := 6) sc_iForm.nd rfl (Or.inl rfl)) pgs_nil))))
  (pss_cons (ps_fld (pv 0) (pv 4) rfl)
  (pss_cons (ps_fld (pv 0) (pe_callTy call_tuple_of (by rfl) T.b_tuple (by decide +kernel) (pa_cons (pe_lc (own := [("row", 9)]) (g := gName 9) (tt := tYes) (by rfl) sc_iForm.nd (pi_range1 (by rfl) T.b_range (pa_cons (pv 4) pa_nil)) (blkOk_by (N := N_iForm) (sc := defScope s_iForm) (by decide +kernel)) (fun _ _ _ _ _ => (pg_name (i := 9) sc_iForm.nd rfl (Or.inl rfl))) (fun _ _ _ _ _ => pts_nil) (fun _ _ _ _ _ => (pe_slice (sl_tupAK (K := K) rfl) (pv 5) (po_some (pe_op op_mulW (pv 9) (pv 4))) (po_some (pe_op op_add (pe_op op_mulW (pv 9) (pv 4)) (pv 4)))))) pa_nil)) rfl)
  (pss_one (ps_fld (pv 0) (pv 6) rfl))))))))), ?_⟩
  have hrl : ∀ r ∈ m, r.length ≤ 16000000 := fun r hr => by rw [hsq r hr]; omega
  refine ⟨_, rfl, _, tdm m, rfl, hv, Nat.le_trans dep_tdm (by omega), sm_tdm (by omega) hrl, fun v1 H1 s1 hz1 => ?_⟩
  refine ⟨_, rfl, _, m, rfl, hz1, hsq, fun H2 s2 => ?_⟩
  have hz2 := hz1.tk (WK.Same.tk s2)
  refine ⟨_, rfl, _, m, rfl, hz2, hsq, hsy, by omega, ?_⟩
  obtain ⟨e, vs, rfl, he, hl, hrow⟩ := fz_mat hz2
  refine ⟨_, rfl, _, _, rfl, .inr he, ?_⟩
  have hfl := flat_len hsq
  have hfn : m.flatten.length ≤ 16000000 := by
    rw [hfl]
    exact Nat.le_trans (Nat.mul_le_mul hn hn) (by decide)
  refine ⟨_, rfl, e, rfl, ⟨_, he⟩, fun D hD => ?_⟩
  refine ⟨fun i k H3 => k = m.length - i ∧ i ≤ m.length ∧ Same H2 H3 ∧ H3 D = some (.lst (((m.take i).flatten).map V.int)), ⟨_, rfl, Nat.zero_le _, same_new hD _, by rw [upd_same, List.take_zero]; rfl⟩, ?_⟩
  rintro i k H3 ⟨rfl, hi, s3, h3⟩
  by_cases hlt : i < m.length
  · obtain ⟨r, hr1⟩ : ∃ r, m[i]? = some r := ⟨_, List.getElem?_eq_getElem hlt⟩
    obtain ⟨p, hp, hpr⟩ := hrow i r hr1
    have hrn := hsq r (List.mem_of_getElem? hr1)
    refine .inr ⟨⟨vs, _, Same_seqT s3 he, hp⟩, fun H4 => Same H2 H4 ∧ H4 D = some (.lst (((m.take (i + 1)).flatten).map V.int)), fun H4 h4 => ⟨_, by omega, rfl, hlt, h4.1, h4.2⟩, ?_⟩
    rintro x H4 ⟨rfl, hx⟩
    have hx2 := hx vs (Same_seqT s3 he)
    rw [hp] at hx2
    cases hx2
    refine ⟨rfl, lc_yes ⟨_, rfl, p, rfl, ⟨_, Same_seqT s3 hpr⟩, ?_⟩⟩
    refine ⟨fun j k H5 => k = r.length - j ∧ j ≤ r.length ∧ Same H2 H5 ∧ H5 D = some (.lst (((m.take i).flatten ++ r.take j).map V.int)), ⟨_, rfl, Nat.zero_le _, s3, by rw [List.take_zero, List.append_nil]; exact h3⟩, ?_⟩
    rintro j k H5 ⟨rfl, hj, s5, h5⟩
    by_cases hjlt : j < r.length
    · have hy : r[j]? = some r[j] := List.getElem?_eq_getElem hjlt
      refine .inr ⟨⟨r.map V.int, .int r[j], Same_seqT s5 hpr, at_int hy⟩, fun H6 => Same H2 H6 ∧ H6 D = some (.lst (((m.take i).flatten ++ r.take (j + 1)).map V.int)), fun H6 h6 => ⟨_, by omega, rfl, hjlt, h6.1, h6.2⟩, ?_⟩
      rintro x H6 ⟨rfl, hx⟩
      have hx2 := hx _ (Same_seqT s5 hpr)
      rw [at_int hy] at hx2
      cases hx2
      refine ⟨rfl, lc_yes ⟨_, rfl, _, h5, ?_, same_at s5 hD, ?_⟩⟩
      · refine sizes (Nat.le_trans ?_ hfn)
        rw [List.length_map, List.length_append, List.length_take, flat_len (n := m.length) (fun x hx => hsq x (List.mem_of_mem_take hx)), List.length_take, hfl]
        have h1 : (min i m.length + 1) * m.length ≤ m.length * m.length := Nat.mul_le_mul_right _ (by omega)
        rw [Nat.add_mul, Nat.one_mul] at h1
        omega
      · rw [upd_same, take_one hy, ← List.append_assoc, List.map_append (l₂ := [r[j]])]
        rfl
    · have ej : j = r.length := by omega
      refine .inl ⟨⟨_, Same_seqT s5 hpr, by rw [List.length_map, ej]; exact Nat.le_refl _⟩, s5, ?_⟩
      rw [h5, ej, List.take_length, flat_take hr1]
  · have ei : i = m.length := by omega
    refine .inl ⟨⟨vs, Same_seqT s3 he, by omega⟩, ?_⟩
    rw [ei, List.take_length] at h3
    clear hlt hi
    refine ⟨_, rfl, D, m.flatten, b, rfl, h3, hb, hB, hfn, fun r t H5 s5 hr5 ht5 => ?_⟩
    have hg := gf_pos hb m.flatten
    refine ⟨_, _, rfl, SqT.of hr5, rfl, _, _, rfl, _, _, rfl, rfl, ?_⟩
    have sA : Same H H5 := s1.trans (s2.trans (s3.trans s5))
    refine ⟨_, rfl, _, rfl, a, cF, dx, _, rfl, sA _ _ hself, O.clF, O.F_size, (by show 0 < 1000; decide), ?_⟩
    generalize hH6 : upd H5 a _ = H6
    have hs6 : H6 a = some (.ins cF dx (putF "size" (.int (vs.length : Nat)) [])) := by rw [← hH6, upd_same]
    have b6 : But a H H6 := by rw [← hH6]; exact (But.of sA).put _
    have ht6 : SqT K H6 t ((m.flatten.map fun n => n / gf b m.flatten).map V.int) := by
      refine .inl (.inl ?_)
      rw [← hH6, upd_ne (ne_of ht5 (sA _ _ hself) (by intro z; cases z))]
      exact ht5
    refine ⟨_, rfl, _, rfl, by omega, by omega, fun D2 hD2 => ?_⟩
    refine lc_m (walk_range (lo := 0) (n := (vs.length : Int).toNat)) (Fz K) stb_Fz (List.range m.length) (by rw [List.length_range]; omega) (by rw [List.length_range]; omega) hD2 (fun _ _ => trivial) (fun _ _ _ _ => ys_fn) (fun i => .tup (((dm m (gf b m.flatten)).getD i []).map Td.int)) (fun k i x H7 H8 hb2 s7 s8 y A2 B2 hA => ?_) (fun H7 l s7 hl7 rs => ?_)
    · have ek : k < m.length ∧ i = k := by
        have h1 := (List.getElem?_eq_some_iff.mp hb2).1
        rw [List.length_range] at h1
        rw [List.getElem?_range h1] at hb2
        exact ⟨h1, (Option.some.inj hb2).symm⟩
      obtain ⟨hk, rfl⟩ := ek
      rw [y.2]
      have cm : CMulW (0 + (i : Int)) ((vs.length : Nat) : Int) := wmul (m := 20) (n := 20) (by show (0 + (i : Int)).natAbs < 2 ^ 20; omega) (by show ((vs.length : Nat) : Int).natAbs < 2 ^ 20; omega) (by decide) (by decide) (by decide)
      refine ⟨rfl, lc_yes ⟨_, rfl, _, rfl, _, rfl, _, _, rfl, rfl, cm, _, rfl, _, rfl, _, rfl, _, _, rfl, rfl, cm, _, rfl, _, _, rfl, rfl, _, rfl, ?_⟩⟩
      have hdr : (dm m (gf b m.flatten))[i]? = some (((m[i]).map fun x => x / gf b m.flatten)) := by
        unfold dm
        rw [List.getElem?_map, List.getElem?_eq_getElem hk]
        rfl
      have hdl : ∀ r ∈ dm m (gf b m.flatten), r.length = m.length := fun r hr => by
        obtain ⟨r0, h0, rfl⟩ := List.mem_map.mp hr
        rw [List.length_map]
        exact hsq r0 h0
      have hfr := flat_row hdl hdr
      have hff : (dm m (gf b m.flatten)).flatten = m.flatten.map fun n => n / gf b m.flatten := by
        unfold dm
        rw [List.map_flatten]
      rw [hff] at hfr
      have hgd : (dm m (gf b m.flatten)).getD i [] = (m[i]).map fun x => x / gf b m.flatten := by
        rw [List.getD_eq_getElem?_getD, hdr]
        rfl
      have hN : ((m.flatten.map fun n => n / gf b m.flatten).map V.int).length = m.length * m.length := by rw [List.length_map, List.length_map, hfl]
      have hmul : i * m.length + m.length ≤ m.length * m.length := by
        have h1 : (i + 1) * m.length ≤ m.length * m.length := Nat.mul_le_mul_right _ hk
        rw [Nat.add_mul, Nat.one_mul] at h1
        exact h1
      have e1 : HT.sIx ((m.flatten.map fun n => n / gf b m.flatten).map V.int).length 0 (some ((0 + (i : Int)) * ((vs.length : Nat) : Int))) = i * m.length := sIx_of (by rw [hl, Int.zero_add]; exact (Int.natCast_mul _ _).symm) (by rw [hN]; omega)
      have e2 : HT.sIx ((m.flatten.map fun n => n / gf b m.flatten).map V.int).length ((m.flatten.map fun n => n / gf b m.flatten).map V.int).length (some ((0 + (i : Int)) * ((vs.length : Nat) : Int) + ((vs.length : Nat) : Int))) = i * m.length + m.length := sIx_of (by rw [hl, Int.zero_add, ← Int.natCast_mul, ← Int.natCast_add]) (by rw [hN]; exact hmul)
      have hcut : cutV ((m.flatten.map fun n => n / gf b m.flatten).map V.int) (some ((0 + (i : Int)) * ((vs.length : Nat) : Int))) (some ((0 + (i : Int)) * ((vs.length : Nat) : Int) + ((vs.length : Nat) : Int))) = ((m[i]).map fun x => x / gf b m.flatten).map V.int := by
        unfold cutV
        rw [e1, e2, Nat.add_sub_cancel_left, ← List.map_drop, ← List.map_take, hfr]
      have hfz : ∀ {H9 : Hp} {p : Addr}, SqT K H9 p (((m[i]).map fun x => x / gf b m.flatten).map V.int) → Fz K H9 (.ref p) (.tup (((dm m (gf b m.flatten)).getD i []).map Td.int)) := fun h => by
        rw [hgd]
        exact .tup h (FzAll.of_ints _)
      refine ⟨t, _, rfl, Same_seqT s8 ht6, fun hw => ?_, fun _ p hp => ?_⟩
      · refine hA _ _ (fun _ _ h => h) (hfz ?_)
        rw [e1, e2] at hw
        rw [← hcut]
        unfold cutV
        rw [e1, e2, hw.2, hw.1, List.drop_zero, Nat.sub_zero, List.take_length]
        exact Same_seqT s8 ht6
      · refine hA _ _ (same_new hp _) (hfz (SqT.of ?_))
        rw [upd_same, hcut]
    · refine ⟨D2, l, rfl, .inl ⟨SqL.of hl7, fun t2 ht2 => ?_⟩⟩
      have sB : Same H6 (upd H7 t2 (.tup l)) := s7.trans (same_new ht2 _)
      refine ⟨_, rfl, a, cF, dx, _, rfl, sB _ _ hs6, O.clF, O.F_entries, (by show 1 < 1000; decide), ?_⟩
      refine ⟨_, rfl, _, rfl, a, cF, dx, _, rfl, upd_same, O.clF, O.F_bottom, (by show 2 < 1000; decide), ?_⟩
      have hfz : FzAll K H7 l ((dm m (gf b m.flatten)).map fun r => .tup (r.map Td.int)) := by
        have e : ((List.range m.length).map fun i => Td.tup (((dm m (gf b m.flatten)).getD i []).map Td.int)) = (dm m (gf b m.flatten)).map fun r => .tup (r.map Td.int) := by
          refine List.ext_getElem? fun i => ?_
          rw [List.getElem?_map, List.getElem?_map]
          have hdl : (dm m (gf b m.flatten)).length = m.length := by unfold dm; rw [List.length_map]
          by_cases hi : i < m.length
          · rw [List.getElem?_range hi, List.getElem?_eq_getElem (by omega : i < (dm m (gf b m.flatten)).length)]
            show some (Td.tup (((dm m (gf b m.flatten)).getD i []).map Td.int)) = _
            rw [List.getD_eq_getElem?_getD, List.getElem?_eq_getElem (by omega : i < (dm m (gf b m.flatten)).length)]
            rfl
          · rw [List.getElem?_eq_none (by rw [List.length_range]; omega), List.getElem?_eq_none (by omega)]
            rfl
        rw [← e]
        exact rs.fz
      have tkB : Tk K H7 (upd (upd (upd H7 t2 (.tup l)) a (.ins cF dx (putF "entries" (.ref t2) (putF "size" (.int (vs.length : Nat)) [])))) a (.ins cF dx (putF "bottom" (.int (b / gf b m.flatten)) (putF "entries" (.ref t2) (putF "size" (.int (vs.length : Nat)) []))))) := fun x ys h => by
        have h1 := Same_seqT (same_new ht2 (.tup l)) h
        have h2 : (upd H7 t2 (.tup l)) a = some (.ins cF dx (putF "size" (.int (vs.length : Nat)) [])) := sB _ _ hs6
        have h3 := tk_ins (K := K) h2 (H' := upd (upd H7 t2 (.tup l)) a (.ins cF dx (putF "entries" (.ref t2) (putF "size" (.int (vs.length : Nat)) [])))) (fun c o hc e => by rw [upd_ne hc]; exact e) _ _ h1
        exact tk_ins (K := K) (upd_same (H := upd H7 t2 (.tup l)) (a := a)) (fun c o hc e => by rw [upd_ne hc]; exact e) _ _ h3
      refine q _ ⟨dx, t2, ?_, .tup ?_ (hfz.tk tkB)⟩ (((b6.then sB).put _).put _)
      · rw [upd_same, hl, flF]
      · have h1 : SqT K (upd H7 t2 (.tup l)) t2 l := SqT.of upd_same
        have h2 : (upd H7 t2 (.tup l)) a = some (.ins cF dx (putF "size" (.int (vs.length : Nat)) [])) := sB _ _ hs6
        have h3 := tk_ins (K := K) h2 (H' := upd (upd H7 t2 (.tup l)) a (.ins cF dx (putF "entries" (.ref t2) (putF "size" (.int (vs.length : Nat)) [])))) (fun c o hc e => by rw [upd_ne hc]; exact e) _ _ h1
        exact tk_ins (K := K) (upd_same (H := upd H7 t2 (.tup l)) (a := a)) (fun c o hc e => by rw [upd_ne hc]; exact e) _ _ h3
end
end P01
namespace P01
open PySem PySem.Spec PyProof.Rows L2 SX EX WK
/-! ### the steps of the greatest common divisor -/
/-- behind i steps from (a0, b0): (a, b) -/
def Eu (a0 b0 : Nat) (i a b : Nat) : Prop := Nat.gcd a b = Nat.gcd a0 b0 ∧ ((i = 0 ∧ a = a0 ∧ b = b0) ∨ (1 ≤ i ∧ b < a ∧ a * b * 2 ^ (i - 1) ≤ 2 ^ 13000))
theorem eu_start {a0 b0 : Nat} : Eu a0 b0 0 a0 b0 := ⟨rfl, .inl ⟨rfl, rfl, rfl⟩⟩
theorem eu_step {a0 b0 i a b : Nat} (hb0 : b0 < 2 ^ 6500) (h : Eu a0 b0 i a b) (hb : b ≠ 0) : Eu a0 b0 (i + 1) b (a % b) := by
  obtain ⟨g, h⟩ := h
  have hlt : a % b < b := Nat.mod_lt _ (by omega)
  refine ⟨by rw [← g, Nat.gcd_comm b, ← Nat.gcd_rec b a, Nat.gcd_comm], .inr ⟨by omega, hlt, ?_⟩⟩
  rw [show i + 1 - 1 = i by omega]
  rcases h with ⟨rfl, rfl, rfl⟩ | ⟨hi, hab, hm⟩
  · have h1 : b * (a % b) ≤ b * b := Nat.mul_le_mul_left b (by omega)
    have h2 : b * b ≤ 2 ^ 6500 * 2 ^ 6500 := Nat.mul_le_mul (by omega) (by omega)
    rw [← Nat.pow_add] at h2
    rw [Nat.pow_zero, Nat.mul_one]
    exact Nat.le_trans h1 h2
  · have h1 : 2 * (a % b) ≤ a := by
      have e := Nat.div_add_mod a b
      have q : 1 ≤ a / b := Nat.div_pos (by omega) (by omega)
      have := Nat.mul_le_mul_left b q
      omega
    have h2 : b * (a % b) * 2 ≤ a * b := by
      rw [Nat.mul_assoc, Nat.mul_comm a b, Nat.mul_comm (a % b) 2]
      exact Nat.mul_le_mul_left b h1
    have e : 2 ^ i = 2 * 2 ^ (i - 1) := by
      rw [← Nat.pow_succ', Nat.succ_eq_add_one, show i - 1 + 1 = i by omega]
    rw [e, ← Nat.mul_assoc]
    exact Nat.le_trans (Nat.mul_le_mul_right _ h2) hm
theorem eu_end {a0 b0 a b : Nat} (h : Eu a0 b0 100000 a b) : b = 0 := by
  obtain ⟨_, h⟩ := h
  rcases h with ⟨h, _⟩ | ⟨_, hab, hm⟩
  · exact absurd h (by decide)
  · rcases Nat.eq_zero_or_pos b with h | h
    · exact h
    · exfalso
      have h1 : 1 ≤ a * b := Nat.mul_pos (by omega) h
      have h2 : 2 ^ (100000 - 1) ≤ a * b * 2 ^ (100000 - 1) := Nat.le_mul_of_pos_left _ h1
      have h3 : (2 : Nat) ^ 13000 < 2 ^ (100000 - 1) := Nat.pow_lt_pow_right (by decide) (by decide)
      omega
theorem eu_gcd {a0 b0 i a : Nat} (h : Eu a0 b0 i a 0) : a = Nat.gcd a0 b0 := by
  rw [← h.1, Nat.gcd_zero_right]
theorem gI_leb {t b : Int} (hb : 0 < b) : gI t b ≤ b := by
  have : Nat.gcd t.natAbs b.natAbs ≤ b.natAbs := Nat.le_of_dvd (by omega) (Nat.gcd_dvd_right _ _)
  unfold gI
  omega
theorem seq_asg {te : TE} {i : Nat} {u : TS} {D : Ends} {σ : L2.St} {H : Hp} (h : te σ H fun x H1 => u D (σ.set i (some x)) H1) : tSeq (tAsg te (gName i)) u D σ H := h
theorem kit1 {K : PySem.W.Frag} : PySem.W.kitOne K (.type "int") (.type "int") = some true := kit_ty (by decide +kernel)
theorem kit2 {K : PySem.W.Frag} : PySem.W.kitOne K (.type "int") (.type "bool") = some false := kit_ty (by decide +kernel)
theorem kit6 {K : PySem.W.Frag} : PySem.W.kitOne K (.type "tuple") (.type "tuple") = some true := kit_ty (by decide +kernel)
/-! ### _law_cell: some int -/
def spCell (K : PySem.W.Frag) : Sp := fun vs H Q _ => ∃ (a : Addr) (ns : List Int) (k : Int), vs = [.ref a, .int k] ∧ SqL K H a (ns.map V.int) ∧ 0 ≤ k ∧ k ≤ 1000 ∧ ∀ i : Int, Q (.int i) H
abbrev s__law_cell : Stmt := top 36
abbrev N__law_cell : List Str := ["script", "k", "seed", "cell"]
theorem sc__law_cell : FnScope N__law_cell ["script", "k"] (defScope s__law_cell) := ⟨rfl, rfl, rfl, by decide +kernel, rfl, by decide +kernel, by decide +kernel⟩
/-- digits: each is below its size -/
abbrev Dig (ns zs : List Int) : Prop := Paired (fun n z => 0 ≤ n ∧ n < z) ns zs
theorem Dig.snoc : ∀ {ns zs : List Int} {n z : Int}, Dig ns zs → 0 ≤ n → n < z → Dig (ns ++ [n]) (zs ++ [z])
  | _, _, _, _, .nil, h1, h2 => .cons ⟨h1, h2⟩ .nil
  | _, _, _, _, .cons r t, h1, h2 => .cons r (Dig.snoc t h1 h2)
theorem Dig.get : ∀ {ns zs : List Int} {i : Nat} {z : Int}, Dig ns zs → zs[i]? = some z → ∃ n, ns[i]? = some n ∧ 0 ≤ n ∧ n < z
  | _, _, _, _, .nil, e => by simp at e
  | _, _, 0, _, .cons r _, e => by cases e; exact ⟨_, rfl, r.1, r.2⟩
  | _, _, i + 1, z, .cons _ t, e => by
    obtain ⟨n, h1, h2⟩ := Dig.get (i := i) (z := z) t (by simpa using e)
    exact ⟨n, by simpa using h1, h2⟩
theorem Dig.len {ns zs : List Int} (d : Dig ns zs) : ns.length = zs.length := Paired.length d
theorem take_snoc {α : Type} {l : List α} {i : Nat} {x : α} (h : l[i]? = some x) : l.take (i + 1) = l.take i ++ [x] := by
  rw [List.take_add_one, h]
  rfl
theorem map_int {ns : List Int} {i : Nat} {x : V} (h : (ns.map V.int)[i]? = some x) : ∃ z, ns[i]? = some z ∧ x = .int z := by
  rw [List.getElem?_map] at h
  cases e : ns[i]? with
  | none => rw [e] at h; cases h
  | some z => rw [e] at h; exact ⟨z, rfl, (Option.some.inj h).symm⟩
theorem int_at {ns : List Int} {i : Nat} {z : Int} (h : ns[i]? = some z) : (ns.map V.int)[i]? = some (.int z) := by
  rw [List.getElem?_map, h]
  rfl
theorem snoc_int (ns : List Int) (n : Int) : ns.map V.int ++ [V.int n] = (ns ++ [n]).map V.int := by
  rw [List.map_append]
  rfl
/-! ### _law_digits: one digit for each size -/
def spDigits (K : PySem.W.Frag) : Sp := fun vs H Q _ => ∃ (c : Int) (a : Addr) (zs : List Int), vs = [.int c, .ref a] ∧ SqL K H a (zs.map V.int) ∧ zs.length ≤ 1000 ∧ (∀ z ∈ zs, 0 < z ∧ z.natAbs < 2 ^ 2000) ∧
  ∀ p ns, H p = none → Dig ns zs → Q (.ref p) (upd H p (.lst (ns.map V.int)))
abbrev s__law_digits : Stmt := top 37
abbrev N__law_digits : List Str := ["cell", "sizes", "row", "rest", "size", "seed", "k", "twice"]
theorem sc__law_digits : FnScope N__law_digits ["cell", "sizes"] (defScope s__law_digits) := ⟨rfl, rfl, rfl, by decide +kernel, rfl, by decide +kernel, by decide +kernel⟩
section
variable {P : Program} {w : World} {K : PySem.W.Frag} {mg : Str → Option Value} {base : Heap} {f : Addr} {fd : FuncData}
theorem ok__law_cell (F : Fun K "_law_cell" "_law_cell" s__law_cell f fd) (T : Txt mg) : FnOk P w K mg base CX0 1 f fd ["script", "k"] (spCell K) := by
  refine F.ok sc__law_cell (fun vs H Q E h => ?_) (fun cdv A outer s H vs Q E hr h => ?_)
  · obtain ⟨a, ns, k, rfl, _⟩ := h
    rfl
  obtain ⟨a, ns, k, rfl, hs, h0, h1, q⟩ := h
  refine ⟨_, (pss_cons (ps_if (pt_cmpR op_lt (pv 1) (pe_callB call_len_seq (by rfl) T.b_len PySem.boot_len (pa_cons (pv 0) pa_nil)) (nomark _)) (pss_one (ps_ret (pe_ix ix_list (pv 0) (pv 1) (fun _ _ => rfl)))) pss_nil)
  (pss_cons (ps_set (i := 2) sc__law_cell.nd rfl (Or.inl rfl) pe_int)
  (pss_cons (ps_for PassesOwn.never rfl (pi_list (pv 0)) (pg_name (i := 3) sc__law_cell.nd rfl (Or.inl rfl)) (pss_one (ps_set (i := 2) sc__law_cell.nd rfl (Or.inl rfl) (pe_op op_mod (pe_callTy call_int1 (by rfl) T.b_int (by decide +kernel) (pa_cons (pe_op op_add (pe_op op_mul (pv 2) pe_int) (pe_op op_mod (pe_callTy call_int1 (by rfl) T.b_int (by decide +kernel) (pa_cons (pv 3) pa_nil)) pe_int)) pa_nil)) pe_int))))
  (pss_one (ps_ret (pe_op op_mod (pe_callTy call_int1 (by rfl) T.b_int (by decide +kernel) (pa_cons (pe_op op_mul (pe_op op_mul (pe_op op_add (pv 2) pe_int) (pe_op op_add (pv 1) pe_int)) pe_int) pa_nil)) pe_int)))))), ?_⟩
  refine ⟨_, rfl, _, rfl, a, _, rfl, .inl hs, _, _, rfl, rfl, _, rfl, ?_⟩
  refine ite2 (fun c => ?_) (fun c => ?_)
  · have c' : k < (((ns.map V.int).length : Nat) : Int) := of_decide_eq_true c
    rw [List.length_map] at c'
    obtain ⟨z, hz⟩ : ∃ z, ns[k.toNat]? = some z := ⟨ns[k.toNat]'(by omega), List.getElem?_eq_getElem (by omega)⟩
    exact ⟨_, rfl, _, rfl, a, _, k, _, rfl, rfl, hs, at_pos h0 (int_at hz), q z⟩
  · refine ⟨_, rfl, a, rfl, ⟨_, hs⟩, for_list (K := K) (a := a) (xs := ns.map V.int) (fun i σ H' => ∃ (z : Int) (v : Option V), σ = [some (.ref a), some (.int k), some (.int z), v] ∧ H' = H)
      ⟨17, none, rfl, rfl⟩ (fun i σ H' _ ⟨_, _, _, e⟩ => by rw [e]; exact hs) ?_ ?_⟩
    · rintro i y σ H' hi ⟨z, v, rfl, rfl⟩
      obtain ⟨x, hx, rfl⟩ := map_int hi
      refine ⟨_, rfl, _, _, rfl, rfl, .inr (by decide), _, rfl, .inl ⟨_, rfl, _, _, rfl, rfl, (by show (0 : Int) < 1000003; decide), _, _, rfl, rfl, .inl ⟨_, rfl, _, _, rfl, rfl, (by show (0 : Int) < 1000003; decide), ?_⟩⟩⟩
      exact ⟨_, _, rfl, rfl⟩
    · rintro σ H' ⟨z, v, rfl, rfl⟩
      refine ⟨_, rfl, _, _, rfl, rfl, _, rfl, _, _, rfl, rfl, _, _, rfl, rfl, .inr (by omega), _, _, rfl, rfl, .inr (by decide), .inl ⟨_, rfl, _, _, rfl, rfl, (by show (0 : Int) < 2147483647; decide), ?_⟩⟩
      exact q _
theorem ok__law_digits (F : Fun K "_law_digits" "_law_digits" s__law_digits f fd) (T : Txt mg) : FnOk P w K mg base CX0 1 f fd ["cell", "sizes"] (spDigits K) := by
  refine F.ok sc__law_digits (fun vs H Q E h => ?_) (fun cdv A outer s H vs Q E hr h => ?_)
  · obtain ⟨c, a, zs, rfl, _⟩ := h
    rfl
  obtain ⟨c, a, zs, rfl, hs, hz9, hz, q⟩ := h
  refine ⟨_, (pss_cons (ps_set (i := 2) sc__law_digits.nd rfl (Or.inl rfl) (pe_lst pa_nil))
  (pss_cons (ps_set (i := 3) sc__law_digits.nd rfl (Or.inl rfl) (pe_callTy call_int1 (by rfl) T.b_int (by decide +kernel) (pa_cons (pv 0) pa_nil)))
  (pss_cons (ps_if (pt_cmpR op_ge (pv 3) (pe_op op_pow pe_int pe_int) (nomark _)) (pss_cons (ps_set (i := 3) sc__law_digits.nd rfl (Or.inl rfl) (pe_op op_sub (pv 3) (pe_op op_pow pe_int pe_int)))
  (pss_cons (ps_for PassesOwn.never rfl (pi_list (pv 1)) (pg_name (i := 4) sc__law_digits.nd rfl (Or.inl rfl)) (pss_cons (ps_expr (pe_bm PySem.F.plainAttrs_list PySem.F.slot_list_append PySem.F.type_list_append mt_append (pv 2) (pa_cons (pe_op op_mod (pe_callTy call_int1 (by rfl) T.b_int (by decide +kernel) (pa_cons (pv 3) pa_nil)) (pv 4)) pa_nil)))
  (pss_one (ps_set (i := 3) sc__law_digits.nd rfl (Or.inl rfl) (pe_op op_fdivW (pe_callTy call_int1 (by rfl) T.b_int (by decide +kernel) (pa_cons (pv 3) pa_nil)) (pv 4))))))
  (pss_one (ps_ret (pv 2))))) pss_nil)
  (pss_cons (ps_set (i := 5) sc__law_digits.nd rfl (Or.inl rfl) (pe_op op_mod (pe_callTy call_int1 (by rfl) T.b_int (by decide +kernel) (pa_cons (pv 3) pa_nil)) pe_int))
  (pss_cons (ps_for PassesOwn.never rfl (pi_range1 (by rfl) T.b_range (pa_cons (pe_callB call_len_seq (by rfl) T.b_len PySem.boot_len (pa_cons (pv 1) pa_nil)) pa_nil)) (pg_name (i := 6) sc__law_digits.nd rfl (Or.inl rfl)) (pss_cons (ps_set (i := 5) sc__law_digits.nd rfl (Or.inl rfl) (pe_op op_mod (pe_callTy call_int1 (by rfl) T.b_int (by decide +kernel) (pa_cons (pe_op op_add (pe_op op_add (pe_op op_mul (pv 5) pe_int) (pe_op op_mul pe_int (pv 6))) pe_int) pa_nil)) pe_int))
  (pss_cons (ps_set (i := 7) sc__law_digits.nd rfl (Or.inl rfl) (pe_op op_mod (pe_callTy call_int1 (by rfl) T.b_int (by decide +kernel) (pa_cons (pe_op op_mul (pv 5) (pe_op op_add (pe_op op_fdiv (pv 5) pe_int) pe_int)) pa_nil)) pe_int))
  (pss_one (ps_expr (pe_bm PySem.F.plainAttrs_list PySem.F.slot_list_append PySem.F.type_list_append mt_append (pv 2) (pa_cons (pe_op op_mod (pe_op op_fdiv (pv 7) pe_int) (pe_ix ix_list (pv 1) (pv 6) (fun _ _ => rfl))) pa_nil)))))))
  (pss_one (ps_ret (pv 2)))))))), ?_⟩
  have keep : ∀ {p : Addr} {o : HO}, H p = none → SqL K (upd H p o) a (zs.map V.int) := fun hp => (same_new hp _).seq hs
  refine ⟨(by show 0 ≤ sizeLine; exact Nat.zero_le _), fun p hp => ?_⟩
  refine ⟨_, rfl, .inl ⟨_, rfl, ?_⟩⟩
  refine ⟨_, rfl, _, _, rfl, rfl, ⟨by decide, by decide, by decide⟩, _, _, rfl, rfl, _, rfl, ?_⟩
  refine ite2 (fun _ => ?_) (fun _ => ?_)
  · refine ⟨_, rfl, _, _, rfl, rfl, ⟨by decide, by decide, by decide⟩, _, _, rfl, rfl, ?_⟩
    refine ⟨_, rfl, a, rfl, ⟨_, keep hp⟩, for_list (K := K) (a := a) (xs := zs.map V.int) (fun i σ H' => ∃ (z : Int) (v : Option V) (ns : List Int), σ = [some (.int c), some (.ref a), some (.ref p), some (.int z), v, none, none, none] ∧ H' = upd H p (.lst (ns.map V.int)) ∧ Dig ns (zs.take i))
      ⟨_, none, [], rfl, rfl, .nil⟩ (fun i σ H' _ ⟨_, _, _, _, e, _⟩ => by rw [e]; exact keep hp) ?_ ?_⟩
    · rintro i y σ H' hi ⟨z, v, ns, rfl, rfl, hd⟩
      obtain ⟨x, hx, rfl⟩ := map_int hi
      have hx2 := hz x (List.mem_of_getElem? hx)
      have hlen : ns.length ≤ 1000 := by
        have := hd.len
        rw [List.length_take] at this
        omega
      refine ⟨_, rfl, .inl ⟨rfl, _, SqL.of upd_same⟩, _, rfl, .inl ⟨_, rfl, _, rfl, _, _, rfl, rfl, hx2.1, p, _, _, rfl, rfl, upd_same, by rw [List.length_map]; exact small1000 hlen, ?_⟩⟩
      refine ⟨_, rfl, .inl ⟨_, rfl, _, rfl, _, _, rfl, rfl, wide_div hx2.1 hx2.2 (by decide) (by decide), ?_⟩⟩
      exact ⟨_, _, ns ++ [z % x], rfl, by rw [upd_upd, snoc_int], by rw [take_snoc hx]; exact hd.snoc (Int.emod_nonneg _ (by omega)) (Int.emod_lt_of_pos _ hx2.1)⟩
    · rintro σ H' ⟨z, v, ns, rfl, rfl, hd⟩
      rw [List.length_map, List.take_length] at hd
      exact ⟨_, rfl, q p ns hp hd⟩
  · refine ⟨_, rfl, .inl ⟨_, rfl, _, _, rfl, rfl, (by show (0 : Int) < 2147483629; decide), ?_⟩⟩
    refine ⟨_, rfl, a, _, rfl, .inl (keep hp), _, rfl, by rw [List.length_map]; omega, by rw [List.length_map]; omega, for_range (lo := 0) (n := (((zs.map V.int).length : Nat) : Int).toNat)
      (fun i σ H' => ∃ (sd : Int) (v6 v7 : Option V) (r : Int) (ns : List Int), σ = [some (.int c), some (.ref a), some (.ref p), some (.int r), none, some (.int sd), v6, v7] ∧ 0 ≤ sd ∧ sd < 2147483648 ∧ H' = upd H p (.lst (ns.map V.int)) ∧ Dig ns (zs.take i))
      ⟨_, none, none, _, [], rfl, Int.emod_nonneg _ (by decide), Int.lt_trans (Int.emod_lt_of_pos _ (by decide)) (by decide), rfl, .nil⟩ ?_ ?_⟩
    · rintro i σ H' hi ⟨sd, v6, v7, r, ns, rfl, hs0, hs1, rfl, hd⟩
      rw [Int.toNat_natCast, List.length_map] at hi
      obtain ⟨x, hx⟩ : ∃ x, zs[i]? = some x := ⟨zs[i], List.getElem?_eq_getElem hi⟩
      have hx2 := hz x (List.mem_of_getElem? hx)
      have hlen : ns.length ≤ 1000 := by
        have := hd.len
        rw [List.length_take] at this
        omega
      refine ⟨_, rfl, _, _, rfl, rfl, .inr (by decide), _, rfl, _, _, rfl, rfl, .inl (by decide), _, _, rfl, rfl, _, _, rfl, rfl, .inl ⟨_, rfl, _, _, rfl, rfl, (by show (0 : Int) < 2147483647; decide), ?_⟩⟩
      have b0 : 0 ≤ (sd * 48271 + 974711 * (0 + (i : Int)) + 12345) % 2147483647 := Int.emod_nonneg _ (by decide)
      have b1 : (sd * 48271 + 974711 * (0 + (i : Int)) + 12345) % 2147483647 < 2147483648 := Int.lt_trans (Int.emod_lt_of_pos _ (by decide)) (by decide)
      refine ⟨_, rfl, _, rfl, _, _, rfl, rfl, ⟨by decide, by decide⟩, _, _, rfl, rfl, _, _, rfl, rfl, .inl ⟨Int.lt_of_lt_of_le (by decide) b0, Int.lt_trans b1 (by decide)⟩, .inl ⟨_, rfl, _, _, rfl, rfl, (by show (0 : Int) < 2147483629; decide), ?_⟩⟩
      refine ⟨_, rfl, .inl ⟨rfl, _, SqL.of upd_same⟩, _, rfl, _, _, rfl, rfl, ⟨by decide, by decide⟩, _, rfl, _, rfl, a, _, _, _, rfl, rfl, keep hp, at_pos (by omega) (int_at (by rw [show ((0 : Int) + (i : Nat)).toNat = i by omega]; exact hx)), _, _, rfl, rfl, hx2.1, p, _, _, rfl, rfl, upd_same, by rw [List.length_map]; exact small1000 hlen, ?_⟩
      exact ⟨_, _, _, r, _, rfl, b0, b1, by rw [upd_upd, snoc_int], by rw [take_snoc hx]; exact hd.snoc (Int.emod_nonneg _ (by omega)) (Int.emod_lt_of_pos _ hx2.1)⟩
    · rintro σ H' ⟨sd, v6, v7, r, ns, rfl, hs0, hs1, rfl, hd⟩
      rw [Int.toNat_natCast, List.length_map, List.take_length] at hd
      exact ⟨_, rfl, q p ns hp hd⟩
end
section
variable {P : Program} {w : World} {K : PySem.W.Frag} {mg : Str → Option Value} {base : Heap} {f : Addr} {fd : FuncData}
def spLaw_whole : Sp := fun vs H Q _ => ∃ i : Int, vs = [.int i] ∧ Q (.bl true) H
abbrev s__law_whole : Stmt := top 35
abbrev N__law_whole : List Str := ["value"]
theorem sc__law_whole : FnScope N__law_whole ["value"] (defScope s__law_whole) := ⟨rfl, rfl, rfl, by decide +kernel, rfl, by decide +kernel, by decide +kernel⟩
theorem ok__law_whole (F : Fun K "_law_whole" "_law_whole" s__law_whole f fd) (T : Txt mg) : FnOk P w K mg base CX0 1 f fd ["value"] spLaw_whole := by
  refine F.ok sc__law_whole (fun vs H Q E h => ?_) (fun cdv A outer s H vs Q E hr h => ?_)
  · obtain ⟨i, rfl, _⟩ := h
    rfl
  obtain ⟨i, rfl, q⟩ := h
  refine ⟨_, (pss_one (ps_ret (pe_and (pe_callB call_isi (by rfl) T.b_isinstance (by decide +kernel) (pa_cons (pv 0) (pa_cons (pe_bltn (v := .ty "int") (by rfl) T.b_int (by decide +kernel) rfl) pa_nil))) (pe_one (pe_not (pe_callB call_isi (by rfl) T.b_isinstance (by decide +kernel) (pa_cons (pv 0) (pa_cons (pe_bltn (v := .ty "bool") (by rfl) T.b_bool (by decide +kernel) rfl) pa_nil)))))))), ?_⟩
  refine ⟨_, rfl, _, _, _, _, true, rfl, .ty _, .base (.int i), kit1, true, rfl, ifT rfl ?_⟩
  exact ⟨_, rfl, _, _, _, _, false, rfl, .ty _, .base (.int i), kit2, false, rfl, q⟩
theorem okH__law_whole (F : Fun K "_law_whole" "_law_whole" s__law_whole f fd) (T : Txt mg) : L2H.FnH P w K mg base CX0 1 f fd ["value"] spLaw_whole := by
  refine okH F sc__law_whole (fun vs H Q E h => ?_) (fun cdv A outer s H vs Q E p hr hot h => ?_)
  · obtain ⟨i, rfl, _⟩ := h
    rfl
  obtain ⟨i, rfl, q⟩ := h
  refine ⟨_, (pss_one (ps_ret (pe_and (pe_callB call_isi (by rfl) T.b_isinstance (by decide +kernel) (pa_cons (pv 0) (pa_cons (pe_bltn (v := .ty "int") (by rfl) T.b_int (by decide +kernel) rfl) pa_nil))) (pe_one (pe_not (pe_callB call_isi (by rfl) T.b_isinstance (by decide +kernel) (pa_cons (pv 0) (pa_cons (pe_bltn (v := .ty "bool") (by rfl) T.b_bool (by decide +kernel) rfl) pa_nil)))))))), ?_⟩
  refine ⟨_, rfl, _, _, _, _, true, rfl, .ty _, .base (.int i), kit1, true, rfl, ifT rfl ?_⟩
  exact ⟨_, rfl, _, _, _, _, false, rfl, .ty _, .base (.int i), kit2, false, rfl, q⟩
def spGcd : Sp := fun vs H Q _ => ∃ a b : Int, vs = [.int a, .int b] ∧ B 6500 b ∧ Q (.int (gI a b)) H
abbrev s__law_gcd : Stmt := top 38
abbrev N__law_gcd : List Str := ["one", "two", "turn", "rest"]
theorem sc__law_gcd : FnScope N__law_gcd ["one", "two"] (defScope s__law_gcd) := ⟨rfl, rfl, rfl, by decide +kernel, rfl, by decide +kernel, by decide +kernel⟩
theorem abs_nat (a : Int) : (if a < 0 then -a else a) = ((a.natAbs : Nat) : Int) := by
  split <;> omega
theorem ok__law_gcd (F : Fun K "_law_gcd" "_law_gcd" s__law_gcd f fd) (T : Txt mg) : FnOk P w K mg base CX0 1 f fd ["one", "two"] spGcd := by
  refine F.ok sc__law_gcd (fun vs H Q E h => ?_) (fun cdv A outer s H vs Q E hr h => ?_)
  · obtain ⟨a, b, rfl, _⟩ := h
    rfl
  obtain ⟨a, b, rfl, hB, q⟩ := h
  refine ⟨_, (pss_cons (ps_set (i := 0) sc__law_gcd.nd rfl (Or.inl rfl) (pe_callB call_abs (by rfl) T.b_abs (by decide +kernel) (pa_cons (pv 0) pa_nil)))
  (pss_cons (ps_set (i := 1) sc__law_gcd.nd rfl (Or.inl rfl) (pe_callB call_abs (by rfl) T.b_abs (by decide +kernel) (pa_cons (pv 1) pa_nil)))
  (pss_cons (ps_for PassesOwn.never rfl (pi_range1 (by rfl) T.b_range (pa_cons pe_int pa_nil)) (pg_name (i := 2) sc__law_gcd.nd rfl (Or.inl rfl)) (pss_cons (ps_if (pt_cmpR op_eq (pv 1) pe_int (nomark _)) (pss_one ps_break) pss_nil)
  (pss_cons (ps_set (i := 3) sc__law_gcd.nd rfl (Or.inl rfl) (pe_op op_mod (pe_callTy call_int1 (by rfl) T.b_int (by decide +kernel) (pa_cons (pv 0) pa_nil)) (pv 1)))
  (pss_cons (ps_set (i := 0) sc__law_gcd.nd rfl (Or.inl rfl) (pv 1))
  (pss_one (ps_set (i := 1) sc__law_gcd.nd rfl (Or.inl rfl) (pv 3)))))))
  (pss_one (ps_ret (pv 0)))))), ?_⟩
  refine seq_asg ⟨_, rfl, _, rfl, ?_⟩
  rw [abs_nat a]
  refine seq_asg ⟨_, rfl, _, rfl, ?_⟩
  rw [abs_nat b]
  refine ⟨100000, rfl, by decide, by decide, for_range (lo := 0) (n := (100000 : Int).toNat) (fun i σ H' => ∃ (x y : Nat) (v2 v3 : Option V), σ = [some (.int (x : Nat)), some (.int (y : Nat)), v2, v3] ∧ H' = H ∧ Eu a.natAbs b.natAbs i x y) ⟨a.natAbs, b.natAbs, none, none, rfl, rfl, eu_start⟩ ?_ ?_⟩
  · rintro i σ H' hi ⟨x, y, v2, v3, rfl, rfl, e⟩
    refine ⟨_, rfl, rfl, _, rfl, ?_⟩
    refine ite2 (fun c => ?_) (fun c => ?_)
    · have hy : y = 0 := by
        have := V.int.inj (of_decide_eq_true c)
        omega
      subst hy
      refine ⟨_, rfl, ?_⟩
      rw [eu_gcd e]
      exact q
    · have hy : y ≠ 0 := fun z => c (by subst z; exact decide_eq_true rfl)
      refine ⟨_, rfl, .inl ⟨_, rfl, _, rfl, _, _, rfl, rfl, by omega, ?_⟩⟩
      refine ⟨_, rfl, _, rfl, ?_⟩
      exact ⟨y, x % y, _, _, rfl, rfl, eu_step hB e hy⟩
  · rintro σ H' ⟨x, y, v2, v3, rfl, rfl, e⟩
    have hy := eu_end e
    subst hy
    refine ⟨_, rfl, ?_⟩
    rw [eu_gcd e]
    exact q
/-! ### _law_is_fraction -/
end
end P01
/-! Sums, square tables as functions, lowest terms. -/
namespace P01
open PySem PySem.Spec PyProof.Rows L2 SX EX WK
theorem quot_pos {x g : Int} (hg : 0 < g) (hd : g ∣ x) (hx : 1 ≤ x) : 1 ≤ x / g := by
  obtain ⟨k, rfl⟩ := hd
  rw [Int.mul_ediv_cancel_left _ (by omega)]
  rcases Int.lt_or_le k 1 with h | h
  · have : g * k ≤ 0 := Int.mul_nonpos_of_nonneg_of_nonpos (by omega) (by omega)
    omega
  · exact h
def Ls {α : Type} (l : List α) (f : α → Int) : Int := (l.map f).sum
theorem Ls_nil {α : Type} (f : α → Int) : Ls [] f = 0 := rfl
theorem Ls_cons {α : Type} (a : α) (l : List α) (f : α → Int) : Ls (a :: l) f = f a + Ls l f := by
  unfold Ls
  rw [List.map_cons, List.sum_cons]
theorem Ls_snoc {α : Type} (l : List α) (a : α) (f : α → Int) : Ls (l ++ [a]) f = Ls l f + f a := by
  unfold Ls
  rw [List.map_append, List.sum_append]
  simp
theorem Ls_congr {α : Type} {l : List α} {f g : α → Int} (h : ∀ a ∈ l, f a = g a) : Ls l f = Ls l g := by
  unfold Ls
  rw [List.map_congr_left h]
theorem Ls_zero {α : Type} (l : List α) : Ls l (fun _ => 0) = 0 := by
  induction l with
  | nil => rfl
  | cons a l ih => rw [Ls_cons, ih]; rfl
theorem Ls_add {α : Type} (l : List α) (f g : α → Int) : Ls l (fun a => f a + g a) = Ls l f + Ls l g := by
  induction l with
  | nil => rfl
  | cons a l ih => rw [Ls_cons, Ls_cons, Ls_cons, ih]; omega
theorem Ls_mul {α : Type} (c : Int) (l : List α) (f : α → Int) : Ls l (fun a => c * f a) = c * Ls l f := by
  induction l with
  | nil => simp [Ls_nil]
  | cons a l ih => rw [Ls_cons, Ls_cons, ih, Int.mul_add]
theorem Ls_mulr {α : Type} (c : Int) (l : List α) (f : α → Int) : Ls l (fun a => f a * c) = Ls l f * c := by
  rw [Int.mul_comm, ← Ls_mul]
  exact Ls_congr fun a _ => Int.mul_comm _ _
theorem Ls_swap {α β : Type} (l : List α) (m : List β) (f : α → β → Int) : Ls l (fun a => Ls m (f a)) = Ls m fun b => Ls l fun a => f a b := by
  induction l with
  | nil =>
    rw [Ls_nil]
    exact (Ls_zero m).symm
  | cons a l ih =>
    rw [Ls_cons, ih, ← Ls_add]
    exact Ls_congr fun b _ => (Ls_cons a l fun a => f a b).symm
abbrev S (n : Nat) (f : Nat → Int) : Int := Ls (List.range n) f
theorem S_congr {n : Nat} {f g : Nat → Int} (h : ∀ i, i < n → f i = g i) : S n f = S n g := Ls_congr fun i hi => h i (List.mem_range.mp hi)
theorem S_congr2 {n m : Nat} {f g : Nat → Nat → Int} (h : ∀ i j, i < n → j < m → f i j = g i j) : S n (fun i => S m (f i)) = S n (fun i => S m (g i)) := S_congr fun i hi => S_congr fun j hj => h i j hi hj
theorem S_succ (n : Nat) (f : Nat → Int) : S (n + 1) f = S n f + f n := by
  show Ls (List.range (n + 1)) f = _
  rw [List.range_succ, Ls_snoc]
theorem BS {k c n : Nat} {f : Nat → Int} (h : ∀ i, i < n → B k (f i)) (hn : n ≤ 2 ^ c) : B (k + c) (S n f) := by
  have e : ∀ m, m ≤ n → (S m f).natAbs + m ≤ m * 2 ^ k := fun m hm => by
    induction m with
    | zero =>
      rw [show S 0 f = 0 from rfl]
      simp
    | succ m ih =>
      rw [S_succ, Nat.succ_mul]
      have h1 := ih (by omega)
      have h2 : (f m).natAbs < 2 ^ k := h m (by omega)
      have h3 := Int.natAbs_add_le (S m f) (f m)
      omega
  have h0 := e n (Nat.le_refl _)
  show (S n f).natAbs < 2 ^ (k + c)
  have p : 0 < 2 ^ k := Nat.two_pow_pos k
  rw [Nat.pow_add]
  have h1 : n * 2 ^ k ≤ 2 ^ k * 2 ^ c := by
    rw [Nat.mul_comm]
    exact Nat.mul_le_mul_left _ hn
  have p2 : 0 < 2 ^ k * 2 ^ c := Nat.mul_pos p (Nat.two_pow_pos c)
  rcases Nat.eq_zero_or_pos n with z | z
  · subst z
    show (Ls [] f).natAbs < _
    rw [Ls_nil]
    exact p2
  · omega
theorem BLs {α : Type} {k c : Nat} {l : List α} {f : α → Int} (h : ∀ a ∈ l, B k (f a)) (hn : l.length ≤ 2 ^ c) : B (k + c) (Ls l f) := by
  have e : ∀ m : List α, (∀ a ∈ m, a ∈ l) → (Ls m f).natAbs + m.length ≤ m.length * 2 ^ k := fun m hm => by
    induction m with
    | nil => simp [Ls_nil]
    | cons a m ih =>
      rw [Ls_cons, List.length_cons, Nat.succ_mul]
      have h1 := ih (fun a ha => hm a (List.mem_cons_of_mem _ ha))
      have h2 : (f a).natAbs < 2 ^ k := h a (hm a List.mem_cons_self)
      have h3 := Int.natAbs_add_le (f a) (Ls m f)
      omega
  have h0 := e l fun _ h => h
  show (Ls l f).natAbs < 2 ^ (k + c)
  have p : 0 < 2 ^ k := Nat.two_pow_pos k
  rw [Nat.pow_add]
  have h1 : l.length * 2 ^ k ≤ 2 ^ k * 2 ^ c := by
    rw [Nat.mul_comm]
    exact Nat.mul_le_mul_left _ hn
  have p2 : 0 < 2 ^ k * 2 ^ c := Nat.mul_pos p (Nat.two_pow_pos c)
  cases l with
  | nil =>
    rw [Ls_nil]
    exact p2
  | cons a l =>
    rw [List.length_cons] at h0 h1
    omega
/-! ### vectors, tables -/
def vec (n : Nat) (x : Nat → Int) : List Int := (List.range n).map x
def mat (n : Nat) (f : Nat → Nat → Int) : List (List Int) := (List.range n).map fun i => vec n (f i)
theorem vec_len {n : Nat} {x : Nat → Int} : (vec n x).length = n := by unfold vec; rw [List.length_map, List.length_range]
theorem mat_len {n : Nat} {f : Nat → Nat → Int} : (mat n f).length = n := by unfold mat; rw [List.length_map, List.length_range]
theorem vec_at {n i : Nat} {x : Nat → Int} (h : i < n) : (vec n x)[i]? = some (x i) := by
  unfold vec
  rw [List.getElem?_map, List.getElem?_range h]
  rfl
theorem vecV_at {n i : Nat} {x : Nat → Int} (h : i < n) : ((vec n x).map V.int)[i]? = some (.int (x i)) := by
  rw [List.getElem?_map, vec_at h]
  rfl
theorem mat_at {n i : Nat} {f : Nat → Nat → Int} (h : i < n) : (mat n f)[i]? = some (vec n (f i)) := by
  unfold mat
  rw [List.getElem?_map, List.getElem?_range h]
  rfl
theorem vec_congr {n : Nat} {x y : Nat → Int} (h : ∀ i, i < n → x i = y i) : vec n x = vec n y := List.map_congr_left fun i hi => h i (List.mem_range.mp hi)
theorem mat_congr {n : Nat} {f g : Nat → Nat → Int} (h : ∀ i j, i < n → j < n → f i j = g i j) : mat n f = mat n g := List.map_congr_left fun i hi => vec_congr fun j hj => h i j (List.mem_range.mp hi) hj
theorem vec_of {n : Nat} {ns : List Int} (h : ns.length = n) : ns = vec n fun i => ns.getD i 0 := by
  refine List.ext_getElem? fun i => ?_
  by_cases hi : i < n
  · rw [vec_at hi, List.getD_eq_getElem?_getD, List.getElem?_eq_getElem (by omega)]
    rfl
  · rw [List.getElem?_eq_none (by omega), List.getElem?_eq_none (by rw [vec_len]; omega)]
theorem mat_sqr {n : Nat} {f : Nat → Nat → Int} : Sqr (mat n f) := fun r hr => by
  rw [mat_len]
  obtain ⟨i, _, rfl⟩ := List.mem_map.mp hr
  exact vec_len
theorem mat_ent {n : Nat} {f : Nat → Nat → Int} {i j : Nat} : ent (mat n f) i j = if i < n ∧ j < n then f i j else 0 := by
  unfold ent
  by_cases hi : i < n
  · rw [show (mat n f).getD i [] = vec n (f i) from by rw [List.getD_eq_getElem?_getD, mat_at hi]; rfl]
    by_cases hj : j < n
    · rw [List.getD_eq_getElem?_getD, vec_at hj, if_pos ⟨hi, hj⟩]
      rfl
    · rw [List.getD_eq_getElem?_getD, List.getElem?_eq_none (by rw [vec_len]; omega), if_neg (fun h => hj h.2)]
      rfl
  · rw [if_neg (fun h => hi h.1), show (mat n f).getD i [] = [] from by
      rw [List.getD_eq_getElem?_getD, List.getElem?_eq_none (by rw [mat_len]; omega)]
      rfl]
    rfl
theorem mat_sym {n : Nat} {f : Nat → Nat → Int} (h : ∀ i j, i < n → j < n → f i j = f j i) : Sym (mat n f) := fun i j => by
  rw [mat_ent, mat_ent]
  by_cases c : i < n ∧ j < n
  · rw [if_pos c, if_pos ⟨c.2, c.1⟩, h i j c.1 c.2]
  · rw [if_neg c, if_neg fun g => c ⟨g.2, g.1⟩]
theorem mat_mem {n : Nat} {f : Nat → Nat → Int} {i j : Nat} (hi : i < n) (hj : j < n) : f i j ∈ (mat n f).flatten :=
  List.mem_flatten.mpr ⟨_, List.mem_of_getElem? (mat_at hi), List.mem_of_getElem? (vec_at hj)⟩
theorem dm_mat {n : Nat} {f : Nat → Nat → Int} {g : Int} : dm (mat n f) g = mat n fun i j => f i j / g := by
  unfold dm mat vec
  rw [List.map_map]
  refine List.map_congr_left fun i _ => ?_
  show ((List.range n).map (f i)).map _ = _
  rw [List.map_map]
  rfl
/-! ### lowest terms -/
theorem gI_one {t b : Int} (hb : 0 < b) : gI (t / gI t b) (b / gI t b) = 1 := by
  have g := gI_pos' (t := t) hb
  have g2 : 0 < Nat.gcd t.natAbs b.natAbs := Nat.gcd_pos_of_pos_right _ (by omega)
  have e1 : (t / gI t b).natAbs = t.natAbs / Nat.gcd t.natAbs b.natAbs := by
    unfold gI
    obtain ⟨k, hk⟩ := (gI_dvd1 : gI t b ∣ t)
    unfold gI at hk
    generalize Nat.gcd t.natAbs b.natAbs = d at *
    subst hk
    rw [Int.mul_ediv_cancel_left _ (by omega), Int.natAbs_mul, Int.natAbs_natCast, Nat.mul_div_cancel_left _ g2]
  have e2 : (b / gI t b).natAbs = b.natAbs / Nat.gcd t.natAbs b.natAbs := by
    unfold gI
    obtain ⟨k, hk⟩ := (gI_dvd2 : gI t b ∣ b)
    unfold gI at hk
    generalize Nat.gcd t.natAbs b.natAbs = d at *
    subst hk
    rw [Int.mul_ediv_cancel_left _ (by omega), Int.natAbs_mul, Int.natAbs_natCast, Nat.mul_div_cancel_left _ g2]
  show ((Nat.gcd (t / gI t b).natAbs (b / gI t b).natAbs : Nat) : Int) = 1
  rw [e1, e2, Nat.gcd_div_gcd_div_gcd_of_pos_right (by omega)]
  rfl
theorem cross {t b g : Int} (hg : 0 < g) (h1 : g ∣ t) (h2 : g ∣ b) : t / g * b = t * (b / g) := by
  obtain ⟨k, rfl⟩ := h1
  obtain ⟨l, rfl⟩ := h2
  rw [Int.mul_ediv_cancel_left _ (by omega), Int.mul_ediv_cancel_left _ (by omega), Int.mul_comm g k, Int.mul_assoc]
/-- two quotients of the same number -/
theorem cross2 {t b g u v : Int} (hg : 0 < g) (h1 : g ∣ t) (h2 : g ∣ b) (h : t * v = u * b) : t / g * v = u * (b / g) := by
  obtain ⟨k, rfl⟩ := h1
  obtain ⟨l, rfl⟩ := h2
  rw [Int.mul_ediv_cancel_left _ (by omega), Int.mul_ediv_cancel_left _ (by omega)]
  have e : g * (k * v) = g * (u * l) := by
    rw [← Int.mul_assoc, h, Int.mul_left_comm]
  exact Int.eq_of_mul_eq_mul_left (by omega) e
theorem gI_scale {t b g : Int} (hg : 0 < g) (h1 : g ∣ t) (h2 : g ∣ b) : gI t b = g * gI (t / g) (b / g) := by
  obtain ⟨k, rfl⟩ := h1
  obtain ⟨l, rfl⟩ := h2
  rw [Int.mul_ediv_cancel_left _ (by omega), Int.mul_ediv_cancel_left _ (by omega)]
  unfold gI
  rw [Int.natAbs_mul, Int.natAbs_mul, Nat.gcd_mul_left]
  have : ((g.natAbs : Nat) : Int) = g := by omega
  rw [Int.natCast_mul, this]
theorem gf_scale {g : Int} (hg : 0 < g) : ∀ {ns : List Int} {b : Int}, g ∣ b → (∀ n ∈ ns, g ∣ n) → gf b ns = g * gf (b / g) (ns.map (· / g))
  | [], b, h, _ => by
    obtain ⟨k, rfl⟩ := h
    show g * k = g * (g * k / g)
    rw [Int.mul_ediv_cancel_left _ (by omega)]
  | n :: ns, b, h, hn => by
    have h1 := hn n List.mem_cons_self
    have e := gI_scale hg h h1
    have hd : g ∣ gI b n := ⟨_, e⟩
    show gf (gI b n) ns = g * gf (gI (b / g) (n / g)) (ns.map (· / g))
    rw [gf_scale hg hd fun m hm => hn m (List.mem_cons_of_mem _ hm)]
    congr 2
    rw [e, Int.mul_ediv_cancel_left _ (by omega)]
theorem gf_one {b : Int} (hb : 0 < b) (ns : List Int) : gf (b / gf b ns) (ns.map (· / gf b ns)) = 1 := by
  have hg := gf_pos hb ns
  have h := gf_scale hg (ns := ns) (b := b) (gf_dvd ns).1 (gf_dvd ns).2
  have e : gf b ns * 1 = gf b ns * gf (b / gf b ns) (ns.map (· / gf b ns)) := by rw [Int.mul_one]; exact h
  exact (Int.eq_of_mul_eq_mul_left (by omega) e).symm
theorem flat_mat {n : Nat} {f : Nat → Nat → Int} {g : Int} : (mat n fun i j => f i j / g).flatten = (mat n f).flatten.map (· / g) := by
  rw [← dm_mat]
  unfold dm
  rw [List.map_flatten]
/-- a form in lowest terms, of T over U -/
structure Red (n : Nat) (f : Nat → Nat → Int) (b : Int) (k : Nat) : Prop where
  pos : 0 < b
  bb : B k b
  fb : ∀ i j, i < n → j < n → B k (f i j)
  sym : ∀ i j, i < n → j < n → f i j = f j i
  one : gf b (mat n f).flatten = 1
def Is (n : Nat) (f : Nat → Nat → Int) (b : Int) (T : Nat → Nat → Int) (U : Int) : Prop := ∀ i j, i < n → j < n → f i j * U = T i j * b
theorem red_of {n k : Nat} {T : Nat → Nat → Int} {U : Int} (hU : 0 < U) (hB : B k U) (hT : ∀ i j, i < n → j < n → B k (T i j)) (hs : ∀ i j, i < n → j < n → T i j = T j i) :
    Red n (fun i j => T i j / gf U (mat n T).flatten) (U / gf U (mat n T).flatten) k ∧ Is n (fun i j => T i j / gf U (mat n T).flatten) (U / gf U (mat n T).flatten) T U := by
  have hg := gf_pos hU (mat n T).flatten
  have hd := gf_dvd (b := U) (mat n T).flatten
  refine ⟨⟨quot_pos hg hd.1 (by omega), B.div hg hB, fun i j hi hj => B.div hg (hT i j hi hj), fun i j hi hj => by rw [hs i j hi hj], ?_⟩, fun i j hi hj => cross hg (hd.2 _ (mat_mem hi hj)) hd.1⟩
  rw [flat_mat]
  exact gf_one hU _
/-- the same form by other terms -/
theorem Is.of {n : Nat} {f T T' : Nat → Nat → Int} {b U U' : Int} (h : Is n f b T U) (hU : 0 < U) (e : ∀ i j, i < n → j < n → T i j * U' = T' i j * U) : Is n f b T' U' := fun i j hi hj => by
  have h1 := h i j hi hj
  have h2 := e i j hi hj
  have e1 : U * (f i j * U') = U * (T' i j * b) := by
    have a1 : U * (f i j * U') = f i j * U * U' := by rw [Int.mul_left_comm, Int.mul_assoc]
    have a2 : U * (T' i j * b) = T' i j * U * b := by rw [Int.mul_left_comm, Int.mul_assoc]
    rw [a1, a2, h1, ← h2, Int.mul_assoc, Int.mul_assoc, Int.mul_comm b]
  exact Int.eq_of_mul_eq_mul_left (by omega) e1
end P01
namespace P01
open PySem PySem.Spec PyProof.Rows L2 SX EX WK
abbrev tv (n : Nat) (x : Nat → Int) : Td := .tup ((vec n x).map Td.int)
abbrev tm (n : Nat) (f : Nat → Nat → Int) : Td := tdm (mat n f)
theorem sq_same {K : PySem.W.Frag} {H H' : Hp} {k : Bool} {a : Addr} {xs : List V} (s : Same H H') (h : WZ.Sq k K H a xs) : WZ.Sq k K H' a xs := by
  cases k with
  | true => exact s.seq h
  | false => exact Same_seqT s h
theorem sq_or {K : PySem.W.Frag} {H : Hp} {k : Bool} {a : Addr} {xs : List V} (h : WZ.Sq k K H a xs) : SqL K H a xs ∨ SqT K H a xs := by
  cases k with
  | true => exact .inl h
  | false => exact .inr h
theorem sn_ints {K : PySem.W.Frag} {H : Hp} {v : V} {ns : List Int} (h : Sn K H v (.tup (ns.map Td.int))) : ∃ (k : Bool) (a : Addr), v = .ref a ∧ WZ.Sq k K H a (ns.map V.int) := by
  cases h with
  | @lst a vs ts ha hall =>
    rw [hall.ints] at ha
    exact ⟨true, a, rfl, SqL.of ha⟩
  | @tup a vs ts ha hall =>
    rw [hall.ints] at ha
    exact ⟨false, a, rfl, ha⟩
theorem sn_mat {K : PySem.W.Frag} {H : Hp} {v : V} {n : Nat} {f : Nat → Nat → Int} (h : Sn K H v (tm n f)) : ∃ (k : Bool) (a : Addr) (vs : List V), v = .ref a ∧ WZ.Sq k K H a vs ∧ vs.length = n ∧ ∀ i, i < n → ∃ u, vs[i]? = some u ∧ Sn K H u (tv n (f i)) := by
  have row : ∀ {vs : List V}, SnAll K H vs ((mat n f).map fun r => .tup (r.map Td.int)) → vs.length = n ∧ ∀ i, i < n → ∃ u, vs[i]? = some u ∧ Sn K H u (tv n (f i)) := fun {vs} hall => by
    have hl : vs.length = n := by rw [hall.len, List.length_map, mat_len]
    refine ⟨hl, fun i hi => ?_⟩
    have e := List.getElem?_eq_getElem (l := vs) (i := i) (by omega)
    obtain ⟨t, ht, hz⟩ := hall.get e
    rw [List.getElem?_map, mat_at hi] at ht
    cases ht
    exact ⟨_, e, hz⟩
  cases h with
  | @lst a vs ts ha hall => exact ⟨true, a, vs, rfl, SqL.of ha, row hall⟩
  | @tup a vs ts ha hall => exact ⟨false, a, vs, rfl, ha, row hall⟩
theorem in_range {n c i : Nat} (h : (List.range n)[c]? = some i) : c < n ∧ i = c := by
  have h1 := (List.getElem?_eq_some_iff.mp h).1
  rw [List.length_range] at h1
  rw [List.getElem?_range h1] at h
  exact ⟨h1, (Option.some.inj h).symm⟩
theorem vec_lenV {n : Nat} {x : Nat → Int} : ((vec n x).map V.int).length = n := by rw [List.length_map, vec_len]
def LTab (H : Hp) (a : Addr) (n : Nat) (f : Nat → Nat → Int) : Prop := ∃ rs : List Addr, H a = some (.lst (rs.map V.ref)) ∧ rs.length = n ∧ ∀ i, i < n → ∃ p, rs[i]? = some p ∧ H p = some (.lst ((vec n (f i)).map V.int))
theorem LTab.same {H H' : Hp} {a : Addr} {n : Nat} {f : Nat → Nat → Int} (e : Same H H') (h : LTab H a n f) : LTab H' a n f := by
  obtain ⟨rs, h1, h2, h3⟩ := h
  refine ⟨rs, e _ _ h1, h2, fun i hi => ?_⟩
  obtain ⟨p, h4, h5⟩ := h3 i hi
  exact ⟨p, h4, e _ _ h5⟩
theorem LTab.at {H : Hp} {a : Addr} {n : Nat} {f : Nat → Nat → Int} (h : LTab H a n f) : ∃ vs : List V, H a = some (.lst vs) ∧ vs.length = n ∧ ∀ i, i < n → ∃ p, vs[i]? = some (.ref p) ∧ H p = some (.lst ((vec n (f i)).map V.int)) := by
  obtain ⟨rs, h1, h2, h3⟩ := h
  refine ⟨_, h1, by rw [List.length_map]; exact h2, fun i hi => ?_⟩
  obtain ⟨p, h4, h5⟩ := h3 i hi
  exact ⟨p, by rw [List.getElem?_map, h4]; rfl, h5⟩
theorem snall_of {K : PySem.W.Frag} {H : Hp} : ∀ {vs : List V} {ts : List Td}, vs.length = ts.length → (∀ (i : Nat) (v : V) (t : Td), vs[i]? = some v → ts[i]? = some t → Sn K H v t) → SnAll K H vs ts
  | [], [], _, _ => .nil
  | [], _ :: _, h, _ => by simp at h
  | _ :: _, [], h, _ => by simp at h
  | v :: vs, t :: ts, h, g => .cons (g 0 v t rfl rfl) (snall_of (by simpa using h) fun i v t a b => g (i + 1) v t a b)
theorem LTab.sn {K : PySem.W.Frag} {H : Hp} {a : Addr} {n : Nat} {f : Nat → Nat → Int} (h : LTab H a n f) : Sn K H (.ref a) (tm n f) := by
  obtain ⟨vs, h1, h2, h3⟩ := h.at
  refine .lst h1 (snall_of (by rw [List.length_map, mat_len]; exact h2) fun i v t hv ht => ?_)
  have hi : i < n := by
    have := (List.getElem?_eq_some_iff.mp hv).1
    omega
  obtain ⟨p, h4, h5⟩ := h3 i hi
  rw [hv] at h4
  cases h4
  rw [List.getElem?_map, mat_at hi] at ht
  cases ht
  exact .lst h5 (FzAll.of_ints _).sn
def adr : V → Addr
  | .ref p => p
  | _ => 0
theorem LTab.of {H : Hp} {D : Addr} {l : List V} {n : Nat} {f : Nat → Nat → Int} (h : H D = some (.lst l)) (r : Rs (RL D) H l ((List.range n).map fun i => vec n (f i))) : LTab H D n f := by
  have hl : l.length = n := by rw [r.1, List.length_map, List.length_range]
  have at_ : ∀ i, i < n → ∃ p, l[i]? = some (.ref p) ∧ H p = some (.lst ((vec n (f i)).map V.int)) := fun i hi => by
    have e := List.getElem?_eq_getElem (l := l) (i := i) (by omega)
    obtain ⟨p, h1, _, h2⟩ := r.2 i _ (vec n (f i)) e (by rw [List.getElem?_map, List.getElem?_range hi]; rfl)
    exact ⟨p, by rw [e, h1], h2⟩
  refine ⟨l.map adr, ?_, by rw [List.length_map]; exact hl, fun i hi => ?_⟩
  · rw [h]
    congr 2
    refine List.ext_getElem? fun i => ?_
    rw [List.getElem?_map, List.getElem?_map]
    by_cases hi : i < n
    · obtain ⟨p, h1, _⟩ := at_ i hi
      rw [h1]
      rfl
    · rw [List.getElem?_eq_none (by omega)]
      rfl
  · obtain ⟨p, h1, h2⟩ := at_ i hi
    exact ⟨p, by rw [List.getElem?_map, h1]; rfl, h2⟩
theorem ix_any {K : PySem.W.Frag} {H : Hp} {k : Bool} {a : Addr} {xs : List V} {z : Int} {v : V} {Q : VK} (h : WZ.Sq k K H a xs) (e : atI xs z = some v) (q : Q v H) : rIxL K (.ref a) (.int z) H Q ∨ rIxT K (.ref a) (.int z) H Q := by
  cases k with
  | true => exact .inl ⟨a, xs, z, v, rfl, rfl, h, e, q⟩
  | false => exact .inr ⟨a, xs, z, v, rfl, rfl, h, e, q⟩
theorem ne_T {a b : Int} (h : a ≠ b) : (!decide (V.int a = V.int b)) = true := by rw [int_ne h]; rfl
theorem ne_F {a b : Int} (h : a = b) : (!decide (V.int a = V.int b)) = false := by rw [int_eq h]; rfl
theorem gI_unit (x : Int) : gI 1 x = 1 := by
  unfold gI
  rw [show (1 : Int).natAbs = 1 from rfl, Nat.gcd_one_left]
  rfl
theorem ixv {n i : Nat} {x : Nat → Int} (hi : i < n) : atI ((vec n x).map V.int) (0 + (i : Int)) = some (.int (x i)) := at_pos (by omega) (by rw [show (0 + (i : Int)).toNat = i by omega]; exact vecV_at hi)
section
variable {P : Program} {w : World} {K : PySem.W.Frag} {mg : Str → Option Value} {base : Heap} {f : Addr} {fd : FuncData} {cF cR : Addr}
def spDot (K : PySem.W.Frag) : Sp := fun vs H Q _ => ∃ (v1 v2 : V) (n k1 k2 : Nat) (x y : Nat → Int), vs = [v1, v2] ∧ Sn K H v1 (tv n x) ∧ Sn K H v2 (tv n y) ∧ n ≤ 1000 ∧ (∀ i, i < n → B k1 (x i)) ∧ (∀ i, i < n → B k2 (y i)) ∧ 0 < k1 ∧ 0 < k2 ∧ k1 + k2 ≤ 100000 ∧
  ∀ H', Same H H' → Q (.int (S n fun i => x i * y i)) H'
def spIsPoint (K : PySem.W.Frag) : Sp := fun vs H Q _ => ∃ (a : Addr) (n : Nat) (x : Nat → Int), vs = [.ref a, .int n] ∧ SqT K H a ((vec n x).map V.int) ∧ n ≤ 1000 ∧ ∀ H', Same H H' → Q (.bl true) H'
abbrev s__law_is_point : Stmt := top 41
abbrev N__law_is_point : List Str := ["value", "size", "number"]
theorem sc__law_is_point : FnScope N__law_is_point ["value", "size"] (defScope s__law_is_point) := ⟨rfl, rfl, rfl, by decide +kernel, rfl, by decide +kernel, by decide +kernel⟩
theorem ok__law_is_point (F : Fun K "_law_is_point" "_law_is_point" s__law_is_point f fd) (T : Txt mg) (C__law_whole : Cal P w K mg base 1 "_law_whole" ["value"] spLaw_whole) : FnOk P w K mg base CX0 2 f fd ["value", "size"] (spIsPoint K) := by
  refine F.ok sc__law_is_point (fun vs H Q E h => ?_) (fun cdv A outer s H vs Q E hr h => ?_)
  · obtain ⟨a, n, x, rfl, _⟩ := h
    rfl
  obtain ⟨a, n, x, rfl, ha, hn, q⟩ := h
  refine ⟨_, (pss_one (ps_ret (pe_and (pe_callB call_isi (by rfl) T.b_isinstance (by decide +kernel) (pa_cons (pv 0) (pa_cons (pe_bltn (v := .ty "tuple") (by rfl) T.b_tuple (by decide +kernel) rfl) pa_nil))) (pe_and (pe_cmpR op_eq (pe_callB call_len_seq (by rfl) T.b_len PySem.boot_len (pa_cons (pv 0) pa_nil)) (pv 1) (nomark _)) (pe_one (pe_callB (cr_all rfl) (by rfl) T.b_all (by decide +kernel) (pa_cons (pe_lc (own := [("number", 2)]) (g := gName 2) (tt := tYes) (by rfl) sc__law_is_point.nd (pi_tup (pv 0)) (blkOk_by (N := N__law_is_point) (sc := defScope s__law_is_point) (by decide +kernel)) (fun _ _ _ _ _ => (pg_name (i := 2) sc__law_is_point.nd rfl (Or.inl rfl))) (fun _ _ _ _ _ => pts_nil) (fun _ _ _ _ _ => (pe_cal C__law_whole (hr.mono (by omega)) rfl (pa_cons (pv 2) pa_nil)))) pa_nil))))))), ?_⟩
  refine ⟨_, rfl, _, _, _, _, true, rfl, .ty _, ty_tup ha, kit6, true, rfl, ifT rfl ?_⟩
  refine ⟨_, rfl, a, _, rfl, .inr ha, _, rfl, rfl, _, rfl, ifT (by rw [vec_lenV]; exact int_eq rfl) ?_⟩
  refine ⟨_, rfl, a, rfl, ⟨_, ha⟩, fun D hD => ?_⟩
  refine lc_m (walk_tup (K := K) (a := a) (xs := (vec n x).map V.int)) RB (stb_RB (K := K)) (List.range n) (by rw [vec_lenV, List.length_range]) (by rw [List.length_range]; omega) hD (fun H' s => Same_seqT s ha) (fun _ _ _ _ => ys_at) (fun _ => true) (fun c i v H1 H2 hc s1 s2 y A B hA => ?_) (fun H' l s1 hl1 rs => ?_)
  · obtain ⟨hc1, rfl⟩ := in_range hc
    have e := y.2
    rw [vecV_at hc1] at e
    cases e
    exact ⟨rfl, lc_yes ⟨_, rfl, x i, rfl, hA _ _ (fun _ _ h => h) rfl⟩⟩
  · refine ⟨D, _, rfl, SqL.of (by rw [hl1, rs.bls]), ?_⟩
    have e : (((List.range n).map fun _ => true).all id) = true := by
      rw [List.all_map]
      exact List.all_eq_true.mpr fun _ _ => rfl
    rw [e]
    exact q H' s1
abbrev s__law_dot : Stmt := top 39
abbrev N__law_dot : List Str := ["one", "two", "k"]
theorem sc__law_dot : FnScope N__law_dot ["one", "two"] (defScope s__law_dot) := ⟨rfl, rfl, rfl, by decide +kernel, rfl, by decide +kernel, by decide +kernel⟩
theorem ok__law_dot (F : Fun K "_law_dot" "_law_dot" s__law_dot f fd) (T : Txt mg) : FnOk P w K mg base CX0 1 f fd ["one", "two"] (spDot K) := by
  refine F.ok sc__law_dot (fun vs H Q E h => ?_) (fun cdv A outer s H vs Q E hr h => ?_)
  · obtain ⟨v1, v2, n, k1, k2, x, y, rfl, _⟩ := h
    rfl
  obtain ⟨v1, v2, n, k1, k2, x, y, rfl, h1, h2, hn, hx, hy, p1, p2, hk, q⟩ := h
  refine ⟨_, (pss_one (ps_ret (pe_callB (cr_sum rfl) (by rfl) T.b_sum (by decide +kernel) (pa_cons (pe_lc (own := [("k", 2)]) (g := gName 2) (tt := tYes) (by rfl) sc__law_dot.nd (pi_range1 (by rfl) T.b_range (pa_cons (pe_callB call_len_seq (by rfl) T.b_len PySem.boot_len (pa_cons (pv 0) pa_nil)) pa_nil)) (blkOk_by (N := N__law_dot) (sc := defScope s__law_dot) (by decide +kernel)) (fun _ _ _ _ _ => (pg_name (i := 2) sc__law_dot.nd rfl (Or.inl rfl))) (fun _ _ _ _ _ => pts_nil) (fun _ _ _ _ _ => (pe_op op_mulW (pe_ix (ix_orK (K := K) rfl) (pv 0) (pv 2) (fun _ _ => rfl)) (pe_ix (ix_orK (K := K) rfl) (pv 1) (pv 2) (fun _ _ => rfl))))) pa_nil)))), ?_⟩
  obtain ⟨k, a, rfl, ha⟩ := sn_ints h1
  obtain ⟨l, b, rfl, hb⟩ := sn_ints h2
  refine ⟨_, rfl, _, _, rfl, sq_or ha, (n : Int), by rw [vec_lenV], by omega, by omega, fun D hD => ?_⟩
  refine lc_m (walk_range (lo := 0) (n := n)) RI (stb_RI (K := K)) (List.range n) (by rw [List.length_range]) (by rw [List.length_range]; omega) hD (fun _ _ => trivial) (fun _ _ _ _ => ys_fn) (fun i => x i * y i) (fun c i v H1 H2 hc s1 s2 yl A B hA => ?_) (fun H' l1 s1 hl1 rs => ?_)
  · obtain ⟨hc1, rfl⟩ := in_range hc
    rw [yl.2]
    exact ⟨rfl, lc_yes ⟨_, rfl, _, rfl, ix_any (sq_same s2 ha) (ixv hc1) ⟨_, rfl, _, rfl, ix_any (sq_same s2 hb) (ixv hc1) ⟨_, _, rfl, rfl, wmul (hx i hc1) (hy i hc1) p1 p2 (by omega), hA _ _ (fun _ _ h => h) rfl⟩⟩⟩⟩
  · exact ⟨D, _, rfl, SqL.of (by rw [hl1, rs.ints]), q H' s1⟩
end
/-- a table under work: all that stood at H0 stands -/
structure MT (H0 H : Hp) (a : Addr) (rs : List Addr) (n : Nat) (f : Nat → Nat → Int) : Prop where
  same : Same H0 H
  at_ : H a = some (.lst (rs.map V.ref))
  len : rs.length = n
  nd : rs.Nodup
  na : a ∉ rs
  fr : ∀ r ∈ rs, H0 r = none
  row : ∀ (i : Nat), i < n → ∃ p, rs[i]? = some p ∧ H p = some (.lst ((vec n (f i)).map V.int))
theorem MT.ltab {H0 H : Hp} {a : Addr} {rs : List Addr} {n : Nat} {f : Nat → Nat → Int} (h : MT H0 H a rs n f) : LTab H a n f := ⟨rs, h.at_, h.len, h.row⟩
theorem MT.keep {H0 H H' : Hp} {a : Addr} {rs : List Addr} {n : Nat} {f : Nat → Nat → Int} (h : MT H0 H a rs n f) (s : Same H H') : MT H0 H' a rs n f := by
  refine ⟨h.same.trans s, s _ _ h.at_, h.len, h.nd, h.na, h.fr, fun i hi => ?_⟩
  obtain ⟨p, h1, h2⟩ := h.row i hi
  exact ⟨p, h1, s _ _ h2⟩
theorem MT.congr {H0 H : Hp} {a : Addr} {rs : List Addr} {n : Nat} {f g : Nat → Nat → Int} (h : MT H0 H a rs n f) (e : ∀ i j, i < n → j < n → f i j = g i j) : MT H0 H a rs n g := by
  refine ⟨h.same, h.at_, h.len, h.nd, h.na, h.fr, fun i hi => ?_⟩
  obtain ⟨p, h1, h2⟩ := h.row i hi
  exact ⟨p, h1, by rw [← vec_congr fun j hj => e i j hi hj]; exact h2⟩
def put (f : Nat → Nat → Int) (i j : Nat) (v : Int) : Nat → Nat → Int := fun a b => if a = i ∧ b = j then v else f a b
theorem vec_set {n j : Nat} {x : Nat → Int} {v : Int} (hj : j < n) : ((vec n x).map V.int).set j (.int v) = ((vec n fun b => if b = j then v else x b).map V.int) := by
  refine List.ext_getElem? fun b => ?_
  by_cases hb : b < n
  · rw [vecV_at hb, List.getElem?_set]
    by_cases e : j = b
    · subst e
      rw [if_pos rfl, if_pos rfl, if_pos (by rw [vec_lenV]; exact hb)]
    · rw [if_neg e, vecV_at hb, if_neg (Ne.symm e)]
  · rw [List.getElem?_eq_none (by rw [List.length_set, vec_lenV]; omega), List.getElem?_eq_none (by rw [vec_lenV]; omega)]
theorem MT.set {H0 H : Hp} {a p : Addr} {rs : List Addr} {n i j : Nat} {f : Nat → Nat → Int} {v : Int} (h : MT H0 H a rs n f) (hi : i < n) (hj : j < n) (hp : rs[i]? = some p) : MT H0 (upd H p (.lst (((vec n (f i)).map V.int).set j (.int v)))) a rs n (put f i j v) := by
  have mp := List.mem_of_getElem? hp
  refine ⟨same_at h.same (h.fr p mp), ?_, h.len, h.nd, h.na, h.fr, fun b hb => ?_⟩
  · rw [upd_ne (fun z => h.na (by rw [z]; exact mp))]
    exact h.at_
  · obtain ⟨r, h1, h2⟩ := h.row b hb
    refine ⟨r, h1, ?_⟩
    by_cases e : b = i
    · subst e
      rw [hp] at h1
      cases h1
      rw [upd_same, vec_set hj]
      congr 3
      refine vec_congr fun c hc => ?_
      unfold put
      by_cases ec : c = j
      · rw [if_pos ec, if_pos ⟨rfl, ec⟩]
      · rw [if_neg ec, if_neg fun z => ec z.2]
    · have hr : r ≠ p := fun z => by
        have hib : i < rs.length := (List.getElem?_eq_some_iff.mp hp).1
        have e1 := (List.getElem?_inj hib h.nd).mp (hp.trans (by rw [h1, z]))
        exact e e1.symm
      rw [upd_ne hr, h2]
      congr 3
      refine vec_congr fun c hc => ?_
      unfold put
      rw [if_neg fun z => e z.1]
theorem MT.start {H0 : Hp} {D : Addr} (h : H0 D = none) : MT H0 (upd H0 D (.lst [])) D [] 0 (fun _ _ => 0) := ⟨new_same h _, upd_same, rfl, List.nodup_nil, by simp, by simp, fun i hi => by omega⟩
theorem zero_vec {m n : Nat} {l : List V} {H : Hp} (h : Rs RI H l ((List.range n).map fun _ => (0 : Int))) : l = (vec n fun _ => 0).map V.int := h.ints
/-- rows of zeros, so far i of them -/
structure ZT (H0 H : Hp) (a : Addr) (rs : List Addr) (n i : Nat) : Prop where
  same : Same H0 H
  at_ : H a = some (.lst (rs.map V.ref))
  len : rs.length = i
  nd : rs.Nodup
  na : a ∉ rs
  fr : ∀ r ∈ rs, H0 r = none
  row : ∀ r ∈ rs, H r = some (.lst ((vec n fun _ => 0).map V.int))
theorem ZT.mt {H0 H : Hp} {a : Addr} {rs : List Addr} {n : Nat} (h : ZT H0 H a rs n n) : MT H0 H a rs n (fun _ _ => 0) :=
  ⟨h.same, h.at_, h.len, h.nd, h.na, h.fr, fun i hi => ⟨rs[i]'(by rw [h.len]; exact hi), List.getElem?_eq_getElem _, h.row _ (List.getElem_mem _)⟩⟩
theorem ZT.snoc {H0 H H' : Hp} {a p : Addr} {rs : List Addr} {n i : Nat} (h : ZT H0 H a rs n i) (h0 : H0 a = none) (s : Same H H') (hp : H p = none) (hr : H' p = some (.lst ((vec n fun _ => 0).map V.int))) : ZT H0 (upd H' a (.lst (rs.map V.ref ++ [.ref p]))) a (rs ++ [p]) n (i + 1) := by
  have hpa : p ≠ a := fun z => by rw [z, h.at_] at hp; cases hp
  refine ⟨same_at (h.same.trans s) h0, ?_, by rw [List.length_append, h.len]; rfl, ?_, ?_, fun r hr' => ?_, fun r hr' => ?_⟩
  · rw [upd_same, List.map_append]
    rfl
  · refine List.nodup_append.mpr ⟨h.nd, by simp, fun x hx y hy z => ?_⟩
    rw [List.mem_singleton] at hy
    subst hy
    subst z
    rw [h.row _ hx] at hp
    cases hp
  · intro hm
    rcases List.mem_append.mp hm with m | m
    · exact h.na m
    · exact hpa (List.mem_singleton.mp m).symm
  · rcases List.mem_append.mp hr' with m | m
    · exact h.fr r m
    · rw [List.mem_singleton.mp m]
      cases e : H0 p with
      | none => rfl
      | some u => rw [h.same _ _ e] at hp; cases hp
  · rcases List.mem_append.mp hr' with m | m
    · rw [upd_ne (fun z => h.na (by rw [← z]; exact m))]
      exact s _ _ (h.row r m)
    · rw [List.mem_singleton.mp m, upd_ne hpa]
      exact hr
end P01
namespace PySem.El

/-- Rows of a matrix: a row tells its number at each column. -/
abbrev Row := Nat → Int

def E (c : Nat) (f : List Row → Int) : List Row → List Row → Int
  | _, [] => 0
  | pre, r :: rs => r c * f (pre ++ rs) - E c f (pre ++ [r]) rs

def D : List Nat → List Row → Int
  | [], rows => match rows with | [] => 1 | _ :: _ => 0
  | c :: cs, rows => E c (D cs) [] rows

def comb (u : Row) (k : Int) (v : Row) : Row := fun j => u j + k * v j

def Lin (f : List Row → Int) : Prop :=
  ∀ a b u v k, f (a ++ comb u k v :: b) = f (a ++ u :: b) + k * f (a ++ v :: b)

def Alt (f : List Row → Int) : Prop := ∀ a b u, f (a ++ u :: u :: b) = 0

theorem E_lin_pre {c : Nat} {f : List Row → Int} (hf : Lin f) (u v : Row) (k : Int) :
    ∀ (b p q : List Row), E c f (p ++ comb u k v :: q) b = E c f (p ++ u :: q) b + k * E c f (p ++ v :: q) b := by
  intro b
  induction b with
  | nil => intro p q; simp [E]
  | cons r b ih =>
    intro p q
    have h1 := hf p (q ++ b) u v k
    have h2 := ih p (q ++ [r])
    simp only [E, List.append_assoc, List.cons_append] at *
    rw [h1, h2, Int.mul_add, Int.mul_sub]
    have : r c * (k * f (p ++ v :: (q ++ b))) = k * (r c * f (p ++ v :: (q ++ b))) := by
      rw [← Int.mul_assoc, Int.mul_comm (r c) k, Int.mul_assoc]
    rw [this]; omega

theorem E_lin {c : Nat} {f : List Row → Int} (hf : Lin f) (u v : Row) (k : Int) :
    ∀ (a pre b : List Row), E c f pre (a ++ comb u k v :: b) = E c f pre (a ++ u :: b) + k * E c f pre (a ++ v :: b) := by
  intro a
  induction a with
  | nil =>
    intro pre b
    have h := E_lin_pre (c := c) hf u v k b pre []
    simp only [E, List.nil_append] at *
    rw [h]
    have : comb u k v c = u c + k * v c := rfl
    rw [this, Int.add_mul, Int.mul_sub, Int.mul_assoc]; omega
  | cons r a ih =>
    intro pre b
    have h1 := hf (pre ++ a) b u v k
    have h2 := ih (pre ++ [r]) b
    simp only [E, List.append_assoc, List.cons_append] at *
    rw [h1, h2, Int.mul_add, Int.mul_sub]
    have : r c * (k * f (pre ++ (a ++ v :: b))) = k * (r c * f (pre ++ (a ++ v :: b))) := by
      rw [← Int.mul_assoc, Int.mul_comm (r c) k, Int.mul_assoc]
    rw [this]; omega

theorem E_alt_pre {c : Nat} {f : List Row → Int} (hf : Alt f) (u : Row) :
    ∀ (b p q : List Row), E c f (p ++ u :: u :: q) b = 0 := by
  intro b
  induction b with
  | nil => intro p q; rfl
  | cons r b ih =>
    intro p q
    have h1 := hf p (q ++ b) u
    have h2 := ih p (q ++ [r])
    simp only [E, List.append_assoc, List.cons_append] at *
    rw [h1, h2]; simp

theorem E_alt {c : Nat} {f : List Row → Int} (hf : Alt f) (u : Row) :
    ∀ (a pre b : List Row), E c f pre (a ++ u :: u :: b) = 0 := by
  intro a
  induction a with
  | nil =>
    intro pre b
    have h := E_alt_pre (c := c) hf u b pre []
    simp only [E, List.nil_append, List.append_assoc, List.cons_append] at *
    rw [h]; omega
  | cons r a ih =>
    intro pre b
    have h1 := hf (pre ++ a) b u
    have h2 := ih (pre ++ [r]) b
    simp only [E, List.append_assoc, List.cons_append] at *
    rw [h1, h2]; simp

theorem D_lin : ∀ cs, Lin (D cs) := by
  intro cs
  induction cs with
  | nil => intro a b u v k; cases a <;> simp [D]
  | cons c cs ih => intro a b u v k; exact E_lin ih u v k a [] b

theorem D_alt : ∀ cs, Alt (D cs) := by
  intro cs
  induction cs with
  | nil => intro a b u; cases a <;> simp [D]
  | cons c cs ih => intro a b u; exact E_alt ih u a [] b

theorem comb_one (u v : Row) : comb u 1 v = comb v 1 u := by
  funext j; simp only [comb]; omega

theorem D_swap (cs : List Nat) (a b : List Row) (u v : Row) :
    D cs (a ++ u :: v :: b) = - D cs (a ++ v :: u :: b) := by
  have h0 := D_alt cs a b (comb u 1 v)
  have h1 := D_lin cs a (comb u 1 v :: b) u v 1
  have h2 := D_lin cs (a ++ [u]) b u v 1
  have h3 := D_lin cs (a ++ [v]) b u v 1
  have h4 := D_alt cs a b u
  have h5 := D_alt cs a b v
  simp only [List.append_assoc, List.cons_append, List.nil_append] at h2 h3
  rw [h1, h2, h3, h4, h5] at h0
  omega

theorem D_far (cs : List Nat) (u : Row) : ∀ (a p b : List Row), D cs (p ++ u :: (a ++ u :: b)) = 0 := by
  intro a
  induction a with
  | nil => intro p b; exact D_alt cs p b u
  | cons r a ih =>
    intro p b
    have h1 := D_swap cs p (a ++ u :: b) u r
    have h2 := ih (p ++ [r]) b
    simp only [List.append_assoc, List.cons_append, List.nil_append] at *
    rw [h1, h2]; rfl

theorem D_mem (cs : List Nat) (u : Row) (rows : List Row) (h : u ∈ rows) : D cs (u :: rows) = 0 := by
  obtain ⟨a, b, rfl⟩ := List.append_of_mem h
  exact D_far cs u a [] b

/-- What rows span. -/
inductive Sp (rows : List Row) : Row → Prop
  | zero : Sp rows (fun _ => 0)
  | add (w : Row) (k : Int) (v : Row) : Sp rows w → v ∈ rows → Sp rows (comb w k v)

theorem comb_assoc (u w v : Row) (k : Int) : (fun j => u j + comb w k v j) = comb (fun j => u j + w j) k v := by
  funext j; simp only [comb]; omega

theorem D_sp (cs : List Nat) (rows : List Row) (u w : Row) (h : Sp rows w) :
    D cs ((fun j => u j + w j) :: rows) = D cs (u :: rows) := by
  induction h with
  | zero => simp
  | add w k v _ hv ih =>
    rw [comb_assoc]
    have := D_lin cs [] rows (fun j => u j + w j) v k
    simp only [List.nil_append] at this
    rw [this, D_mem cs v rows hv, ih]; omega

theorem D_zero : ∀ (cs : List Nat) (a b : List Row) (r : Row), (∀ j ∈ cs, r j = 0) → D cs (a ++ r :: b) = 0 := by
  intro cs
  induction cs with
  | nil => intro a b r _; cases a <;> simp [D]
  | cons c cs ih =>
    intro a b r h
    have hc : r c = 0 := h c (List.mem_cons_self ..)
    have hr : ∀ j ∈ cs, r j = 0 := fun j hj => h j (List.mem_cons_of_mem _ hj)
    have q1 : ∀ (b p q : List Row), E c (D cs) (p ++ r :: q) b = 0 := by
      intro b
      induction b with
      | nil => intro p q; rfl
      | cons s b ihb =>
        intro p q
        have h1 := ih p (q ++ b) r hr
        have h2 := ihb p (q ++ [s])
        simp only [E, List.append_assoc, List.cons_append] at *
        rw [h1, h2]; simp
    have q2 : ∀ (a p : List Row), E c (D cs) p (a ++ r :: b) = 0 := by
      intro a
      induction a with
      | nil =>
        intro p
        have h2 := q1 b p []
        simp only [E, List.nil_append] at *
        rw [h2, hc]; simp
      | cons s a iha =>
        intro p
        have h1 := ih (p ++ a) b r hr
        have h2 := iha (p ++ [s])
        simp only [E, List.append_assoc, List.cons_append] at *
        rw [h1, h2]; simp
    exact q2 a []

theorem D_first (c : Nat) (cs : List Nat) (rows : List Row) (r : Row) (h : ∀ j ∈ cs, r j = 0) :
    D (c :: cs) (r :: rows) = r c * D cs rows := by
  have q1 : ∀ (b p q : List Row), E c (D cs) (p ++ r :: q) b = 0 := by
    intro b
    induction b with
    | nil => intro p q; rfl
    | cons s b ihb =>
      intro p q
      have h1 := D_zero cs p (q ++ b) r h
      have h2 := ihb p (q ++ [s])
      simp only [E, List.append_assoc, List.cons_append] at *
      rw [h1, h2]; simp
  have := q1 rows [] []
  simp only [D, E, List.nil_append] at *
  rw [this]; omega

/-- A row times a number. -/
theorem D_scale (cs : List Nat) (rows : List Row) (k : Int) (v : Row) :
    D cs ((fun j => k * v j) :: rows) = k * D cs (v :: rows) := by
  have h := D_lin cs [] rows (fun _ => 0) v k
  have hz := D_zero cs [] rows (fun _ => 0) (fun _ _ => rfl)
  have he : comb (fun _ => 0) k v = fun j => k * v j := by funext j; simp [comb]
  simp only [List.nil_append] at *
  rw [he, hz] at h
  rw [h]; omega

/-- The heart: a row made zero at the columns of S tells the bordered minor. -/
theorem D_border (S : List Nat) (rows : List Row) (u w b : Row) (m : Int) (j : Nat)
    (hw : Sp rows w) (hb : ∀ x, m * u x + w x = b x) (hz : ∀ x ∈ S, b x = 0) :
    m * D (j :: S) (u :: rows) = b j * D S rows := by
  rw [← D_scale, ← D_sp (j :: S) rows (fun x => m * u x) w hw]
  have : (fun x => m * u x + w x) = b := funext hb
  rw [this, D_first j S rows b hz]

theorem Sp_mono {rows rows' : List Row} (h : ∀ r ∈ rows, r ∈ rows') {w : Row} (hw : Sp rows w) : Sp rows' w := by
  induction hw with
  | zero => exact .zero
  | add w k v _ hv ih => exact .add w k v ih (h v hv)

theorem Sp_scale {rows : List Row} {w : Row} (hw : Sp rows w) (c : Int) : Sp rows (fun j => c * w j) := by
  induction hw with
  | zero => simpa using Sp.zero
  | add w k v _ hv ih =>
    have := Sp.add _ (c * k) v ih hv
    have e : comb (fun j => c * w j) (c * k) v = fun j => c * comb w k v j := by
      funext j; simp only [comb]; rw [Int.mul_add, Int.mul_assoc]
    rwa [e] at this

theorem Sp_add {rows : List Row} {w w' : Row} (hw : Sp rows w) (hw' : Sp rows w') : Sp rows (fun j => w j + w' j) := by
  induction hw' with
  | zero => simpa using hw
  | add w' k v _ hv ih =>
    have := Sp.add _ k v ih hv
    rwa [← comb_assoc] at this

end PySem.El
namespace PySem.El

def redu (B : Nat → Row) (k : Nat) (d : Int) : Nat → Row := fun i j =>
  if k < i ∧ k < j then (B k k * B i j - B k i * B k j) / d else 0

/-- How the rest stands ahead of the index k: S are the pivots found (the newest first), d is the last pivot. -/
structure Inv (A : Nat → Row) (S : List Nat) (k : Nat) (d : Int) (B : Nat → Row) : Prop where
  small : ∀ s ∈ S, s < k
  dpos : 0 < d
  det : D S (S.map A) = d
  sym : ∀ i j, B i j = B j i
  low : ∀ i j, j < k → B i j = 0
  span : ∀ i, k ≤ i → ∃ m w, m ≠ 0 ∧ Sp (S.map A) w ∧ ∀ x, m * (d * A i x) + w x = m * B i x

theorem Inv.begin (A : Nat → Row) (h : ∀ i j, A i j = A j i) : Inv A [] 0 1 A where
  small := by simp
  dpos := by decide
  det := rfl
  sym := h
  low := by intro i j h; omega
  span := by
    intro i _
    exact ⟨1, fun _ => 0, by decide, .zero, by intro x; simp⟩

theorem Inv.skip {A : Nat → Row} {S k d B} (h : Inv A S k d B) (hz : ∀ x, B k x = 0) : Inv A S (k + 1) d B where
  small := fun s hs => Nat.lt_succ_of_lt (h.small s hs)
  dpos := h.dpos
  det := h.det
  sym := h.sym
  low := by
    intro i j hj
    by_cases e : j = k
    · rw [e, h.sym, hz]
    · exact h.low i j (by omega)
  span := fun i hi => h.span i (by omega)

theorem Inv.minor {A : Nat → Row} {S k d B} (h : Inv A S k d B) {i : Nat} (hi : k ≤ i) (j : Nat) :
    B i j = D (j :: S) (A i :: S.map A) := by
  obtain ⟨m, w, hm, hw, he⟩ := h.span i hi
  have hb := D_border S (S.map A) (A i) w (fun x => m * B i x) (m * d) j hw
    (by intro x; rw [← he x, Int.mul_assoc]) (by intro x hx; rw [h.low i x (h.small x hx)]; simp)
  rw [h.det] at hb
  have hne : m * d ≠ 0 := Int.mul_ne_zero hm (by have := h.dpos; omega)
  apply Int.eq_of_mul_eq_mul_left hne
  rw [hb]; grind

theorem Inv.pivotDet {A : Nat → Row} {S k d B} (h : Inv A S k d B) :
    D (k :: S) ((k :: S).map A) = B k k := (h.minor (Nat.le_refl k) k).symm

/-- The elimination step leaves no remainder. -/
theorem Inv.exact {A : Nat → Row} {S k d B} (h : Inv A S k d B) (hp : 0 < B k k) (i j : Nat) :
    d * redu B k d i j = B k k * B i j - B k i * B k j := by
  have hd := h.dpos
  unfold redu
  by_cases c : k < i ∧ k < j
  · rw [if_pos c]
    obtain ⟨m, w, hm, hw, he⟩ := h.span i (by omega)
    obtain ⟨mk, wk, hmk, hwk, hek⟩ := h.span k (Nat.le_refl k)
    have hsub : ∀ r ∈ S.map A, r ∈ (k :: S).map A := fun r hr => List.mem_cons_of_mem _ hr
    have hW : Sp ((k :: S).map A) (comb (fun x => (B k k * mk) * w x + (-(B k i * m)) * wk x) (-(B k i * m * mk * d)) (A k)) :=
      .add _ _ _ (Sp_add (Sp_scale (Sp_mono hsub hw) _) (Sp_scale (Sp_mono hsub hwk) _)) (List.mem_cons_self ..)
    have hb := D_border (k :: S) ((k :: S).map A) (A i) _ (fun x => m * mk * (B k k * B i x - B k i * B k x))
      (m * mk * B k k * d) j hW
      (by intro x; simp only [comb]; have e1 := he x; have e2 := hek x; grind)
      (by
        intro x hx
        rcases List.mem_cons.1 hx with e | hx
        · subst e; have := h.sym i x; grind
        · have l1 := h.low i x (h.small x hx); have l2 := h.low k x (h.small x hx); simp [l1, l2])
    rw [h.pivotDet] at hb
    have hne : m * mk * B k k ≠ 0 := Int.mul_ne_zero (Int.mul_ne_zero hm hmk) (by omega)
    have hN : d * D (j :: k :: S) (A i :: (k :: S).map A) = B k k * B i j - B k i * B k j := by
      apply Int.eq_of_mul_eq_mul_left hne
      grind
    rw [← hN, Int.mul_ediv_cancel_left _ (by omega)]
  · rw [if_neg c]
    by_cases ci : k < i
    · have cj : j ≤ k := by omega
      rcases Nat.lt_or_eq_of_le cj with l | e
      · have l1 := h.low i j l; have l2 := h.low k j l; simp [l1, l2]
      · subst e; have := h.sym i j; grind
    · rcases Nat.lt_or_eq_of_le (Nat.le_of_not_lt ci) with l | e
      · have l1 := h.sym i j; have l2 := h.low j i l; have l3 := h.low k i l; rw [l1, l2, l3]; simp
      · subst e; grind

theorem Inv.pivot {A : Nat → Row} {S k d B} (h : Inv A S k d B) (hp : 0 < B k k) :
    Inv A (k :: S) (k + 1) (B k k) (redu B k d) where
  small := by
    intro s hs
    rcases List.mem_cons.1 hs with e | hs
    · omega
    · have := h.small s hs; omega
  dpos := hp
  det := h.pivotDet
  sym := by
    intro i j
    have hd := h.dpos
    apply Int.eq_of_mul_eq_mul_left (show d ≠ 0 by omega)
    rw [h.exact hp, h.exact hp, h.sym i j]; grind
  low := by
    intro i j hj
    unfold redu
    rw [if_neg (by omega)]
  span := by
    intro i hi
    obtain ⟨m, w, hm, hw, he⟩ := h.span i (by omega)
    obtain ⟨mk, wk, hmk, hwk, hek⟩ := h.span k (Nat.le_refl k)
    have hd := h.dpos
    have hsub : ∀ r ∈ S.map A, r ∈ (k :: S).map A := fun r hr => List.mem_cons_of_mem _ hr
    refine ⟨m * mk * d, comb (fun x => (B k k * mk) * w x + (-(B k i * m)) * wk x) (-(B k i * m * mk * d)) (A k),
      Int.mul_ne_zero (Int.mul_ne_zero hm hmk) (by omega),
      .add _ _ _ (Sp_add (Sp_scale (Sp_mono hsub hw) _) (Sp_scale (Sp_mono hsub hwk) _)) (List.mem_cons_self ..), ?_⟩
    intro x
    have e := h.exact hp i x
    have e1 := he x
    have e2 := hek x
    simp only [comb]
    grind

/-- A bound of minors. -/
def bnd (M : Int) : Nat → Int
  | 0 => 1
  | n + 1 => ((n : Int) + 1) * (M * bnd M n)

theorem bnd_nonneg {M : Int} (hM : 0 ≤ M) : ∀ n, 0 ≤ bnd M n
  | 0 => by simp [bnd]
  | n + 1 => Int.mul_nonneg (by omega) (Int.mul_nonneg hM (bnd_nonneg hM n))

theorem abs_mul_le {a b x y : Int} (ha : -x ≤ a ∧ a ≤ x) (hb : -y ≤ b ∧ b ≤ y) : -(x * y) ≤ a * b ∧ a * b ≤ x * y := by
  have hx : 0 ≤ x := by omega
  have hy : 0 ≤ y := by omega
  have h1 : a.natAbs * b.natAbs ≤ x.natAbs * y.natAbs := Nat.mul_le_mul (by omega) (by omega)
  rw [← Int.natAbs_mul, ← Int.natAbs_mul] at h1
  have := Int.mul_nonneg hx hy
  omega

theorem E_bound {c : Nat} {f : List Row → Int} {M G : Int} (n : Nat) : ∀ (rs pre : List Row), (∀ r ∈ rs, -M ≤ r c ∧ r c ≤ M) →
    (∀ q : List Row, q.length = n → (∀ r ∈ q, r ∈ pre ++ rs) → -G ≤ f q ∧ f q ≤ G) → pre.length + rs.length = n + 1 →
    -((rs.length : Int) * (M * G)) ≤ E c f pre rs ∧ E c f pre rs ≤ (rs.length : Int) * (M * G) := by
  intro rs
  induction rs with
  | nil => intro pre _ _ _; simp [E]
  | cons r rs ih =>
    intro pre hr hf hl
    have h1 := ih (pre ++ [r]) (fun s hs => hr s (List.mem_cons_of_mem _ hs))
      (by intro q hq hm; apply hf q hq; intro s hs; have := hm s hs; simpa using this)
      (by simp at *; omega)
    have h2 := hf (pre ++ rs) (by simp at *; omega) (by
      intro s hs; rcases List.mem_append.1 hs with a | a
      · exact List.mem_append_left _ a
      · exact List.mem_append_right _ (List.mem_cons_of_mem _ a))
    have h3 := abs_mul_le (hr r (List.mem_cons_self ..)) h2
    have e : ((r :: rs).length : Int) * (M * G) = (rs.length : Int) * (M * G) + M * G := by
      simp [Int.add_mul]
    simp only [E]
    rw [e]
    omega

theorem D_bound {M : Int} (hM : 0 ≤ M) : ∀ (cs : List Nat) (rows : List Row), rows.length = cs.length →
    (∀ r ∈ rows, ∀ c ∈ cs, -M ≤ r c ∧ r c ≤ M) →
    -(bnd M cs.length) ≤ D cs rows ∧ D cs rows ≤ bnd M cs.length := by
  intro cs
  induction cs with
  | nil =>
    intro rows hl _
    cases rows with
    | nil => simp [D, bnd]
    | cons r rs => simp at hl
  | cons c cs ih =>
    intro rows hl h
    have := E_bound (c := c) (f := D cs) (M := M) (G := bnd M cs.length) cs.length rows []
      (fun r hr => h r hr c (List.mem_cons_self ..))
      (by
        intro q hq hm
        exact ih q hq (fun r hr x hx => h r (by simpa using hm r hr) x (List.mem_cons_of_mem _ hx)))
      (by simpa using hl)
    simp only [D, bnd, List.length_cons]
    rw [hl] at this
    simpa using this

theorem Inv.bound {A : Nat → Row} {S k d B} (h : Inv A S k d B) {M : Int} (hM : 0 ≤ M)
    (hA : ∀ i j, -M ≤ A i j ∧ A i j ≤ M) {i : Nat} (hi : k ≤ i) (j : Nat) :
    -(bnd M (S.length + 1)) ≤ B i j ∧ B i j ≤ bnd M (S.length + 1) := by
  rw [h.minor hi j]
  have := D_bound hM (j :: S) (A i :: S.map A) (by simp) (by
    intro r hr c _
    rcases List.mem_cons.1 hr with e | hr
    · subst e; exact hA i c
    · obtain ⟨s, _, rfl⟩ := List.mem_map.1 hr; exact hA s c)
  simpa using this

end PySem.El
namespace PySem.El

/-- The pivots of an elimination, newest first: index, row, scale. -/
abbrev Pv := Nat × Row × Int

/-- The elimination without fractions up to the index k. -/
inductive Run (A : Nat → Row) : Nat → List Nat → Int → (Nat → Row) → List Pv → Prop
  | begin : Run A 0 [] 1 A []
  | skip {k S d B ps} : Run A k S d B ps → (∀ x, B k x = 0) → Run A (k + 1) S d B ps
  | pivot {k S d B ps} : Run A k S d B ps → 0 < B k k →
      Run A (k + 1) (k :: S) (B k k) (redu B k d) ((k, B k, d * B k k) :: ps)

theorem Run.inv {A : Nat → Row} (hA : ∀ i j, A i j = A j i) {k S d B ps} (h : Run A k S d B ps) : Inv A S k d B := by
  induction h with
  | begin => exact .begin A hA
  | skip _ hz ih => exact ih.skip hz
  | pivot _ hp ih => exact ih.pivot hp

theorem Run.same {A : Nat → Row} {k S d B ps} (h : Run A k S d B ps) :
    ∀ {S' d' B' ps'}, Run A k S' d' B' ps' → S = S' ∧ d = d' ∧ B = B' ∧ ps = ps' := by
  induction h with
  | begin => intro _ _ _ _ h; cases h; exact ⟨rfl, rfl, rfl, rfl⟩
  | @skip k S d B ps _ hz ih =>
    intro _ _ _ _ h
    cases h with
    | skip h' _ => exact ih h'
    | @pivot _ _ _ B' _ h' hp =>
      obtain ⟨_, _, e, _⟩ := ih h'
      subst e; have := hz k; omega
  | @pivot k S d B ps _ hp ih =>
    intro _ _ _ _ h
    cases h with
    | @skip _ _ _ B' _ h' hz =>
      obtain ⟨_, _, e, _⟩ := ih h'
      subst e; have := hz k; omega
    | pivot h' _ =>
      obtain ⟨e1, e2, e3, e4⟩ := ih h'
      subst e1; subst e2; subst e3; subst e4
      exact ⟨rfl, rfl, rfl, rfl⟩

theorem Run.leads {A : Nat → Row} {k S d B ps} (h : Run A k S d B ps) : ps.map (·.1) = S := by
  induction h with
  | begin => rfl
  | skip _ _ ih => exact ih
  | pivot _ _ ih => simp [ih]

theorem Run.many {A : Nat → Row} {k S d B ps} (h : Run A k S d B ps) : S.length ≤ k := by
  induction h with
  | begin => simp
  | skip _ _ ih => omega
  | pivot _ _ ih => simp; omega

/-- What a step of the elimination with common divisors leaves, times g. -/
def numer (R : Nat → Row) (k : Nat) : Nat → Row := fun i j => R k k * R i j - R k i * R k j

/-- Two rests that tell the same from k on. -/
structure Tie (k : Nat) (R B : Nat → Row) : Prop where
  ex : ∃ a b : Int, 0 < a ∧ 0 < b ∧ ∀ i j, k ≤ i → k ≤ j → a * R i j = b * B i j

theorem Tie.zero {k R B} (h : Tie k R B) {i j : Nat} (hi : k ≤ i) (hj : k ≤ j) : R i j = 0 ↔ B i j = 0 := by
  obtain ⟨a, b, ha, hb, he⟩ := h.ex
  have := he i j hi hj
  constructor
  · intro z
    rw [z, Int.mul_zero] at this
    rcases Int.mul_eq_zero.1 this.symm with q | q <;> omega
  · intro z
    rw [z, Int.mul_zero] at this
    rcases Int.mul_eq_zero.1 this with q | q <;> omega

theorem Tie.pos {k R B} (h : Tie k R B) {i j : Nat} (hi : k ≤ i) (hj : k ≤ j) : 0 < R i j ↔ 0 < B i j := by
  obtain ⟨a, b, ha, hb, he⟩ := h.ex
  have e := he i j hi hj
  constructor
  · intro z
    have := Int.mul_pos ha z
    rw [e] at this
    exact Int.pos_of_mul_pos_right this hb
  · intro z
    have := Int.mul_pos hb z
    rw [← e] at this
    exact Int.pos_of_mul_pos_right this ha

theorem Tie.skip {k R B} (h : Tie k R B) : Tie (k + 1) R B := by
  obtain ⟨a, b, ha, hb, he⟩ := h.ex
  exact ⟨a, b, ha, hb, fun i j hi hj => he i j (by omega) (by omega)⟩

/-- A step of the law's elimination: g is the common divisor of what is left behind k (0 if all is 0). -/
theorem Tie.pivot {A : Nat → Row} {S k d B R R'} (h : Inv A S k d B) (hp : 0 < B k k) (t : Tie k R B)
    (g : Int) (hg0 : 0 ≤ g)
    (hg : ∀ a c : Int, (∀ i j, k < i → k < j → c ∣ a * numer R k i j) → c ∣ a * g)
    (hR : ∀ i j, k < i → k < j → numer R k i j = g * R' i j)
    (hz : g = 0 → ∀ i j, k < i → k < j → R' i j = 0) :
    Tie (k + 1) R' (redu B k d) ∧ ∀ i j, k < i → k < j → (R' i j).natAbs ≤ (redu B k d i j).natAbs := by
  obtain ⟨a, b, ha, hb, he⟩ := t.ex
  have hd := h.dpos
  have key : ∀ i j, k < i → k < j → (a * a) * numer R k i j = (b * b * d) * redu B k d i j := by
    intro i j hi hj
    have e := h.exact hp i j
    have e1 := he k k (by omega) (by omega)
    have e2 := he i j (by omega) (by omega)
    have e3 := he k i (by omega) (by omega)
    have e4 := he k j (by omega) (by omega)
    rw [show (b * b * d) * redu B k d i j = b * b * (d * redu B k d i j) by grind, e]
    unfold numer
    have : (a * a) * (R k k * R i j - R k i * R k j) = (a * R k k) * (a * R i j) - (a * R k i) * (a * R k j) := by grind
    rw [this, e1, e2, e3, e4]; grind
  have hbd : 0 < b * b * d := Int.mul_pos (Int.mul_pos hb hb) hd
  have fin : ∃ q : Int, 0 < q ∧ ∀ i j, k < i → k < j → q * R' i j = redu B k d i j := by
    by_cases g0 : g = 0
    · refine ⟨1, by decide, ?_⟩
      intro i j hi hj
      have e := key i j hi hj
      rw [hR i j hi hj, g0] at e
      rw [hz g0 i j hi hj]
      simp only [Int.zero_mul, Int.mul_zero] at e
      rcases Int.mul_eq_zero.1 e.symm with q | q
      · omega
      · omega
    · have hdv := hg (a * a) (b * b * d) (fun i j hi hj => ⟨redu B k d i j, key i j hi hj⟩)
      obtain ⟨q, hq⟩ := hdv
      have hpos : 0 < a * a * g := Int.mul_pos (Int.mul_pos ha ha) (by omega)
      refine ⟨q, ?_, ?_⟩
      · rw [hq] at hpos
        exact Int.pos_of_mul_pos_right hpos hbd
      · intro i j hi hj
        have e := key i j hi hj
        rw [hR i j hi hj] at e
        apply Int.eq_of_mul_eq_mul_left (show b * b * d ≠ 0 by omega)
        rw [← e, ← Int.mul_assoc, ← hq]; grind
  obtain ⟨q, hq, hqe⟩ := fin
  refine ⟨⟨q, 1, hq, by decide, ?_⟩, ?_⟩
  · intro i j hi hj
    rw [hqe i j (by omega) (by omega)]; simp
  · intro i j hi hj
    rw [← hqe i j hi hj, Int.natAbs_mul]
    exact Nat.le_mul_of_pos_left _ (by omega)

/-- The greatest common divisor of numbers. -/
def gl (l : List Int) : Nat := l.foldl (fun g x => Nat.gcd g x.natAbs) 0

theorem gl_fold (l : List Int) : ∀ g, l.foldl (fun g x => Nat.gcd g x.natAbs) g = Nat.gcd g (gl l) := by
  unfold gl
  induction l with
  | nil => intro g; simp
  | cons x l ih =>
    intro g
    simp only [List.foldl_cons]
    rw [ih, ih (Nat.gcd 0 x.natAbs)]
    simp [Nat.gcd_assoc]

theorem gl_cons (x : Int) (l : List Int) : gl (x :: l) = Nat.gcd x.natAbs (gl l) := by
  have := gl_fold l (Nat.gcd 0 x.natAbs)
  unfold gl at *
  simp only [List.foldl_cons]
  rw [this]; simp

theorem nat_dvd {n : Nat} {x : Int} : (n : Int) ∣ x ↔ n ∣ x.natAbs := by
  rw [← Int.natAbs_dvd_natAbs, Int.natAbs_natCast]

theorem gl_dvd {l : List Int} {x : Int} (h : x ∈ l) : (gl l : Int) ∣ x := by
  induction l with
  | nil => simp at h
  | cons y l ih =>
    rw [gl_cons]
    rcases List.mem_cons.1 h with e | h
    · subst e
      exact nat_dvd.2 (Nat.gcd_dvd_left _ _)
    · have h1 := nat_dvd.1 (ih h)
      exact nat_dvd.2 (Nat.dvd_trans (Nat.gcd_dvd_right _ _) h1)

theorem dvd_gl {l : List Int} (a c : Int) (h : ∀ x ∈ l, c ∣ a * x) : c ∣ a * (gl l : Int) := by
  induction l with
  | nil => simp [gl]
  | cons y l ih =>
    have h1 := h y (List.mem_cons_self ..)
    have h2 := ih (fun x hx => h x (List.mem_cons_of_mem _ hx))
    rw [gl_cons]
    have g1 : c.natAbs ∣ a.natAbs * y.natAbs := by rw [← Int.natAbs_mul]; exact Int.natAbs_dvd_natAbs.2 h1
    have g2 : c.natAbs ∣ a.natAbs * gl l := by
      have := Int.natAbs_dvd_natAbs.2 h2
      rwa [Int.natAbs_mul, Int.natAbs_natCast] at this
    have g3 : c.natAbs ∣ a.natAbs * Nat.gcd y.natAbs (gl l) := by
      rw [← Nat.gcd_mul_left]; exact Nat.dvd_gcd g1 g2
    apply Int.natAbs_dvd_natAbs.1
    rwa [Int.natAbs_mul, Int.natAbs_natCast]

end PySem.El
namespace PySem.El

/-- The sum of f below n. -/
def sm : Nat → (Nat → Int) → Int
  | 0, _ => 0
  | n + 1, f => sm n f + f n

theorem sm_congr {n : Nat} {f g : Nat → Int} (h : ∀ i, i < n → f i = g i) : sm n f = sm n g := by
  induction n with
  | zero => rfl
  | succ n ih => simp only [sm]; rw [ih (fun i hi => h i (by omega)), h n (by omega)]

theorem sm_add (n : Nat) (f g : Nat → Int) : sm n (fun i => f i + g i) = sm n f + sm n g := by
  induction n with
  | zero => rfl
  | succ n ih => simp only [sm]; rw [ih]; omega

theorem sm_sub (n : Nat) (f g : Nat → Int) : sm n (fun i => f i - g i) = sm n f - sm n g := by
  induction n with
  | zero => rfl
  | succ n ih => simp only [sm]; rw [ih]; omega

theorem sm_mul (n : Nat) (c : Int) (f : Nat → Int) : sm n (fun i => c * f i) = c * sm n f := by
  induction n with
  | zero => simp [sm]
  | succ n ih => simp only [sm]; rw [ih, Int.mul_add]

theorem sm_zero (n : Nat) : sm n (fun _ => 0) = 0 := by
  induction n with
  | zero => rfl
  | succ n ih => simp only [sm]; rw [ih]; rfl

theorem sm_one {n k : Nat} (f : Nat → Int) (hk : k < n) : sm n (fun i => if i = k then f i else 0) = f k := by
  induction n with
  | zero => omega
  | succ n ih =>
    simp only [sm]
    by_cases e : k = n
    · subst e
      have : sm k (fun i => if i = k then f i else 0) = sm k (fun _ => 0) :=
        sm_congr (fun i hi => if_neg (by omega))
      rw [this, sm_zero]; simp
    · rw [ih (by omega), if_neg (by omega)]; omega

def lin (n : Nat) (r x : Row) : Int := sm n (fun j => r j * x j)

/-- The value of a matrix at a point. -/
def Q (n : Nat) (B : Nat → Row) (x : Row) : Int := sm n (fun i => sm n (fun j => B i j * (x i * x j)))

theorem Q_congr {n B B' x x'} (h : ∀ i j, i < n → j < n → B i j * (x i * x j) = B' i j * (x' i * x' j)) :
    Q n B x = Q n B' x' := sm_congr (fun i hi => sm_congr (fun j hj => h i j hi hj))

theorem Q_mul (n : Nat) (c : Int) (B : Nat → Row) (x : Row) : Q n (fun i j => c * B i j) x = c * Q n B x := by
  unfold Q
  rw [← sm_mul]
  apply sm_congr; intro i _
  rw [← sm_mul]
  apply sm_congr; intro j _
  rw [Int.mul_assoc]

theorem Q_add (n : Nat) (B C : Nat → Row) (x : Row) : Q n (fun i j => B i j + C i j) x = Q n B x + Q n C x := by
  unfold Q
  rw [← sm_add]
  apply sm_congr; intro i _
  rw [← sm_add]
  apply sm_congr; intro j _
  rw [Int.add_mul]

theorem Q_square (n : Nat) (r x : Row) : Q n (fun i j => r i * r j) x = lin n r x * lin n r x := by
  unfold Q
  have : ∀ i, sm n (fun j => r i * r j * (x i * x j)) = lin n r x * (r i * x i) := by
    intro i
    rw [Int.mul_comm]
    unfold lin
    rw [← sm_mul]
    apply sm_congr; intro j _; grind
  rw [sm_congr (fun i _ => this i), sm_mul]
  rfl

/-- One step tells the value: the square of the pivot's row, and the rest. -/
theorem Inv.value {A : Nat → Row} {S k d B} (h : Inv A S k d B) (hp : 0 < B k k) (n : Nat) (x : Row) :
    B k k * Q n B x = lin n (B k) x * lin n (B k) x + d * Q n (redu B k d) x := by
  rw [← Q_square, ← Q_mul, ← Q_mul, ← Q_add]
  apply Q_congr
  intro i j _ _
  rw [h.exact hp]; grind

theorem Run.value {A : Nat → Row} (hA : ∀ i j, A i j = A j i) {k S d B ps} (h : Run A k S d B ps) (n : Nat) (x : Row)
    (hx : ∀ p ∈ ps, lin n p.2.1 x = 0) : ∃ u v : Int, 0 < u ∧ 0 < v ∧ u * Q n A x = v * Q n B x := by
  induction h with
  | begin => exact ⟨1, 1, by decide, by decide, rfl⟩
  | skip _ _ ih => exact ih hx
  | @pivot k S d B ps h hp ih =>
    obtain ⟨u, v, hu, hv, he⟩ := ih (fun p hp => hx p (List.mem_cons_of_mem _ hp))
    have hI := h.inv hA
    have e := hI.value hp n x
    have hl := hx _ (List.mem_cons_self ..)
    simp only at hl
    rw [hl] at e
    refine ⟨B k k * u, v * d, Int.mul_pos hp hu, Int.mul_pos hv hI.dpos, ?_⟩
    grind

def rest (n k : Nat) (row x : Row) : Int := sm n (fun j => if k < j then row j * x j else 0)

/-- A point at which one more pivot's row is 0. -/
def sett1 (n k : Nat) (row x : Row) : Row := fun i =>
  if i = k then -rest n k row x / (Int.gcd (rest n k row x) (row k) : Int)
  else row k / (Int.gcd (rest n k row x) (row k) : Int) * x i

def setl (n : Nat) : List Pv → Row → Row
  | [], x => x
  | p :: ps, x => setl n ps (sett1 n p.1 p.2.1 x)

theorem lin_split {n k : Nat} (row x : Row) (hk : k < n) (hz : ∀ j, j < k → row j = 0) :
    lin n row x = row k * x k + rest n k row x := by
  unfold lin rest
  rw [← sm_one (fun j => row j * x j) hk, ← sm_add]
  apply sm_congr
  intro j _
  by_cases c : j = k
  · rw [if_pos c, if_neg (by omega)]; omega
  · rw [if_neg c]
    by_cases c2 : k < j
    · rw [if_pos c2]; omega
    · rw [if_neg c2, hz j (by omega)]; simp

theorem sett1_zero {n k : Nat} (row x : Row) (hk : k < n) (hz : ∀ j, j < k → row j = 0) (hp : 0 < row k) :
    lin n row (sett1 n k row x) = 0 ∧
      ∃ f, 0 < f ∧ ∀ i, i ≠ k → sett1 n k row x i = f * x i := by
  let g : Int := (Int.gcd (rest n k row x) (row k) : Int)
  have hg : 0 < g := by
    have : 0 < Int.gcd (rest n k row x) (row k) := Int.gcd_pos_of_ne_zero_right _ (by omega)
    show (0 : Int) < (Int.gcd (rest n k row x) (row k) : Int)
    omega
  obtain ⟨r1, h1⟩ : g ∣ rest n k row x := Int.gcd_dvd_left ..
  obtain ⟨p1, h2⟩ : g ∣ row k := Int.gcd_dvd_right ..
  have hp1 : 0 < p1 := by rw [h2] at hp; exact Int.pos_of_mul_pos_right hp hg
  have e1 : -rest n k row x / g = -r1 := by
    rw [h1, ← Int.mul_neg, Int.mul_ediv_cancel_left _ (by omega)]
  have e2 : row k / g = p1 := by
    rw [h2, Int.mul_ediv_cancel_left _ (by omega)]
  have hs : ∀ i, sett1 n k row x i = if i = k then -r1 else p1 * x i := by
    intro i
    show (if i = k then -rest n k row x / g else row k / g * x i) = _
    rw [e1, e2]
  refine ⟨?_, p1, hp1, ?_⟩
  · rw [lin_split row _ hk hz, hs k, if_pos rfl]
    have : rest n k row (sett1 n k row x) = p1 * rest n k row x := by
      unfold rest
      rw [← sm_mul]
      apply sm_congr
      intro j _
      by_cases c : k < j
      · rw [if_pos c, if_pos c, hs j, if_neg (by omega)]; grind
      · rw [if_neg c, if_neg c]; simp
    rw [this, h1, h2]; grind
  · intro i hi
    rw [hs i, if_neg hi]

theorem lin_mul (n : Nat) (r x y : Row) (c : Int) (h : ∀ i, i < n → r i = 0 ∨ y i = c * x i) : lin n r y = c * lin n r x := by
  unfold lin
  rw [← sm_mul]
  apply sm_congr
  intro j hj
  rcases h j hj with e | e
  · rw [e]; simp
  · rw [e]; grind

theorem Run.settled {A : Nat → Row} (hA : ∀ i j, A i j = A j i) {k S d B ps} (h : Run A k S d B ps) (n : Nat) (hk : k ≤ n) :
    ∀ x, (∀ p ∈ ps, lin n p.2.1 (setl n ps x) = 0) ∧ ∃ f, 0 < f ∧ ∀ i, i ∉ S → setl n ps x i = f * x i := by
  induction h with
  | begin => intro x; exact ⟨by simp, 1, by decide, by intro i _; simp [setl]⟩
  | skip _ _ ih => exact ih (by omega)
  | @pivot k S d B ps h hp ih =>
    intro x
    have hI := h.inv hA
    obtain ⟨i1, f, hf, i2⟩ := ih (by omega) (sett1 n k (B k) x)
    obtain ⟨j1, q, hq, j2⟩ := sett1_zero (B k) x (show k < n by omega) (fun j hj => hI.low k j hj) hp
    refine ⟨?_, f * q, Int.mul_pos hf hq, ?_⟩
    · intro p hp'
      rcases List.mem_cons.1 hp' with e | hp'
      · subst e
        show lin n (B k) (setl n ps (sett1 n k (B k) x)) = 0
        rw [lin_mul n (B k) (sett1 n k (B k) x) _ f, j1, Int.mul_zero]
        intro i _
        by_cases c : i ∈ S
        · exact .inl (hI.low k i (hI.small i c))
        · exact .inr (i2 i c)
      · exact i1 p hp'
    · intro i hi
      have h1 : i ≠ k := fun e => hi (by rw [e]; exact List.mem_cons_self ..)
      have h2 : i ∉ S := fun e => hi (List.mem_cons_of_mem _ e)
      show setl n ps (sett1 n k (B k) x) i = _
      rw [i2 i h2, j2 i h1]; grind

/-- The value at a settled point has the sign of the rest's value at the point. -/
theorem Run.negAt {A : Nat → Row} (hA : ∀ i j, A i j = A j i) {k S d B ps} (h : Run A k S d B ps) (n : Nat)
    (x z : Row) (hz : ∀ p ∈ ps, lin n p.2.1 z = 0) (a b : Int) (ha : 0 < a) (hb : 0 < b)
    (hs : ∀ i, i < n → i ∉ S → a * z i = b * x i) (hq : Q n B x < 0) : Q n A z < 0 := by
  obtain ⟨u, v, hu, hv, he⟩ := h.value hA n z hz
  have hI := h.inv hA
  have e : (a * a) * Q n B z = (b * b) * Q n B x := by
    rw [← Q_mul, ← Q_mul]
    apply Q_congr
    intro i j hi hj
    by_cases ci : i ∈ S
    · rw [hI.sym i j, hI.low j i (hI.small i ci)]; simp
    · by_cases cj : j ∈ S
      · rw [hI.low i j (hI.small j cj)]; simp
      · have e1 := hs i hi ci
        have e2 := hs j hj cj
        have : a * a * B i j * (z i * z j) = B i j * ((a * z i) * (a * z j)) := by grind
        rw [this, e1, e2]; grind
  have haa : 0 < a * a := Int.mul_pos ha ha
  have hbb : 0 < b * b := Int.mul_pos hb hb
  have h1 : Q n B z < 0 := by
    have : (b * b) * Q n B x < 0 := Int.mul_neg_of_pos_of_neg hbb hq
    rw [← e] at this
    rcases Int.lt_or_le (Q n B z) 0 with c | c
    · exact c
    · have := Int.mul_nonneg (Int.le_of_lt haa) c; omega
  have h2 : u * Q n A z < 0 := by rw [he]; exact Int.mul_neg_of_pos_of_neg hv h1
  rcases Int.lt_or_le (Q n A z) 0 with c | c
  · exact c
  · have := Int.mul_nonneg (Int.le_of_lt hu) c; omega

def unitP (k : Nat) : Row := fun i => if i = k then 1 else 0

theorem Q_unit {n k : Nat} (B : Nat → Row) (hk : k < n) : Q n B (unitP k) = B k k := by
  unfold Q unitP
  have : ∀ i, sm n (fun j => B i j * ((if i = k then 1 else 0) * (if j = k then 1 else 0))) = if i = k then B i k else 0 := by
    intro i
    by_cases c : i = k
    · subst c
      rw [if_pos rfl, if_pos rfl, ← sm_one (fun j => B i j) hk]
      apply sm_congr; intro j _
      by_cases cj : j = i <;> simp [cj]
    · simp [c, sm_zero]
  rw [sm_congr (fun i _ => this i), sm_one (fun i => B i k) hk]

/-- The point of a zero pivot with a number beside it. -/
def sideP (a : Int) (k q : Nat) : Row := fun i => a * (if i = k then 1 else 0) + (if i = q then 1 else 0)

theorem Q_side {n k q : Nat} (B : Nat → Row) (a : Int) (hk : k < n) (hq : q < n) (hs : B k q = B q k) :
    Q n B (sideP a k q) = a * a * B k k + 2 * a * B k q + B q q := by
  have hsum : ∀ (f : Nat → Int), sm n (fun j => f j * sideP a k q j) = a * f k + f q := by
    intro f
    rw [← sm_one f hk, ← sm_one f hq, ← sm_mul, ← sm_add]
    apply sm_congr; intro j _
    unfold sideP
    by_cases c1 : j = k <;> by_cases c2 : j = q <;> simp [c1, c2] <;> grind
  unfold Q
  have : ∀ i, sm n (fun j => B i j * (sideP a k q i * sideP a k q j)) = (a * B i k + B i q) * sideP a k q i := by
    intro i
    rw [← hsum (fun j => B i j), Int.mul_comm, ← sm_mul]
    apply sm_congr; intro j _; grind
  rw [sm_congr (fun i _ => this i), hsum]
  rw [← hs]; grind

theorem Q_side_neg {n k q : Nat} (B : Nat → Row) (hk : k < n) (hq : q < n) (hs : B k q = B q k) (h0 : B k k = 0)
    (hne : B k q ≠ 0) (a : Int)
    (ha : a = if 0 < B k q then -((B q q).natAbs + 1 : Int) else ((B q q).natAbs + 1 : Int)) :
    Q n B (sideP a k q) < 0 := by
  rw [Q_side B a hk hq hs, h0]
  have key : a * B k q ≤ -((B q q).natAbs + 1 : Int) := by
    by_cases c : 0 < B k q
    · rw [if_pos c] at ha
      have h1 : (B q q).natAbs + 1 ≤ ((B q q).natAbs + 1 : Int) * B k q := by
        have := Int.mul_le_mul_of_nonneg_left (show (1 : Int) ≤ B k q by omega) (show 0 ≤ ((B q q).natAbs + 1 : Int) by omega)
        omega
      rw [ha, Int.neg_mul]; omega
    · rw [if_neg c] at ha
      have h1 : ((B q q).natAbs + 1 : Int) ≤ ((B q q).natAbs + 1 : Int) * (-(B k q)) := by
        have := Int.mul_le_mul_of_nonneg_left (show (1 : Int) ≤ -(B k q) by omega) (show 0 ≤ ((B q q).natAbs + 1 : Int) by omega)
        omega
      rw [Int.mul_neg] at h1
      rw [ha]; omega
  have e : 2 * a * B k q = 2 * (a * B k q) := by grind
  rw [e]; omega

end PySem.El
namespace PySem.El

/-- What is known of each pivot. -/
structure PvOk (R : Nat → Int) (G : Nat → Int) (k : Nat) (p : Pv) : Prop where
  small : p.1 < k
  zero : ∀ j, j < p.1 → p.2.1 j = 0
  pos : 0 < p.2.1 p.1
  spos : 0 < p.2.2
  row : ∀ j, -R p.1 ≤ p.2.1 j ∧ p.2.1 j ≤ R p.1
  scale : p.2.2 ≤ G p.1

theorem bnd_pos {M : Int} (hM : 1 ≤ M) : ∀ n, 1 ≤ bnd M n
  | 0 => by simp [bnd]
  | n + 1 => by
    have h := bnd_pos hM n
    have h1 : 1 * 1 ≤ M * bnd M n := Int.mul_le_mul hM h (by decide) (by omega)
    have h2 : 1 * 1 ≤ ((n : Int) + 1) * (M * bnd M n) := Int.mul_le_mul (by omega) (by simpa using h1) (by decide) (by omega)
    simpa [bnd] using h2

theorem bnd_succ {M : Int} (hM : 1 ≤ M) (n : Nat) : bnd M n ≤ bnd M (n + 1) := by
  have h := bnd_pos hM n
  have h1 : 1 * bnd M n ≤ M * bnd M n := Int.mul_le_mul_of_nonneg_right hM (by omega)
  have h2 : 1 * (M * bnd M n) ≤ ((n : Int) + 1) * (M * bnd M n) := Int.mul_le_mul_of_nonneg_right (by omega) (by omega)
  simp only [bnd]; omega

theorem bnd_mono {M : Int} (hM : 1 ≤ M) {a b : Nat} (h : a ≤ b) : bnd M a ≤ bnd M b := by
  induction h with
  | refl => exact Int.le_refl _
  | step _ ih => exact Int.le_trans ih (bnd_succ hM _)

theorem Run.dbound {A : Nat → Row} {k S d B ps} (h : Inv A S k d B) (hk : S.length ≤ k) (M : Int) (hM : 1 ≤ M)
    (hb : ∀ i j, -M ≤ A i j ∧ A i j ≤ M) (_ : Run A k S d B ps) : d ≤ bnd M k := by
  have := (D_bound (M := M) (by omega) S (S.map A) (by simp) (by
    intro r hr c _
    obtain ⟨s, _, rfl⟩ := List.mem_map.1 hr; exact hb s c)).2
  rw [h.det] at this
  exact Int.le_trans this (bnd_mono hM hk)

theorem Run.rbound {A : Nat → Row} (hA : ∀ i j, A i j = A j i) {k S d B ps} (h : Run A k S d B ps) (M : Int) (hM : 1 ≤ M)
    (hb : ∀ i j, -M ≤ A i j ∧ A i j ≤ M) {i : Nat} (hi : k ≤ i) (j : Nat) :
    -bnd M (k + 1) ≤ B i j ∧ B i j ≤ bnd M (k + 1) := by
  have h1 := (h.inv hA).bound (M := M) (by omega) hb hi j
  have h2 := bnd_mono hM (show S.length + 1 ≤ k + 1 by have := h.many; omega)
  omega

theorem Run.pivots {A : Nat → Row} (hA : ∀ i j, A i j = A j i) {k S d B ps} (h : Run A k S d B ps) (M : Int) (hM : 1 ≤ M)
    (hb : ∀ i j, -M ≤ A i j ∧ A i j ≤ M) :
    ∀ p ∈ ps, PvOk (fun k => bnd M (k + 1)) (fun k => bnd M k * bnd M (k + 1)) k p := by
  induction h with
  | begin => intro p hp; simp at hp
  | skip _ _ ih =>
    intro p hp
    have := ih p hp
    exact { this with small := Nat.lt_succ_of_lt this.small }
  | @pivot k S d B ps h hp ih =>
    intro p hq
    rcases List.mem_cons.1 hq with e | hq
    · subst e
      have hI := h.inv hA
      have hr := fun j => h.rbound hA M hM hb (Nat.le_refl k) j
      exact {
        small := Nat.lt_succ_self _
        zero := fun j hj => hI.low k j hj
        pos := hp
        spos := Int.mul_pos hI.dpos hp
        row := hr
        scale := Int.mul_le_mul (Run.dbound hI h.many M hM hb h) (hr k).2 (Int.le_of_lt hp) (by have := bnd_pos hM k; show 0 ≤ bnd M k; omega) }
    · have := ih p hq
      exact { this with small := Nat.lt_succ_of_lt this.small }

def lsum (ps : List Pv) (f : Pv → Int) : Int := ps.foldr (fun p t => f p + t) 0

theorem lsum_mul (ps : List Pv) (c : Int) (f : Pv → Int) : lsum ps (fun p => c * f p) = c * lsum ps f := by
  induction ps with
  | nil => simp [lsum]
  | cons p ps ih => simp only [lsum, List.foldr_cons] at *; rw [ih, Int.mul_add]

theorem lsum_congr {ps : List Pv} {f g : Pv → Int} (h : ∀ p ∈ ps, f p = g p) : lsum ps f = lsum ps g := by
  induction ps with
  | nil => rfl
  | cons p ps ih =>
    simp only [lsum, List.foldr_cons] at *
    rw [ih (fun q hq => h q (List.mem_cons_of_mem _ hq)), h p (List.mem_cons_self ..)]

/-- The squares of the pivots and the rest are the matrix. -/
theorem Run.squares {A : Nat → Row} (hA : ∀ i j, A i j = A j i) {k S d B ps} (h : Run A k S d B ps) (W : Int) (c : Pv → Int)
    (hc : ∀ p ∈ ps, c p * p.2.2 = W) (i j : Nat) :
    d * (W * A i j) = d * lsum ps (fun p => c p * (p.2.1 i * p.2.1 j)) + W * B i j := by
  induction h with
  | begin => simp [lsum]
  | skip _ _ ih => exact ih hc
  | @pivot k S d B ps h hp ih =>
    have hI := h.inv hA
    have e := ih (fun p hq => hc p (List.mem_cons_of_mem _ hq))
    have e2 := hI.exact hp i j
    have e3 := hc _ (List.mem_cons_self ..)
    have hd := hI.dpos
    simp only [lsum, List.foldr_cons] at *
    apply Int.eq_of_mul_eq_mul_left (show d ≠ 0 by omega)
    grind

theorem Run.whole {A : Nat → Row} (hA : ∀ i j, A i j = A j i) {n S d B ps} (h : Run A n S d B ps) (W : Int) (c : Pv → Int)
    (hc : ∀ p ∈ ps, c p * p.2.2 = W) (i j : Nat) (hj : j < n) :
    W * A i j = lsum ps (fun p => c p * (p.2.1 i * p.2.1 j)) := by
  have e := h.squares hA W c hc i j
  have hI := h.inv hA
  rw [hI.low i j hj] at e
  have hd := hI.dpos
  apply Int.eq_of_mul_eq_mul_left (show d ≠ 0 by omega)
  omega

def wprod (ps : List Pv) : Int := ps.foldr (fun p t => p.2.2 * t) 1

theorem wprod_pos {ps : List Pv} (h : ∀ p ∈ ps, 0 < p.2.2) : 0 < wprod ps := by
  induction ps with
  | nil => decide
  | cons p ps ih =>
    simp only [wprod, List.foldr_cons] at *
    exact Int.mul_pos (h p (List.mem_cons_self ..)) (ih (fun q hq => h q (List.mem_cons_of_mem _ hq)))

theorem wprod_dvd {ps : List Pv} {p : Pv} (hp : p ∈ ps) : p.2.2 ∣ wprod ps := by
  induction ps with
  | nil => simp at hp
  | cons q ps ih =>
    simp only [wprod, List.foldr_cons] at *
    rcases List.mem_cons.1 hp with e | hp
    · subst e; exact ⟨_, rfl⟩
    · exact Int.dvd_trans (ih hp) ⟨q.2.2, by rw [Int.mul_comm]⟩

/-- The told squares expand to the matrix: g times the told row is the pivot's row, top over div is the weight. -/
theorem Run.expands {A : Nat → Row} (hA : ∀ i j, A i j = A j i) {n S d B ps} (h : Run A n S d B ps)
    (hs : ∀ p ∈ ps, 0 < p.2.2) (low L : Int) (top div g : Pv → Int) (pr : Pv → Row)
    (hpr : ∀ p ∈ ps, ∀ j, g p * pr p j = p.2.1 j) (hw : ∀ p ∈ ps, top p * (p.2.2 * low) = g p * g p * div p)
    (hd : ∀ p ∈ ps, 0 < div p ∧ div p ∣ L) (i j : Nat) (hj : j < n) :
    lsum ps (fun p => top p * (L / div p) * (pr p i * pr p j)) * low = L * A i j := by
  have hW := wprod_pos hs
  have e := h.whole hA (wprod ps) (fun p => wprod ps / p.2.2)
    (fun p hp => by rw [Int.mul_comm]; exact Int.mul_ediv_cancel' (wprod_dvd hp)) i j hj
  apply Int.eq_of_mul_eq_mul_left (show wprod ps ≠ 0 by omega)
  have e1 : wprod ps * (L * A i j) = L * (wprod ps * A i j) := by grind
  rw [e1, e, ← lsum_mul, Int.mul_comm (lsum _ _) low, ← lsum_mul, ← lsum_mul]
  apply lsum_congr
  intro p hp
  obtain ⟨c, hc⟩ := wprod_dvd hp
  obtain ⟨hdp, q, hq⟩ := hd p hp
  have s0 := hs p hp
  have r1 : wprod ps / p.2.2 = c := by rw [hc]; exact Int.mul_ediv_cancel_left _ (by omega)
  have r2 : L / div p = q := by rw [hq]; exact Int.mul_ediv_cancel_left _ (by omega)
  rw [r1, r2, ← hpr p hp i, ← hpr p hp j, hq, hc]
  have := hw p hp
  grind

/-- Bounds of settled points. -/
def tb (R : Nat → Int) (n : Int) : Nat → Int
  | 0 => 1
  | k + 1 => tb R n k * (n * R k)

theorem rest_bound {n k : Nat} (row x : Row) {R X : Int} (hr : ∀ j, -R ≤ row j ∧ row j ≤ R) (hx : ∀ j, -X ≤ x j ∧ x j ≤ X) :
    -((n : Int) * (R * X)) ≤ rest n k row x ∧ rest n k row x ≤ (n : Int) * (R * X) := by
  unfold rest
  induction n with
  | zero => simp [sm]
  | succ n ih =>
    have h := abs_mul_le (hr n) (hx n)
    have e : ((n + 1 : Nat) : Int) * (R * X) = (n : Int) * (R * X) + R * X := by
      simp [Int.add_mul]
    have hp : 0 ≤ R * X := Int.mul_nonneg (by have := hr 0; omega) (by have := hx 0; omega)
    simp only [sm]
    rw [e]
    by_cases c : k < n
    · rw [if_pos c]; omega
    · rw [if_neg c]; omega

theorem div_bound {a g X : Int} (hg : 0 < g) (h : -X ≤ a ∧ a ≤ X) (hd : g ∣ a) : -X ≤ a / g ∧ a / g ≤ X := by
  obtain ⟨q, rfl⟩ := hd
  rw [Int.mul_ediv_cancel_left _ (by omega)]
  rcases Int.lt_or_le q 0 with c | c
  · have h1 : q ≥ g * q := by
      have := Int.mul_le_mul_of_nonneg_right (show (1 : Int) ≤ g by omega) (show 0 ≤ -q by omega)
      simp only [Int.mul_neg] at this; omega
    omega
  · have h1 : q ≤ g * q := by
      have := Int.mul_le_mul_of_nonneg_right (show (1 : Int) ≤ g by omega) c
      omega
    omega

theorem sett1_bound {n k : Nat} (row x : Row) {R X : Int} (hk : k < n) (hp : 0 < row k)
    (hr : ∀ j, -R ≤ row j ∧ row j ≤ R) (hx : ∀ j, -X ≤ x j ∧ x j ≤ X) (i : Nat) :
    -((n : Int) * R * X) ≤ sett1 n k row x i ∧ sett1 n k row x i ≤ (n : Int) * R * X := by
  have hb := rest_bound (n := n) (k := k) row x hr hx
  have hR : 0 ≤ R := by have := hr 0; omega
  have hX : 0 ≤ X := by have := hx 0; omega
  have hg : (0 : Int) < (Int.gcd (rest n k row x) (row k) : Int) := by
    have : 0 < Int.gcd (rest n k row x) (row k) := Int.gcd_pos_of_ne_zero_right _ (by omega)
    omega
  unfold sett1
  by_cases c : i = k
  · rw [if_pos c]
    have := div_bound hg (X := (n : Int) * (R * X)) (a := -rest n k row x) (by omega)
      (by rw [Int.dvd_neg]; exact Int.gcd_dvd_left ..)
    rw [← Int.mul_assoc] at this
    exact this
  · rw [if_neg c]
    have h1 := div_bound hg (hr k) (Int.gcd_dvd_right ..)
    have h2 := abs_mul_le h1 (hx i)
    have h3 : 1 * (R * X) ≤ (n : Int) * (R * X) := Int.mul_le_mul_of_nonneg_right (by omega) (Int.mul_nonneg hR hX)
    rw [Int.mul_assoc]
    omega

theorem tb_pos {R : Nat → Int} {n : Int} (hn : 1 ≤ n) (hR : ∀ k, 1 ≤ R k) : ∀ k, 1 ≤ tb R n k
  | 0 => by simp [tb]
  | k + 1 => by
    have h := tb_pos hn hR k
    have h1 : 1 * 1 ≤ n * R k := Int.mul_le_mul hn (hR k) (by decide) (by omega)
    have h2 : 1 * 1 ≤ tb R n k * (n * R k) := Int.mul_le_mul h (by simpa using h1) (by decide) (by omega)
    simpa [tb] using h2

theorem Run.setl_bound {A : Nat → Row} {k S d B ps} (h : Run A k S d B ps) (R G : Nat → Int) (n : Nat)
    (hR : ∀ k, 1 ≤ R k) (hp : ∀ p ∈ ps, PvOk R G n p) (hn : k ≤ n) :
    ∀ (x : Row) (X : Int), 0 ≤ X → (∀ i, -X ≤ x i ∧ x i ≤ X) →
      ∀ i, -(X * tb R n k) ≤ setl n ps x i ∧ setl n ps x i ≤ X * tb R n k := by
  induction h with
  | begin => intro x X _ hx i; simpa [setl, tb] using hx i
  | @skip k S d B ps _ _ ih =>
    intro x X hX hx i
    have h1 := ih hp (by omega) x X hX hx i
    have h2 : tb R n k * 1 ≤ tb R n (k + 1) := by
      have a := tb_pos (R := R) (n := (n : Int)) (by omega) hR k
      have b : 1 * 1 ≤ (n : Int) * R k := Int.mul_le_mul (by omega) (hR k) (by decide) (by omega)
      simp only [tb]
      exact Int.mul_le_mul_of_nonneg_left (by simpa using b) (by omega)
    have h3 := Int.mul_le_mul_of_nonneg_left h2 hX
    simp only [Int.mul_one] at h3
    omega
  | @pivot k S d B ps _ hpos ih =>
    intro x X hX hx i
    have h0 := hp _ (List.mem_cons_self ..)
    have hb := sett1_bound (n := n) (B k) x (show k < n by omega) hpos h0.row hx
    have hnR : 0 ≤ (n : Int) * R k * X := Int.mul_nonneg (Int.mul_nonneg (by omega) (by have := hR k; omega)) hX
    have h1 := ih (fun p hq => hp p (List.mem_cons_of_mem _ hq)) (by omega) _ _ hnR hb i
    have e : (n : Int) * R k * X * tb R n k = X * tb R n (k + 1) := by simp only [tb]; grind
    rw [e] at h1
    exact h1

end PySem.El
namespace P01
open PySem PySem.Spec PyProof.Rows L2 SX EX WK
section
variable {P : Program} {w : World} {K : PySem.W.Frag} {mg : Str → Option Value} {base : Heap} {f : Addr} {fd : FuncData} {cF cR : Addr}
/-- a tuple of n numbers -/
def TV (K : PySem.W.Frag) (H : Hp) (a : Addr) (n : Nat) (x : Nat → Int) : Prop := SqT K H a ((vec n x).map V.int)
def spUnit (K : PySem.W.Frag) : Sp := fun vs H Q _ => ∃ (n k : Nat), vs = [.int n, .int k] ∧ n ≤ 1000 ∧ ∀ a H', Same H H' → TV K H' a n (El.unitP k) → Q (.ref a) H'
abbrev s_unit_point : Stmt := top 3
abbrev N_unit_point : List Str := ["size", "index", "place"]
theorem sc_unit_point : FnScope N_unit_point ["size", "index"] (defScope s_unit_point) := ⟨rfl, rfl, rfl, by decide +kernel, rfl, by decide +kernel, by decide +kernel⟩
theorem ok_unit_point (F : Fun K "unit_point" "unit_point" s_unit_point f fd) (T : Txt mg) : FnOk P w K mg base CX0 1 f fd ["size", "index"] (spUnit K) := by
  refine F.ok sc_unit_point (fun vs H Q E h => ?_) (fun cdv A outer s H vs Q E hr h => ?_)
  · obtain ⟨n, k, rfl, _⟩ := h
    rfl
  obtain ⟨n, k, rfl, hn, q⟩ := h
  refine ⟨_, (pss_one (ps_ret (pe_callTy call_tuple_of (by rfl) T.b_tuple (by decide +kernel) (pa_cons (pe_lc (own := [("place", 2)]) (g := gName 2) (tt := tYes) (by rfl) sc_unit_point.nd (pi_range1 (by rfl) T.b_range (pa_cons (pv 0) pa_nil)) (blkOk_by (N := N_unit_point) (sc := defScope s_unit_point) (by decide +kernel)) (fun _ _ _ _ _ => (pg_name (i := 2) sc_unit_point.nd rfl (Or.inl rfl))) (fun _ _ _ _ _ => pts_nil) (fun _ _ _ _ _ => (pe_callTy call_int1 (by rfl) T.b_int (by decide +kernel) (pa_cons (pe_cmpR op_eq (pv 2) (pv 1) (nomark _)) pa_nil)))) pa_nil)))), ?_⟩
  refine ⟨_, rfl, (n : Int), rfl, by omega, by omega, fun D hD => ?_⟩
  refine lc_m (walk_range (lo := 0) (n := n)) RI (stb_RI (K := K)) (List.range n) (by rw [List.length_range]) (by rw [List.length_range]; omega) hD (fun _ _ => trivial) (fun _ _ _ _ => ys_fn) (fun i => El.unitP k i) (fun c i v H1 H2 hc s1 s2 yl A B hA => ?_) (fun H' l1 s1 hl1 rs => ?_)
  · obtain ⟨hc1, rfl⟩ := in_range hc
    rw [yl.2]
    refine ⟨rfl, lc_yes ⟨_, rfl, _, rfl, rfl, .inr ⟨_, rfl, hA _ _ (fun _ _ h => h) ?_⟩⟩⟩
    show V.int _ = V.int (El.unitP k i)
    unfold El.unitP
    by_cases e : i = k
    · rw [if_pos e, int_eq (by omega), if_pos rfl]
    · rw [if_neg e, int_ne (by omega), if_neg Bool.false_ne_true]
  · refine ⟨D, _, rfl, .inl ⟨SqL.of hl1, fun t ht => ?_⟩⟩
    refine q _ _ (s1.trans (same_new ht _)) ?_
    unfold TV
    rw [← show l1 = (vec n (El.unitP k)).map V.int from rs.ints]
    exact SqT.of upd_same
def spSide (K : PySem.W.Frag) : Sp := fun vs H Q _ => ∃ (a : Addr) (n k : Nat) (x : Nat → Int), vs = [.ref a, .int k] ∧ H a = some (.lst ((vec n x).map V.int)) ∧ n ≤ 1000 ∧ k < n ∧
  (∀ p, k < p → p < n → x p ≠ 0 → (∀ q, k < q → q < p → x q = 0) → Q (.int p) H) ∧ ((∀ p, k < p → p < n → x p = 0) → Q .non H)
abbrev s_side_index : Stmt := top 4
abbrev N_side_index : List Str := ["line", "index", "place"]
theorem sc_side_index : FnScope N_side_index ["line", "index"] (defScope s_side_index) := ⟨rfl, rfl, rfl, by decide +kernel, rfl, by decide +kernel, by decide +kernel⟩
theorem ok_side_index (F : Fun K "side_index" "side_index" s_side_index f fd) (T : Txt mg) : FnOk P w K mg base CX0 1 f fd ["line", "index"] (spSide K) := by
  refine F.ok sc_side_index (fun vs H Q E h => ?_) (fun cdv A outer s H vs Q E hr h => ?_)
  · obtain ⟨a, n, k, x, rfl, _⟩ := h
    rfl
  obtain ⟨a, n, k, x, rfl, ha, hn, hk, q1, q2⟩ := h
  refine ⟨_, (pss_cons (ps_for PassesOwn.never rfl (pi_range2 (by rfl) T.b_range (pa_cons (pe_op op_add (pv 1) pe_int) (pa_cons (pe_callB call_len_seq (by rfl) T.b_len PySem.boot_len (pa_cons (pv 0) pa_nil)) pa_nil))) (pg_name (i := 2) sc_side_index.nd rfl (Or.inl rfl)) (pss_one (ps_if (pt_cmpR op_ne (pe_ix ix_list /-?-/ (pv 0) (pv 2) (fun _ _ => rfl)) pe_int (nomark _)) (pss_one (ps_ret (pv 2))) pss_nil)))
  (pss_one (ps_ret pe_non))), ?_⟩
  refine ⟨_, rfl, _, _, rfl, rfl, _, rfl, _, _, rfl, .inl (SqL.of ha), (k : Int) + 1, (n : Int), by rw [vec_lenV], ⟨by omega, by omega, by omega, by omega⟩, ?_⟩
  refine for_range (lo := (k : Int) + 1) (n := ((n : Int) - ((k : Int) + 1)).toNat) (fun j σ H1 => ∃ v2 : Option V, σ = [some (.ref a), some (.int (k : Int)), v2] ∧ H1 = H ∧ ∀ p, k < p → p < k + 1 + j → x p = 0) ⟨none, rfl, rfl, fun p h1 h2 => by omega⟩ ?_ ?_
  · rintro j σ H1 hj ⟨v2, rfl, rfl, hz⟩
    have hp : k + 1 + j < n := by omega
    refine ⟨_, rfl, _, rfl, a, _, _, _, rfl, rfl, SqL.of ha, at_pos (by omega) (by rw [show ((k : Int) + 1 + (j : Int)).toNat = k + 1 + j by omega]; exact vecV_at hp), rfl, _, rfl, ?_⟩
    by_cases e : x (k + 1 + j) = 0
    · refine ifF (ne_F e) ⟨_, rfl, rfl, fun p h1 h2 => ?_⟩
      by_cases c : p = k + 1 + j
      · rw [c]; exact e
      · exact hz p h1 (by omega)
    · refine ifT (ne_T e) ⟨_, rfl, ?_⟩
      have := q1 _ (by omega) hp e hz
      rw [show (k : Int) + 1 + (j : Int) = ((k + 1 + j : Nat) : Int) by omega]
      exact this
  · rintro σ H1 ⟨v2, rfl, rfl, hz⟩
    exact q2 fun p h1 h2 => hz p h1 (by omega)
/-- what keeps a rest from being below 0 at the index -/
def Fine (n k : Nat) (M : Nat → Nat → Int) : Prop := 0 < M k k ∨ (M k k = 0 ∧ ∀ p, k < p → p < n → M k p = 0)
def amt (k p : Nat) (M : Nat → Nat → Int) : Int := if 0 < M k p then -((M p p).natAbs + 1 : Int) else ((M p p).natAbs + 1 : Int)
/-- the bad point at the index -/
def BadAt (n k : Nat) (M : Nat → Nat → Int) (x : Nat → Int) : Prop :=
  (M k k < 0 ∧ x = El.unitP k) ∨ (M k k = 0 ∧ ∃ p, k < p ∧ p < n ∧ M k p ≠ 0 ∧ (∀ q, k < q → q < p → M k q = 0) ∧ x = El.sideP (amt k p M) k p)
def spBad (K : PySem.W.Frag) : Sp := fun vs H Q _ => ∃ (a : Addr) (n k w : Nat) (M : Nat → Nat → Int), vs = [.ref a, .int k] ∧ LTab H a n M ∧ n ≤ 1000 ∧ k < n ∧ (∀ i j, i < n → j < n → B w (M i j)) ∧ 0 < w ∧ w ≤ 9000 ∧
  (Fine n k M → Q .non H) ∧ ∀ x t H', BadAt n k M x → Same H H' → TV K H' t n x → Q (.ref t) H'
abbrev s_bad_point : Stmt := top 5
abbrev N_bad_point : List Str := ["table", "index", "size", "place", "amount", "other"]
theorem sc_bad_point : FnScope N_bad_point ["table", "index"] (defScope s_bad_point) := ⟨rfl, rfl, rfl, by decide +kernel, rfl, by decide +kernel, by decide +kernel⟩
theorem ok_bad_point (F : Fun K "bad_point" "bad_point" s_bad_point f fd) (T : Txt mg) (C_unit_point : Cal P w K mg base 1 "unit_point" ["size", "index"] (spUnit K)) (C_side_index : Cal P w K mg base 1 "side_index" ["line", "index"] (spSide K)) : FnOk P w K mg base CX0 2 f fd ["table", "index"] (spBad K) := by
  refine F.ok sc_bad_point (fun vs H Q E h => ?_) (fun cdv A outer s H vs Q E hr h => ?_)
  · obtain ⟨a, n, k, w, M, rfl, _⟩ := h
    rfl
  obtain ⟨a, n, k, w, M, rfl, ht, hn, hk, hB, hw, hw9, q1, q2⟩ := h
  refine ⟨_, (pss_cons (ps_set (i := 2) sc_bad_point.nd rfl (Or.inl rfl) (pe_callB call_len_seq (by rfl) T.b_len PySem.boot_len (pa_cons (pv 0) pa_nil)))
  (pss_cons (ps_if (pt_cmpR op_lt (pe_ix ix_list /-?-/ (pe_ix ix_list (pv 0) (pv 1) (fun _ _ => rfl)) (pv 1) (fun _ _ => rfl)) pe_int (nomark _)) (pss_one (ps_ret (pe_cal C_unit_point (hr.mono (by omega)) rfl (pa_cons (pv 2) (pa_cons (pv 1) pa_nil))))) pss_nil)
  (pss_cons (ps_set (i := 3) sc_bad_point.nd rfl (Or.inr rfl) (pe_cal C_side_index (hr.mono (by omega)) rfl (pa_cons (pe_ix ix_list (pv 0) (pv 1) (fun _ _ => rfl)) (pa_cons (pv 1) pa_nil))))
  (pss_cons (ps_if (PW.pt (pw_or (pt_cmpR op_gt (pe_ix ix_list /-?-/ (pe_ix ix_list (pv 0) (pv 1) (fun _ _ => rfl)) (pv 1) (fun _ _ => rfl)) pe_int (nomark _)) (pw_or1 (pt_cmpR op_isN (pv 3) pe_non (nomark _))))) (pss_one (ps_ret pe_non)) pss_nil)
  (pss_cons (ps_set (i := 4) sc_bad_point.nd rfl (Or.inr rfl) (pe_op op_add (pe_callB call_abs (by rfl) T.b_abs (by decide +kernel) (pa_cons (pe_ix ix_list /-?-/ (pe_ix ix_list (pv 0) (pv 3) (fun _ _ => rfl)) (pv 3) (fun _ _ => rfl)) pa_nil)) pe_int))
  (C8.pss_cut (ps_if (pt_cmpR op_gt (pe_ix ix_list /-?-/ (pe_ix ix_list (pv 0) (pv 1) (fun _ _ => rfl)) (pv 3) (fun _ _ => rfl)) pe_int (nomark _)) (pss_one (ps_set (i := 4) sc_bad_point.nd rfl (Or.inr rfl) (pe_un un_neg (pv 4)))) pss_nil)
  (pss_one (ps_ret (pe_callTy call_tuple_of (by rfl) T.b_tuple (by decide +kernel) (pa_cons (pe_lc (own := [("other", 5)]) (g := gName 5) (tt := tYes) (by rfl) sc_bad_point.nd (pi_range1 (by rfl) T.b_range (pa_cons (pv 2) pa_nil)) (blkOk_by (N := N_bad_point) (sc := defScope s_bad_point) (by decide +kernel)) (fun _ _ _ _ _ => (pg_name (i := 5) sc_bad_point.nd rfl (Or.inl rfl))) (fun _ _ _ _ _ => pts_nil) (fun _ _ _ _ _ => (pe_op op_add (pe_op op_mulW (pv 4) (pe_callTy call_int1 (by rfl) T.b_int (by decide +kernel) (pa_cons (pe_cmpR op_eq (pv 5) (pv 1) (nomark _)) pa_nil))) (pe_callTy call_int1 (by rfl) T.b_int (by decide +kernel) (pa_cons (pe_cmpR op_eq (pv 5) (pv 3) (nomark _)) pa_nil))))) pa_nil)))))))))), ?_⟩
  obtain ⟨rs, ha, hl, row⟩ := ht
  have hlen : (rs.map V.ref).length = n := by rw [List.length_map, hl]
  obtain ⟨p, hp, hpr⟩ := row k hk
  have hpv : (rs.map V.ref)[k]? = some (V.ref p) := by rw [List.getElem?_map, hp]; rfl
  have atk : ∀ {j : Nat}, j < n → atI ((vec n (M k)).map V.int) (j : Int) = some (.int (M k j)) := fun hj => at_pos (by omega) (by rw [Int.toNat_natCast]; exact vecV_at hj)
  refine ⟨_, rfl, _, _, rfl, .inl (SqL.of ha), ?_⟩
  refine ⟨_, rfl, _, rfl, a, _, _, _, rfl, rfl, SqL.of ha, at_pos (by omega) (by rw [Int.toNat_natCast]; exact hpv), _, rfl, p, _, _, _, rfl, rfl, SqL.of hpr, atk hk, ?_⟩
  have gcall : ∀ {x : Nat → Int} {t : Addr} {H' : Hp}, BadAt n k M x → Same H H' → TV K H' t n x → Q (.ref t) H' := fun h s ht => q2 _ _ _ h s ht
  refine ⟨_, _, rfl, rfl, _, rfl, ?_⟩
  by_cases c0 : M k k < 0
  · refine ifT (decide_eq_true c0) ⟨_, rfl, _, rfl, n, k, by rw [hlen]; rfl, hn, fun t H' s ht => ?_⟩
    exact gcall (.inl ⟨c0, rfl⟩) s ht
  refine ifF (decide_eq_false c0) ?_
  refine ⟨_, rfl, _, rfl, a, _, _, _, rfl, rfl, SqL.of ha, at_pos (by omega) (by rw [Int.toNat_natCast]; exact hpv), _, rfl, p, n, k, M k, rfl, hpr, hn, hk, fun q hq hqn hne hfirst => ?_, fun hz => ?_⟩
  · refine ⟨_, rfl, _, rfl, a, _, _, _, rfl, rfl, SqL.of ha, at_pos (by omega) (by rw [Int.toNat_natCast]; exact hpv), _, rfl, p, _, _, _, rfl, rfl, SqL.of hpr, atk hk, ?_⟩
    refine ⟨_, _, rfl, rfl, _, rfl, ?_⟩
    by_cases c1 : 0 < M k k
    · exact ifT (decide_eq_true c1) (ifT rfl (q1 (.inl c1)))
    refine ifF (decide_eq_false c1) ⟨_, rfl, rfl, _, rfl, ifF (decide_eq_false fun e => by cases e) ?_⟩
    have c2 : M k k = 0 := by omega
    obtain ⟨p2, hp2, hpr2⟩ := row q hqn
    have hpv2 : (rs.map V.ref)[q]? = some (V.ref p2) := by rw [List.getElem?_map, hp2]; rfl
    refine ⟨_, rfl, _, rfl, a, _, _, _, rfl, rfl, SqL.of ha, at_pos (by omega) (by rw [Int.toNat_natCast]; exact hpv2), _, rfl, p2, _, _, _, rfl, rfl, SqL.of hpr2, at_pos (by omega) (by rw [Int.toNat_natCast]; exact vecV_at hqn), _, rfl, _, _, rfl, rfl, ?_⟩
    have hB2 : B (w + 1) (amt k q M) := by
      have h1 : (M q q).natAbs < 2 ^ w := hB q q hqn hqn
      show (amt k q M).natAbs < 2 ^ (w + 1)
      have : 1 ≤ 2 ^ w := Nat.one_le_two_pow
      rw [Nat.pow_succ]
      unfold amt
      split <;> omega
    refine ⟨fun σ H1 => σ = [some (.ref a), some (.int (k : Int)), some (.int (n : Int)), some (.int (q : Int)), some (.int (amt k q M)), none] ∧ H1 = H, ?_, ?_⟩
    · refine ⟨_, rfl, _, rfl, a, _, _, _, rfl, rfl, SqL.of ha, at_pos (by omega) (by rw [Int.toNat_natCast]; exact hpv), _, rfl, p, _, _, _, rfl, rfl, SqL.of hpr, atk hqn, _, _, rfl, rfl, _, rfl, ?_⟩
      have e0 : (if M q q < 0 then -M q q else M q q) = ((M q q).natAbs : Int) := by split <;> omega
      by_cases c3 : 0 < M k q
      · refine ifT (decide_eq_true c3) ⟨_, rfl, _, rfl, ?_, rfl⟩
        show [_, _, some (V.int ((rs.map V.ref).length : Nat)), _, some (V.int (-((if M q q < 0 then -M q q else M q q) + 1))), _] = _
        unfold amt
        rw [if_pos c3, hlen, e0]
      · refine ifF (decide_eq_false c3) ⟨?_, rfl⟩
        show [_, _, some (V.int ((rs.map V.ref).length : Nat)), _, some (V.int ((if M q q < 0 then -M q q else M q q) + 1)), _] = _
        unfold amt
        rw [if_neg c3, hlen, e0]
    · rintro σ H1 ⟨rfl, rfl⟩
      refine ⟨_, rfl, (n : Int), rfl, by omega, by omega, fun D hD => ?_⟩
      refine lc_m (walk_range (lo := 0) (n := n)) RI (stb_RI (K := K)) (List.range n) (by rw [List.length_range]) (by rw [List.length_range]; omega) hD (fun _ _ => trivial) (fun _ _ _ _ => ys_fn) (fun i => El.sideP (amt k q M) k q i) (fun c i v H2 H3 hc s1 s2 yl A B hA => ?_) (fun H' l1 s1 hl1 rs => ?_)
      · obtain ⟨hc1, rfl⟩ := in_range hc
        rw [yl.2]
        refine ⟨rfl, lc_yes ⟨_, rfl, _, rfl, _, rfl, rfl, .inr ⟨_, rfl, _, _, rfl, rfl, ?_, _, rfl, _, rfl, rfl, .inr ⟨_, rfl, _, _, rfl, rfl, hA _ _ (fun _ _ h => h) ?_⟩⟩⟩⟩
        · refine wmul hB2 (n := 1) ?_ (by omega) (by omega) (by omega)
          split <;> decide
        · show V.int _ = V.int (El.sideP (amt k q M) k q i)
          unfold El.sideP
          congr 2
          · by_cases e : i = k
            · rw [if_pos e, int_eq (by omega), if_pos rfl]
            · rw [if_neg e, int_ne (by omega), if_neg Bool.false_ne_true]
          · by_cases e : i = q
            · rw [if_pos e, int_eq (by omega), if_pos rfl]
            · rw [if_neg e, int_ne (by omega), if_neg Bool.false_ne_true]
      · refine ⟨D, _, rfl, .inl ⟨SqL.of hl1, fun t ht => ?_⟩⟩
        refine gcall (.inr ⟨c2, q, hq, hqn, hne, hfirst, rfl⟩) (s1.trans (same_new ht _)) ?_
        unfold TV
        rw [← show l1 = (vec n (El.sideP (amt k q M) k q)).map V.int from rs.ints]
        exact SqT.of upd_same
  · refine ⟨_, rfl, _, rfl, a, _, _, _, rfl, rfl, SqL.of ha, at_pos (by omega) (by rw [Int.toNat_natCast]; exact hpv), _, rfl, p, _, _, _, rfl, rfl, SqL.of hpr, atk hk, ?_⟩
    refine ⟨_, _, rfl, rfl, _, rfl, ?_⟩
    by_cases c1 : 0 < M k k
    · exact ifT (decide_eq_true c1) (ifT rfl (q1 (.inl c1)))
    exact ifF (decide_eq_false c1) ⟨_, rfl, rfl, _, rfl, ifT (decide_eq_true rfl) (q1 (.inr ⟨by omega, hz⟩))⟩
end
end P01
namespace P01
open PySem PySem.Spec PyProof.Rows L2 SX EX WK
/-- a list of rows that grows: so far i rows of n numbers -/
structure GT (H0 H : Hp) (a : Addr) (rs : List Addr) (n i : Nat) (f : Nat → Nat → Int) : Prop where
  same : Same H0 H
  at_ : H a = some (.lst (rs.map V.ref))
  len : rs.length = i
  row : ∀ (j : Nat), j < i → ∃ p, rs[j]? = some p ∧ H p = some (.lst ((vec n (f j)).map V.int))
theorem GT.tab {H0 H : Hp} {a : Addr} {rs : List Addr} {n : Nat} {f : Nat → Nat → Int} (h : GT H0 H a rs n n f) : LTab H a n f := ⟨rs, h.at_, h.len, h.row⟩
theorem GT.start {H0 : Hp} {D : Addr} {n : Nat} {f : Nat → Nat → Int} (h : H0 D = none) : GT H0 (upd H0 D (.lst [])) D [] n 0 f := ⟨new_same h _, upd_same, rfl, fun i hi => by omega⟩
theorem GT.snoc {H0 H H' : Hp} {a p : Addr} {rs : List Addr} {n i : Nat} {f : Nat → Nat → Int} (h : GT H0 H a rs n i f) (h0 : H0 a = none) (s : Same H H') (hr : H' p = some (.lst ((vec n (f i)).map V.int))) (hpa : p ≠ a) : GT H0 (upd H' a (.lst (rs.map V.ref ++ [.ref p]))) a (rs ++ [p]) n (i + 1) f := by
  have hra : ∀ r ∈ rs, ∀ x, H r = some (.lst ((vec n x).map V.int)) → r ≠ a := fun r hr' x hx z => by
    rw [z, h.at_] at hx
    cases rs with
    | nil => cases hr'
    | cons b l =>
      have hx := Option.some.inj hx
      injection hx with hx
      have : (vec n x).map V.int ≠ [] := by rw [← hx]; simp
      cases hv : vec n x with
      | nil => rw [hv] at this; exact this rfl
      | cons c m => rw [hv] at hx; simp at hx
  refine ⟨same_at (h.same.trans s) h0, ?_, by rw [List.length_append, h.len]; rfl, fun j hj => ?_⟩
  · rw [upd_same, List.map_append]
    rfl
  · by_cases e : j = i
    · subst e
      refine ⟨p, ?_, ?_⟩
      · rw [List.getElem?_append_right (by rw [h.len]; omega), h.len, Nat.sub_self]
        rfl
      · rw [upd_ne hpa]
        exact hr
    · obtain ⟨q, e1, e2⟩ := h.row j (by omega)
      refine ⟨q, ?_, ?_⟩
      · rw [List.getElem?_append_left (by rw [h.len]; omega)]
        exact e1
      · rw [upd_ne (hra q (List.mem_of_getElem? e1) _ e2)]
        exact s _ _ e2
theorem tyV_of {K : PySem.W.Frag} {H : Hp} {a : Addr} {xs : List V} (h : H a = some (.lst xs)) : tyV K "list" (.ref a) H := .inl ⟨rfl, xs, SqL.of h⟩
section
variable {P : Program} {w : World} {K : PySem.W.Frag} {mg : Str → Option Value} {base : Heap} {f : Addr} {fd : FuncData} {cF cR : Addr}
def spReduced (K : PySem.W.Frag) : Sp := fun vs H Q _ => ∃ (a : Addr) (n k w : Nat) (d : Int) (M : Nat → Nat → Int), vs = [.ref a, .int k, .int d] ∧ LTab H a n M ∧ n ≤ 1000 ∧ k < n ∧ (∀ i j, i < n → j < n → B w (M i j)) ∧ 0 < d ∧ B w d ∧ 0 < w ∧ w ≤ 4000 ∧
  ∀ r H', Same H H' → LTab H' r n (El.redu M k d) → Q (.ref r) H'
abbrev s_reduced : Stmt := top 6
abbrev N_reduced : List Str := ["table", "index", "divisor", "size", "main", "pivot", "lines", "row", "column", "line"]
theorem sc_reduced : FnScope N_reduced ["table", "index", "divisor"] (defScope s_reduced) := ⟨rfl, rfl, rfl, by decide +kernel, rfl, by decide +kernel, by decide +kernel⟩
theorem ok_reduced (F : Fun K "reduced" "reduced" s_reduced f fd) (T : Txt mg) : FnOk P w K mg base CX0 1 f fd ["table", "index", "divisor"] (spReduced K) := by
  refine F.ok sc_reduced (fun vs H Q E h => ?_) (fun cdv A outer s H vs Q E hr h => ?_)
  · obtain ⟨a, n, k, w, d, M, rfl, _⟩ := h
    rfl
  obtain ⟨a, n, k, w, d, M, rfl, ht, hn, hk, hB, hd, hdB, hw, hw4, q⟩ := h
  refine ⟨_, (pss_cons (ps_set (i := 3) sc_reduced.nd rfl (Or.inl rfl) (pe_callB call_len_seq (by rfl) T.b_len PySem.boot_len (pa_cons (pv 0) pa_nil)))
  (pss_cons (ps_set (i := 4) sc_reduced.nd rfl (Or.inl rfl) (pe_ix ix_list (pv 0) (pv 1) (fun _ _ => rfl)))
  (pss_cons (ps_set (i := 5) sc_reduced.nd rfl (Or.inl rfl) (pe_ix ix_list /-?-/ (pv 4) (pv 1) (fun _ _ => rfl)))
  (pss_cons (ps_set (i := 6) sc_reduced.nd rfl (Or.inl rfl) (pe_lst pa_nil))
  (pss_cons (ps_for PassesOwn.never rfl (pi_range1 (by rfl) T.b_range (pa_cons (pv 3) pa_nil)) (pg_name (i := 7) sc_reduced.nd rfl (Or.inl rfl)) (pss_cons (ps_setLc (i := 9) (own := [("column", 8)]) (g := gName 8) (tt := tYes) (by rfl) sc_reduced.nd rfl rfl (sw_true rfl rfl rfl (by decide +kernel)) (pi_range1 (by rfl) T.b_range (pa_cons (pv 3) pa_nil)) (blkOk_by (N := N_reduced) (sc := defScope s_reduced) (by decide +kernel)) (fun _ _ _ _ _ => (pg_name (i := 8) sc_reduced.nd rfl (Or.inl rfl))) (fun _ _ _ _ _ => pts_nil) (fun _ _ _ _ _ => pe_int))
  (C8.pss_cut (ps_if (pt_cmpR op_gt (pv 7) (pv 1) (nomark _)) (pss_one (ps_for PassesOwn.never rfl (pi_range2 (by rfl) T.b_range (pa_cons (pe_op op_add (pv 1) pe_int) (pa_cons (pv 3) pa_nil))) (pg_name (i := 8) sc_reduced.nd rfl (Or.inl rfl)) (pss_one (ps_asg (pe_op op_fdivW (pe_op op_sub (pe_op op_mulW (pv 5) (pe_ix ix_list /-?-/ (pe_ix ix_list (pv 0) (pv 7) (fun _ _ => rfl)) (pv 8) (fun _ _ => rfl))) (pe_op op_mulW (pe_ix ix_list /-?-/ (pv 4) (pv 7) (fun _ _ => rfl)) (pe_ix ix_list /-?-/ (pv 4) (pv 8) (fun _ _ => rfl)))) (pv 2)) (pg_sub (pv 9) (pv 8) set_list))))) pss_nil)
  (pss_one (ps_expr (pe_bm PySem.F.plainAttrs_list PySem.F.slot_list_append PySem.F.type_list_append mt_append (pv 6) (pa_cons (pv 9) pa_nil)))))))
  (pss_one (ps_ret (pv 6)))))))), ?_⟩
  obtain ⟨rs, ha, hl, row⟩ := ht
  have hlen : (rs.map V.ref).length = n := by rw [List.length_map, hl]
  have rowV : ∀ i, i < n → ∃ p, (rs.map V.ref)[i]? = some (V.ref p) ∧ H p = some (.lst ((vec n (M i)).map V.int)) := fun i hi => by
    obtain ⟨p, h1, h2⟩ := row i hi
    exact ⟨p, by rw [List.getElem?_map, h1]; rfl, h2⟩
  obtain ⟨pk, hpk, hpkr⟩ := rowV k hk
  refine ⟨_, rfl, _, _, rfl, .inl (SqL.of ha), ?_⟩
  refine ⟨_, rfl, _, rfl, a, _, _, _, rfl, rfl, SqL.of ha, at_pos (by omega) (by rw [Int.toNat_natCast]; exact hpk), ?_⟩
  refine ⟨_, rfl, _, rfl, pk, _, _, _, rfl, rfl, SqL.of hpkr, at_pos (by omega) (by rw [Int.toNat_natCast]; exact vecV_at hk), ?_⟩
  refine ⟨line_ge (by decide), fun L hL => ?_⟩
  refine ⟨_, rfl, (n : Int), by rw [hlen], by omega, by omega, ?_⟩
  refine for_range (lo := 0) (n := n) (fun i σ H1 => ∃ (v7 v8 v9 : Option V) (ps : List Addr), σ = [some (.ref a), some (.int (k : Int)), some (.int d), some (.int (n : Int)), some (.ref pk), some (.int (M k k)), some (.ref L), v7, v8, v9] ∧ GT H H1 L ps n i (El.redu M k d)) ⟨none, none, none, [], by rw [← hlen]; rfl, GT.start hL⟩ ?_ ?_
  · rintro i σ H1 hi ⟨v7, v8, v9, ps, rfl, g⟩
    have hLk : GT H H1 L ps n i (El.redu M k d) := g
    refine ⟨_, rfl, (n : Int), rfl, by omega, by omega, fun D hD => ?_⟩
    refine lc_m (walk_range (lo := 0) (n := n)) RI (stb_RI (K := K)) (List.range n) (by rw [List.length_range]) (by rw [List.length_range]; omega) hD (fun _ _ => trivial) (fun _ _ _ _ => ys_fn) (fun _ => (0 : Int)) (fun c j v H2 H3 hc s1 s2 yl A B hA => ?_) (fun H2 l1 s1 hl1 rz => ?_)
    · exact ⟨rfl, lc_yes (hA _ _ (fun _ _ h => h) rfl)⟩
    · have hDL : D ≠ L := fun z => by rw [z, g.at_] at hD; cases hD
      have hz : l1 = (vec n fun _ => 0).map V.int := rz.ints
      have hrow0 : ∀ j, El.redu M k d i j = if k < i ∧ k < j then (M k k * M i j - M k i * M k j) / d else 0 := fun j => rfl
      obtain ⟨pi, hpi, hpir⟩ := rowV i hi
      have sH : Same H H2 := g.same.trans s1
      refine ⟨fun σ H3 => ∃ (v8 : Option V) (y : Nat → Int), σ = [some (.ref a), some (.int (k : Int)), some (.int d), some (.int (n : Int)), some (.ref pk), some (.int (M k k)), some (.ref L), some (.int (0 + (i : Int))), v8, some (.ref D)] ∧ Same H1 H3 ∧ H3 D = some (.lst ((vec n y).map V.int)) ∧ ∀ j, j < n → y j = El.redu M k d i j, ?_, ?_⟩
      · refine ⟨_, rfl, _, rfl, _, _, rfl, rfl, _, rfl, ?_⟩
        by_cases c : k < i
        · refine ifT (decide_eq_true (by omega)) ⟨_, rfl, _, _, rfl, rfl, _, rfl, (k : Int) + 1, (n : Int), rfl, ⟨by omega, by omega, by omega, by omega⟩, ?_⟩
          refine for_range (lo := (k : Int) + 1) (n := ((n : Int) - ((k : Int) + 1)).toNat) (fun j σ H3 => ∃ (v8 : Option V) (y : Nat → Int), σ = [some (.ref a), some (.int (k : Int)), some (.int d), some (.int (n : Int)), some (.ref pk), some (.int (M k k)), some (.ref L), some (.int (0 + (i : Int))), v8, some (.ref D)] ∧ Same H1 H3 ∧ H3 D = some (.lst ((vec n y).map V.int)) ∧ (∀ q, q < k + 1 + j → q < n → y q = El.redu M k d i q)) ⟨_, fun _ => 0, rfl, s1, by rw [hl1, hz], fun q hq _ => by rw [hrow0, if_neg (by omega)]⟩ ?_ ?_
          · rintro j σ H3 hj ⟨v8, y, rfl, s3, h3, hy⟩
            have hjn : k + 1 + j < n := by omega
            have ej : ((k : Int) + 1 + (j : Int)).toNat = k + 1 + j := by omega
            have ei : (0 + (i : Int)).toNat = i := by omega
            have sx : Same H H3 := g.same.trans s3
            refine ⟨_, rfl, _, rfl, _, rfl, a, _, _, _, rfl, rfl, SqL.of (sx _ _ ha), at_pos (by omega) (by rw [ei]; exact hpi), _, rfl, pi, _, _, _, rfl, rfl, SqL.of (sx _ _ hpir), at_pos (by omega) (by rw [ej]; exact vecV_at hjn), ?_⟩
            have num : (M k k * M i (k + 1 + j) - M k i * M k (k + 1 + j)) / d = El.redu M k d i (k + 1 + j) := by rw [hrow0, if_pos ⟨c, by omega⟩]
            refine ⟨_, _, rfl, rfl, wmul (hB k k hk hk) (hB i _ hi hjn) hw hw (by omega), _, rfl, _, rfl, pk, _, _, _, rfl, rfl, SqL.of (sx _ _ hpkr), at_pos (by omega) (by rw [ei]; exact vecV_at hi), _, rfl, _, rfl, pk, _, _, _, rfl, rfl, SqL.of (sx _ _ hpkr), at_pos (by omega) (by rw [ej]; exact vecV_at hjn), _, _, rfl, rfl, wmul (hB k i hk hi) (hB k _ hk hjn) hw hw (by omega), _, _, rfl, rfl, _, rfl, _, _, rfl, rfl, wdiv hd hdB hw (by omega), ?_⟩
            refine ⟨_, rfl, _, rfl, D, _, _, k + 1 + j, rfl, rfl, h3, by rw [vec_lenV]; unfold ixN; rw [if_pos (by omega), if_pos (by omega)]; congr 1, ?_⟩
            refine ⟨_, _, rfl, same_at s3 hD, by rw [upd_same, vec_set hjn], fun q hq hqn => ?_⟩
            by_cases e : q = k + 1 + j
            · rw [if_pos e, num, e]
            · rw [if_neg e]
              exact hy q (by omega) hqn
          · rintro σ H3 ⟨v8, y, rfl, s3, h3, hy⟩
            exact ⟨_, y, rfl, s3, h3, fun q hq => hy q (by omega) hq⟩
        · exact ifF (decide_eq_false (by omega)) ⟨_, fun _ => 0, rfl, s1, by rw [hl1, hz], fun q hq => by rw [hrow0, if_neg (by omega)]⟩
      · rintro σ H3 ⟨v8, y, rfl, s3, h3, hy⟩
        have e : (vec n y).map V.int = (vec n (El.redu M k d i)).map V.int := by rw [vec_congr hy]
        rw [e] at h3
        refine ⟨_, rfl, tyV_of (s3 _ _ g.at_), _, rfl, L, _, _, rfl, rfl, s3 _ _ g.at_, ?_, ?_⟩
        · rw [List.length_map, g.len]
          exact Nat.lt_of_lt_of_le (by omega : i < 1001) (line_ge (by decide))
        · exact ⟨_, _, _, ps ++ [D], rfl, g.snoc hL s3 h3 hDL⟩
  · rintro σ H1 ⟨v7, v8, v9, ps, rfl, g⟩
    exact ⟨_, rfl, q _ _ g.same g.tab⟩
end
end P01
namespace P01
open PySem PySem.Spec PyProof.Rows L2 SX EX WK
/-- a pivot: index, row, scale -/
def PvAt (K : PySem.W.Frag) (n : Nat) : Hp → V → El.Pv → Prop := fun H v p => ∃ t r, v = .ref t ∧ SqT K H t [.int (p.1 : Int), .ref r, .int p.2.2] ∧ TV K H r n p.2.1
theorem stb_PvAt {K : PySem.W.Frag} {n : Nat} : Stb K (PvAt K n) := fun _ _ _ _ s ⟨t, r, h1, h2, h3⟩ => ⟨t, r, h1, s _ _ h2, s _ _ h3⟩
/-- numbers outside the table are 0, the table is symmetric -/
structure Whole (n : Nat) (M : Nat → Nat → Int) : Prop where
  sym : ∀ i j, M i j = M j i
  out : ∀ i j, n ≤ j → M i j = 0
theorem run_out {n : Nat} {M : Nat → Nat → Int} (h : Whole n M) {k : Nat} {S : List Nat} {d : Int} {B' : Nat → Nat → Int} {ps : List El.Pv} (r : El.Run M k S d B' ps) : ∀ i j, n ≤ j → B' i j = 0 := by
  induction r with
  | begin => exact h.out
  | skip _ _ ih => exact ih
  | pivot _ _ ih =>
    intro i j hj
    unfold El.redu
    rw [ih _ _ hj, ih _ _ hj, Int.mul_zero, Int.mul_zero, Int.sub_zero, Int.zero_ediv]
    split <;> rfl
theorem run_row {n : Nat} {M : Nat → Nat → Int} (h : Whole n M) {k : Nat} {S : List Nat} {d : Int} {B' : Nat → Nat → Int} {ps : List El.Pv} (r : El.Run M k S d B' ps) (h0 : B' k k = 0) (hz : ∀ p, k < p → p < n → B' k p = 0) : ∀ x, B' k x = 0 := fun x => by
  rcases Nat.lt_trichotomy x k with c | c | c
  · exact (r.inv h.sym).low k x c
  · rw [c]; exact h0
  · by_cases e : x < n
    · exact hz x c e
    · exact run_out h r k x (by omega)
/-- the bounds of the rests -/
theorem run_bound {n w : Nat} {M : Nat → Nat → Int} (h : Whole n M) {b : Int} (hb1 : 1 ≤ b) (hb : ∀ i j, -b ≤ M i j ∧ M i j ≤ b) (hw : B w (El.bnd b n)) {k : Nat} {S : List Nat} {d : Int} {B' : Nat → Nat → Int} {ps : List El.Pv} (r : El.Run M k S d B' ps) (hk : k < n) : (∀ i j, B w (B' i j)) ∧ 0 < d ∧ B w d := by
  have inv := r.inv h.sym
  have m1 := El.bnd_mono hb1 (show k + 1 ≤ n by omega)
  have m2 := El.bnd_mono hb1 (show k ≤ n by omega)
  have hw' : (El.bnd b n).natAbs < 2 ^ w := hw
  refine ⟨fun i j => ?_, inv.dpos, ?_⟩
  · show (B' i j).natAbs < 2 ^ w
    by_cases c : k ≤ i
    · have := r.rbound h.sym b hb1 hb c j
      omega
    · rw [inv.sym, inv.low j i (by omega)]
      show 0 < 2 ^ w
      exact Nat.lt_of_le_of_lt (Nat.zero_le _) hw'
  · have := El.Run.dbound inv r.many b hb1 hb r
    have := inv.dpos
    show d.natAbs < 2 ^ w
    omega
theorem LTab.put {K : PySem.W.Frag} {H : Hp} {L tb : Addr} {n : Nat} {f : Nat → Nat → Int} {pv pv' : List V} {ps : List El.Pv} (h : LTab H tb n f) (hL : H L = some (.lst pv)) (r : Rs (PvAt K n) H pv ps) (hl : pv.length < n) : LTab (upd H L (.lst pv')) tb n f := by
  obtain ⟨rs, h1, h2, h3⟩ := h
  refine ⟨rs, ?_, h2, fun i hi => ?_⟩
  · rw [upd_ne (fun z => ?_)]
    · exact h1
    · rw [z, hL] at h1
      have := HO.lst.inj (Option.some.inj h1)
      rw [this, List.length_map] at hl
      omega
  · obtain ⟨p, e1, e2⟩ := h3 i hi
    refine ⟨p, e1, ?_⟩
    rw [upd_ne (fun z => ?_)]
    · exact e2
    · rw [z, hL] at e2
      have := HO.lst.inj (Option.some.inj e2)
      rw [this, vec_lenV] at hl
      omega
section
variable {P : Program} {w : World} {K : PySem.W.Frag} {mg : Str → Option Value} {base : Heap} {f : Addr} {fd : FuncData} {cF cR : Addr}
/-- what the elimination tells -/
def spElim (K : PySem.W.Frag) : Sp := fun vs H Q _ => ∃ (v : V) (n w : Nat) (b : Int) (M : Nat → Nat → Int), vs = [v] ∧ Fz K H v (tm n M) ∧ n ≤ 1000 ∧ Whole n M ∧ 1 ≤ b ∧ (∀ i j, -b ≤ M i j ∧ M i j ≤ b) ∧ B w (El.bnd b n) ∧ 0 < w ∧ w ≤ 4000 ∧
  (∀ r t pv H' S d B' ps, Same H H' → El.Run M n S d B' ps → SqT K H' r [.ref t, .non] → SqT K H' t pv → Rs (PvAt K n) H' pv ps.reverse → Q (.ref r) H') ∧
  (∀ r t z pv H' k S d B' ps x, Same H H' → k < n → El.Run M k S d B' ps → BadAt n k B' x → SqT K H' r [.ref t, .ref z] → SqT K H' t pv → Rs (PvAt K n) H' pv ps.reverse → TV K H' z n x → Q (.ref r) H')
abbrev s_eliminated : Stmt := top 7
abbrev N_eliminated : List Str := ["entries", "table", "pivots", "divisor", "index", "point", "pivot", "line"]
theorem sc_eliminated : FnScope N_eliminated ["entries"] (defScope s_eliminated) := ⟨rfl, rfl, rfl, by decide +kernel, rfl, by decide +kernel, by decide +kernel⟩
theorem ok_eliminated (F : Fun K "eliminated" "eliminated" s_eliminated f fd) (T : Txt mg) (C_bad_point : Cal P w K mg base 2 "bad_point" ["table", "index"] (spBad K)) (C_reduced : Cal P w K mg base 1 "reduced" ["table", "index", "divisor"] (spReduced K)) : FnOk P w K mg base CX0 3 f fd ["entries"] (spElim K) := by
  refine F.ok sc_eliminated (fun vs H Q E h => ?_) (fun cdv A outer s H vs Q E hr h => ?_)
  · obtain ⟨v, n, w, b, M, rfl, _⟩ := h
    rfl
  obtain ⟨v, n, w, b, M, rfl, hz, hn, hW, hb1, hb, hw, hw0, hw4, q1, q2⟩ := h
  obtain ⟨a, vs, rfl, ha, hl, hrow⟩ := fz_mat hz
  rw [mat_len] at hl
  refine ⟨_, (pss_cons (ps_setLc (i := 1) (own := [("line", 7)]) (g := gName 7) (tt := tYes) (by rfl) sc_eliminated.nd rfl rfl (sw_true rfl rfl rfl (by decide +kernel)) (pi_tup (pv 0)) (blkOk_by (N := N_eliminated) (sc := defScope s_eliminated) (by decide +kernel)) (fun _ _ _ _ _ => (pg_name (i := 7) sc_eliminated.nd rfl (Or.inl rfl))) (fun _ _ _ _ _ => pts_nil) (fun _ _ _ _ _ => (pe_callTy (call_list_ofK (K := K) rfl) (by rfl) T.b_list (by decide +kernel) (pa_cons (pv 7) pa_nil))))
  (pss_cons (ps_set (i := 2) sc_eliminated.nd rfl (Or.inl rfl) (pe_lst pa_nil))
  (pss_cons (ps_set (i := 3) sc_eliminated.nd rfl (Or.inl rfl) pe_int)
  (pss_cons (ps_for PassesOwn.never rfl (pi_range1 (by rfl) T.b_range (pa_cons (pe_callB call_len_seq (by rfl) T.b_len PySem.boot_len (pa_cons (pv 1) pa_nil)) pa_nil)) (pg_name (i := 4) sc_eliminated.nd rfl (Or.inl rfl)) (pss_cons (ps_set (i := 5) sc_eliminated.nd rfl (Or.inl rfl) (pe_cal C_bad_point (hr.mono (by omega)) rfl (pa_cons (pv 1) (pa_cons (pv 4) pa_nil))))
  (pss_cons (ps_if (pt_cmpR op_notN (pv 5) pe_non (nomark _)) (pss_one (ps_ret (pe_tup (pa_cons (pe_callTy call_tuple_of (by rfl) T.b_tuple (by decide +kernel) (pa_cons (pv 2) pa_nil)) (pa_cons (pv 5) pa_nil))))) pss_nil)
  (pss_cons (ps_set (i := 6) sc_eliminated.nd rfl (Or.inl rfl) (pe_ix ix_list /-?-/ (pe_ix ix_list (pv 1) (pv 4) (fun _ _ => rfl)) (pv 4) (fun _ _ => rfl)))
  (pss_one (ps_if (pt_cmpR op_gt (pv 6) pe_int (nomark _)) (pss_cons (ps_expr (pe_bm PySem.F.plainAttrs_list PySem.F.slot_list_append PySem.F.type_list_append mt_append (pv 2) (pa_cons (pe_tup (pa_cons (pv 4) (pa_cons (pe_callTy call_tuple_of (by rfl) T.b_tuple (by decide +kernel) (pa_cons (pe_ix ix_list (pv 1) (pv 4) (fun _ _ => rfl)) pa_nil)) (pa_cons (pe_op op_mulW (pv 3) (pv 6)) pa_nil)))) pa_nil)))
  (pss_cons (ps_set (i := 1) sc_eliminated.nd rfl (Or.inl rfl) (pe_cal C_reduced (hr.mono (by omega)) rfl (pa_cons (pv 1) (pa_cons (pv 4) (pa_cons (pv 3) pa_nil)))))
  (pss_one (ps_set (i := 3) sc_eliminated.nd rfl (Or.inl rfl) (pv 6))))) pss_nil))))))
  (pss_one (ps_ret (pe_tup (pa_cons (pe_callTy call_tuple_of (by rfl) T.b_tuple (by decide +kernel) (pa_cons (pv 2) pa_nil)) (pa_cons pe_non pa_nil))))))))), ?_⟩
  refine ⟨_, rfl, a, rfl, ⟨_, ha⟩, fun D hD => ?_⟩
  refine lc_gm (walk_tup (K := K) (a := a) (xs := vs)) (RL D) stb_RL (List.range n) (by rw [List.length_range]; exact hl) (by rw [List.length_range]; omega) hD (fun H' s => Same_seqT s ha) (fun _ _ _ _ => ys_at) (fun i => vec n (M i)) (fun c i x H1 H2 hc s1 s2 y hdl A B hA => ?_) (fun H' l s1 hl1 rs => ?_)
  · obtain ⟨hc1, rfl⟩ := in_range hc
    obtain ⟨p, h1, h2⟩ := hrow i _ (mat_at hc1)
    have e := y.2
    rw [h1] at e
    cases e
    refine ⟨rfl, lc_yes ⟨_, rfl, p, _, rfl, .inr (Same_seqT s2 h2), fun t ht => ?_⟩⟩
    refine hA _ _ (same_new ht _) ⟨t, rfl, fun z => ?_, upd_same⟩
    obtain ⟨l, hl⟩ := hdl
    rw [z, hl] at ht
    cases ht
  have tab0 : LTab H' D n M := LTab.of hl1 rs
  refine ⟨line_ge (by decide), fun L hL => ?_⟩
  refine ⟨_, rfl, D, l, rfl, .inl (SqL.of (same_new hL _ _ _ hl1)), (n : Int), by rw [rs.1, List.length_map, List.length_range], by omega, by omega, ?_⟩
  refine for_range (lo := 0) (n := n) (fun k σ H1 => ∃ (v4 v5 v6 : Option V) (tb : Addr) (d : Int) (pv : List V) (S : List Nat) (B' : Nat → Nat → Int) (ps : List El.Pv), σ = [some (.ref a), some (.ref tb), some (.ref L), some (.int d), v4, v5, v6, none] ∧ El.Run M k S d B' ps ∧ Same H H1 ∧ H L = none ∧ H1 L = some (.lst pv) ∧ Rs (PvAt K n) H1 pv ps.reverse ∧ LTab H1 tb n B') ⟨none, none, none, D, 1, [], [], M, [], rfl, .begin, s1.trans (same_new hL _), s1.free hL, upd_same, Rs.nil, tab0.same (same_new hL _)⟩ ?_ ?_
  · rintro k σ H1 hk ⟨v4, v5, v6, tb, d, pv, S, B', ps, rfl, run, sH, hL0, hLv, rps, tab⟩
    obtain ⟨hB, hd, hdB⟩ := run_bound hW hb1 hb hw run hk
    refine ⟨_, rfl, _, rfl, tb, n, k, w, B', by rw [Int.zero_add]; rfl, tab, hn, hk, fun i j _ _ => hB i j, hw0, by omega, fun fine => ?_, fun x t H2 hbad s2 htv => ?_⟩
    · refine ⟨_, rfl, rfl, _, rfl, ifF (by rw [decide_eq_true rfl]; rfl) ?_⟩
      have tab' := tab
      obtain ⟨rs2, h1, h2, h3⟩ := tab'
      obtain ⟨p, hp, hpr⟩ := h3 k hk
      have hpv : (rs2.map V.ref)[k]? = some (V.ref p) := by rw [List.getElem?_map, hp]; rfl
      have e0 : (0 + (k : Int)).toNat = k := by omega
      refine ⟨_, rfl, _, rfl, tb, _, _, _, rfl, rfl, SqL.of h1, at_pos (by omega) (by rw [e0]; exact hpv), _, rfl, p, _, _, _, rfl, rfl, SqL.of hpr, at_pos (by omega) (by rw [e0]; exact vecV_at hk), ?_⟩
      refine ⟨_, rfl, _, _, rfl, rfl, _, rfl, ?_⟩
      have hpl : pv.length < n := by
        have m := run.many
        have l := run.leads
        have := rps.1
        rw [List.length_reverse, ← List.length_map (as := ps) (f := (·.1)), l] at this
        omega
      by_cases c : 0 < B' k k
      · refine ifT (decide_eq_true c) ?_
        refine ⟨_, rfl, tyV_of hLv, _, rfl, _, rfl, _, rfl, tb, _, _, _, rfl, rfl, SqL.of h1, at_pos (by omega) (by rw [e0]; exact hpv), p, _, rfl, .inl ⟨SqL.of hpr, fun u hu => ⟨_, rfl, _, rfl, _, _, rfl, rfl, wmul hdB (hB k k) hw0 hw0 (by omega), three_line, fun z hz => ?_⟩⟩⟩
        have s3 := (same_new hu (.tup ((vec n (B' k)).map V.int))).trans (same_new hz (.tup [.int (0 + (k : Int)), .ref u, .int (d * B' k k)]))
        refine ⟨L, pv, _, rfl, rfl, s3 _ _ hLv, Nat.lt_of_lt_of_le hpl (line_ge (by omega)), ?_⟩
        have tk3 : Tk K H1 (upd (upd H1 u (.tup ((vec n (B' k)).map V.int))) z (.tup [.int (0 + (k : Int)), .ref u, .int (d * B' k k)])) := fun _ _ h => Same_seqT s3 h
        have tab3 := (tab.same s3).put (K := K) (pv' := pv ++ [.ref z]) (s3 _ _ hLv) (rps.tk stb_PvAt tk3) hpl
        refine ⟨_, rfl, _, rfl, _, rfl, tb, n, k, w, d, B', by rw [Int.zero_add]; rfl, tab3, hn, hk, fun i j _ _ => hB i j, hd, hdB, hw0, hw4, fun r H3 s4 hr => ?_⟩
        have sz : SqT K (upd (upd H1 u (.tup ((vec n (B' k)).map V.int))) z (.tup [.int (0 + (k : Int)), .ref u, .int (d * B' k k)])) z [.int (k : Int), .ref u, .int (d * B' k k)] := by
          have el : V.int (0 + (k : Int)) = V.int (k : Int) := by rw [Int.zero_add]
          exact Eq.mp (congrArg (fun x => SqT K (upd (upd H1 u (.tup ((vec n (B' k)).map V.int))) z (.tup [.int (0 + (k : Int)), .ref u, .int (d * B' k k)])) z [x, .ref u, .int (d * B' k k)]) el) (SqT.of upd_same)
        have su : SqT K (upd (upd H1 u (.tup ((vec n (B' k)).map V.int))) z (.tup [.int (0 + (k : Int)), .ref u, .int (d * B' k k)])) u ((vec n (B' k)).map V.int) := Same_seqT (same_new hz _) (SqT.of upd_same)
        have r3 : Rs (PvAt K n) (upd (upd H1 u (.tup ((vec n (B' k)).map V.int))) z (.tup [.int (0 + (k : Int)), .ref u, .int (d * B' k k)])) (pv ++ [.ref z]) (((k, B' k, d * B' k k) :: ps).reverse) := by
          rw [List.reverse_cons]
          exact (rps.tk stb_PvAt tk3).snoc ⟨z, u, rfl, sz, su⟩
        have tk4 := tk_lst (K := K) (s3 _ _ hLv) (H' := upd (upd (upd H1 u (.tup ((vec n (B' k)).map V.int))) z (.tup [.int (0 + (k : Int)), .ref u, .int (d * B' k k)])) L (.lst (pv ++ [.ref z]))) (fun b o hb e => by rw [upd_ne hb]; exact e)
        have tk5 : Tk K (upd (upd (upd H1 u (.tup ((vec n (B' k)).map V.int))) z (.tup [.int (0 + (k : Int)), .ref u, .int (d * B' k k)])) L (.lst (pv ++ [.ref z]))) H3 := fun _ _ h => Same_seqT s4 h
        exact ⟨_, rfl, _, _, _, r, B' k k, pv ++ [.ref z], k :: S, El.redu B' k d, (k, B' k, d * B' k k) :: ps, rfl, run.pivot c, (same_at (sH.trans s3) hL0).trans s4, hL0, s4 _ _ upd_same, (r3.tk stb_PvAt tk4).tk stb_PvAt tk5, hr⟩
      · refine ifF (decide_eq_false c) ?_
        have h0 : B' k k = 0 ∧ ∀ p, k < p → p < n → B' k p = 0 := by
          rcases fine with g | g
          · exact absurd g c
          · exact g
        exact ⟨_, _, _, tb, d, pv, S, B', ps, rfl, run.skip (run_row hW run h0.1 h0.2), sH, hL0, hLv, rps, tab⟩
    · refine ⟨_, rfl, rfl, _, rfl, ifT (by rw [decide_eq_false (fun e => by cases e)]; rfl) ?_⟩
      refine ⟨_, rfl, L, pv, rfl, .inl ⟨SqL.of (s2 _ _ hLv), fun t2 ht2 => ⟨_, rfl, two_line, fun r hr => ?_⟩⟩⟩
      have s3 := (s2.trans (same_new ht2 (.tup pv))).trans (same_new hr (.tup [.ref t2, .ref t]))
      exact q2 r t2 t pv _ k S d B' ps x (sH.trans s3) hk run hbad (SqT.of upd_same) (Same_seqT (same_new hr _) (SqT.of upd_same)) (rps.tk stb_PvAt fun _ _ h => Same_seqT s3 h) (Same_seqT ((same_new ht2 _).trans (same_new hr _)) htv)
  · rintro σ H1 ⟨v4, v5, v6, tb, d, pv, S, B', ps, rfl, run, sH, hL0, hLv, rps, tab⟩
    refine ⟨_, rfl, L, pv, rfl, .inl ⟨SqL.of hLv, fun t ht => ⟨two_line, fun r hr => ?_⟩⟩⟩
    have s3 := (same_new ht (.tup pv)).trans (same_new hr (.tup [.ref t, .non]))
    exact q1 r t pv _ S d B' ps (sH.trans s3) run (SqT.of upd_same) (Same_seqT (same_new hr _) (SqT.of upd_same)) (rps.tk stb_PvAt fun _ _ h => Same_seqT s3 h)
end
end P01
namespace P01
open PySem PySem.Spec PyProof.Rows L2 SX EX WK
/-- a point behind some pivots -/
def seti (n : Nat) (ps : List El.Pv) (x : El.Row) : El.Row := ps.foldl (fun x p => El.sett1 n p.1 p.2.1 x) x
theorem seti_setl {n : Nat} : ∀ {ps : List El.Pv} {x : El.Row}, El.setl n ps x = seti n ps x
  | [], _ => rfl
  | p :: ps, x => by
    show El.setl n ps (El.sett1 n p.1 p.2.1 x) = _
    rw [seti_setl]
    rfl
theorem seti_snoc {n : Nat} {ps : List El.Pv} {i : Nat} {p : El.Pv} {x : El.Row} (h : ps[i]? = some p) : seti n (ps.take (i + 1)) x = El.sett1 n p.1 p.2.1 (seti n (ps.take i) x) := by
  unfold seti
  rw [take_one h, List.foldl_append]
  rfl
/-- the settled point -/
def setd (n : Nat) (ps : List El.Pv) (x : El.Row) : El.Row := fun i => seti n ps x i / gf 0 (vec n (seti n ps x))
theorem gf_nn {b : Int} (h : 0 ≤ b) : ∀ (ns : List Int), 0 ≤ gf b ns := fun ns => by
  unfold gf
  induction ns generalizing b with
  | nil => exact h
  | cons a l ih => exact ih (Int.natCast_nonneg _)
theorem gf_nz {ns : List Int} {m : Int} (hm : m ∈ ns) (h0 : m ≠ 0) : 0 < gf 0 ns ∧ gf 0 ns ≤ (m.natAbs : Int) := by
  have h := (gf_dvd (b := 0) ns).2 m hm
  have h1 : gf 0 ns ≠ 0 := fun e => by
    rw [e] at h
    exact h0 (Int.zero_dvd.mp h)
  have h2 := gf_nn (b := 0) (by decide) ns
  refine ⟨by omega, ?_⟩
  have := Nat.le_of_dvd (by omega) (Int.natAbs_dvd_natAbs.mpr h)
  omega
theorem ten_bound {n a b : Nat} {v : Int} (hn : n ≤ 10) (ha : 0 < a) (hb : 0 < b) (h : -((n : Int) * (a : Int) * (b : Int)) ≤ v ∧ v ≤ (n : Int) * (a : Int) * (b : Int)) : v.natAbs < 2 ^ 10 * (a * b) := by
  have e : (n : Int) * (a : Int) * (b : Int) = ((n * (a * b) : Nat) : Int) := by
    rw [Int.mul_assoc, Int.natCast_mul, Int.natCast_mul]
  rw [e] at h
  have h1 : n * (a * b) ≤ 10 * (a * b) := Nat.mul_le_mul_right _ hn
  have h2 : 0 < a * b := Nat.mul_pos ha hb
  have h3 : (2 : Nat) ^ 10 = 1024 := by decide
  rw [h3]
  omega
theorem rest_S {n k : Nat} {row x : El.Row} : El.rest n k row x = S (n - (k + 1)) fun j => row (k + 1 + j) * x (k + 1 + j) := by
  unfold El.rest
  induction n with
  | zero =>
    rw [show 0 - (k + 1) = 0 by omega]
    rfl
  | succ n ih =>
    show El.sm n _ + (if k < n then row n * x n else 0) = _
    by_cases c : k < n
    · rw [if_pos c, ih, show n + 1 - (k + 1) = (n - (k + 1)) + 1 by omega, S_succ, show k + 1 + (n - (k + 1)) = n by omega]
    · rw [if_neg c, ih, show n + 1 - (k + 1) = 0 by omega, show n - (k + 1) = 0 by omega, Int.add_zero]
section
variable {P : Program} {w : World} {K : PySem.W.Frag} {mg : Str → Option Value} {base : Heap} {f : Addr} {fd : FuncData} {cF cR : Addr}
def spSettled (K : PySem.W.Frag) : Sp := fun vs H Q _ => ∃ (t z : Addr) (n w : Nat) (pv : List V) (ps : List El.Pv) (x : El.Row), vs = [.ref t, .ref z] ∧ SqT K H t pv ∧ Rs (PvAt K n) H pv ps.reverse ∧ TV K H z n x ∧ n ≤ 10 ∧ ps.length ≤ 10 ∧
  (∀ p ∈ ps, p.1 < n ∧ 0 < p.2.1 p.1 ∧ ∀ j, B w (p.2.1 j)) ∧ (∀ i, B w (x i)) ∧ 0 < w ∧ w ≤ 4000 ∧ (∃ i, i < n ∧ seti n ps x i ≠ 0 ∧ B 9000 (seti n ps x i)) ∧ ∀ r H', Same H H' → TV K H' r n (setd n ps x) → Q (.ref r) H'
abbrev s_settled : Stmt := top 8
abbrev N_settled : List Str := ["pivots", "point", "numbers", "index", "row", "_", "rest", "shared", "factor", "number", "place"]
theorem sc_settled : FnScope N_settled ["pivots", "point"] (defScope s_settled) := ⟨rfl, rfl, rfl, by decide +kernel, rfl, by decide +kernel, by decide +kernel⟩
theorem ok_settled (F : Fun K "settled" "settled" s_settled f fd) (T : Txt mg) : FnOk P w K mg base CX0 1 f fd ["pivots", "point"] (spSettled K) := by
  refine F.ok sc_settled (fun vs H Q E h => ?_) (fun cdv A outer s H vs Q E hr h => ?_)
  · obtain ⟨t, z, n, w, us, ps, x, rfl, _⟩ := h
    rfl
  obtain ⟨t, z, n, w, us, ps, x, rfl, ht, rps, hx, hn, hps, hp, hxB, hw0, hw4, ⟨i0, hi0, hne, h9⟩, q⟩ := h
  refine ⟨_, (pss_cons (ps_set (i := 2) sc_settled.nd rfl (Or.inr rfl) (pe_callTy call_list_of (by rfl) T.b_list (by decide +kernel) (pa_cons (pv 1) pa_nil)))
  (pss_cons (ps_for PassesOwn.never rfl (RT.pi_revA rfl T.b_reversed (pv 0)) (pg_tup rfl (pgs_cons (pg_name (i := 3) sc_settled.nd rfl (Or.inl rfl)) (pgs_cons (pg_name (i := 4) sc_settled.nd rfl (Or.inr rfl)) (pgs_cons (pg_name (i := 5) sc_settled.nd rfl (Or.inl rfl)) pgs_nil)))) (pss_cons (ps_set (i := 6) sc_settled.nd rfl (Or.inl rfl) (pe_callB (cr_sum rfl) (by rfl) T.b_sum (by decide +kernel) (pa_cons (pe_lc (own := [("place", 10)]) (g := gName 10) (tt := tYes) (by rfl) sc_settled.nd (pi_range2 (by rfl) T.b_range (pa_cons (pe_op op_add (pv 3) pe_int) (pa_cons (pe_callB call_len_seq (by rfl) T.b_len PySem.boot_len (pa_cons (pv 2) pa_nil)) pa_nil))) (blkOk_by (N := N_settled) (sc := defScope s_settled) (by decide +kernel)) (fun _ _ _ _ _ => (pg_name (i := 10) sc_settled.nd rfl (Or.inl rfl))) (fun _ _ _ _ _ => pts_nil) (fun _ _ _ _ _ => (pe_op op_mulW (pe_ix (ix_tupK (K := K) rfl) (pv 4) (pv 10) (fun _ _ => rfl)) (pe_ix (ix_listK (K := K) rfl) (pv 2) (pv 10) (fun _ _ => rfl))))) pa_nil)))
  (pss_cons (ps_set (i := 7) sc_settled.nd rfl (Or.inr rfl) (pe_callBfun cr_gcd rfl T.g_gcd (pa_cons (pv 6) (pa_cons (pe_ix ix_tup (pv 4) (pv 3) (fun _ _ => rfl)) pa_nil))))
  (pss_cons (ps_set (i := 8) sc_settled.nd rfl (Or.inr rfl) (pe_op op_fdivW (pe_ix ix_tup (pv 4) (pv 3) (fun _ _ => rfl)) (pv 7)))
  (pss_cons (ps_set (i := 2) sc_settled.nd rfl (Or.inr rfl) (pe_lc (own := [("number", 9)]) (g := gName 9) (tt := tYes) (by rfl) sc_settled.nd (pi_list (pv 2)) (blkOk_by (N := N_settled) (sc := defScope s_settled) (by decide +kernel)) (fun _ _ _ _ _ => (pg_name (i := 9) sc_settled.nd rfl (Or.inl rfl))) (fun _ _ _ _ _ => pts_nil) (fun _ _ _ _ _ => (pe_op op_mulW (pv 8) (pv 9)))))
  (pss_one (ps_asg (pe_op op_fdivW (pe_un un_neg (pv 6)) (pv 7)) (pg_sub (pv 2) (pv 3) set_list))))))))
  (pss_cons (ps_set (i := 7) sc_settled.nd rfl (Or.inr rfl) pe_int)
  (pss_cons (ps_for PassesOwn.never rfl (pi_list (pv 2)) (pg_name (i := 9) sc_settled.nd rfl (Or.inl rfl)) (pss_one (ps_set (i := 7) sc_settled.nd rfl (Or.inr rfl) (pe_callBfun cr_gcd rfl T.g_gcd (pa_cons (pv 7) (pa_cons (pv 9) pa_nil))))))
  (pss_one (ps_ret (pe_callTy call_tuple_of (by rfl) T.b_tuple (by decide +kernel) (pa_cons (pe_lc (own := [("number", 9)]) (g := gName 9) (tt := tYes) (by rfl) sc_settled.nd (pi_list (pv 2)) (blkOk_by (N := N_settled) (sc := defScope s_settled) (by decide +kernel)) (fun _ _ _ _ _ => (pg_name (i := 9) sc_settled.nd rfl (Or.inl rfl))) (fun _ _ _ _ _ => pts_nil) (fun _ _ _ _ _ => (pe_op op_fdivW (pv 9) (pv 7)))) pa_nil)))))))), ?_⟩
  refine ⟨_, rfl, z, _, rfl, .inr hx, fun N hN => ?_⟩
  have hlen : us.length = ps.length := by rw [rps.1, List.length_reverse]
  refine ⟨_, rfl, t, us, rfl, .inr ⟨Same_seqT (same_new hN _) ht, RT.for_ItvT (fun i σ H1 => ∃ (N : Addr) (v3 v4 v5 v6 v7 v8 v9 : Option V), σ = [some (.ref t), some (.ref z), some (.ref N), v3, v4, v5, v6, v7, v8, v9, none] ∧ Same H H1 ∧ H1 N = some (.lst ((vec n (seti n (ps.take i) x)).map V.int)) ∧ ∀ j, B (w + i * (w + 10)) (seti n (ps.take i) x j)) ⟨N, none, none, none, none, none, none, none, rfl, same_new hN _, upd_same, fun j => by rw [Nat.zero_mul, Nat.add_zero]; exact hxB j⟩ (fun i σ H1 ⟨N, v3, v4, v5, v6, v7, v8, v9, e, s, _⟩ => Same_seqT s ht) ?_ ?_⟩⟩
  · rintro i v σ H1 hi hv ⟨N, v3, v4, v5, v6, v7, v8, v9, rfl, sH, hNv, hyB⟩
    have hi' : i < ps.length := by omega
    have hrev : ps.reverse[us.length - 1 - i]? = some ps[i] := by
      rw [hlen, List.getElem?_reverse (by omega), show ps.length - 1 - (ps.length - 1 - i) = i by omega, List.getElem?_eq_getElem hi']
    obtain ⟨tp, r, rfl, htp, hr2⟩ := rps.2 _ _ _ hv hrev
    obtain ⟨hk, hpos, hrB⟩ := hp _ (List.getElem_mem hi')
    have hsn := seti_snoc (n := n) (x := x) (List.getElem?_eq_getElem hi')
    generalize ps[i] = p at *
    obtain ⟨k, row, sc⟩ := p
    generalize seti n (ps.take i) x = y at *
    have hexp : w + (w + i * (w + 10)) ≤ 1000000 := by
      have : i * (w + 10) ≤ 10 * 4010 := Nat.mul_le_mul (by omega) (by omega)
      omega
    have hr3 : SqT K H1 r ((vec n row).map V.int) := Same_seqT sH hr2
    refine ⟨tp, _, rfl, Same_seqT sH htp, rfl, _, _, rfl, _, _, rfl, _, _, rfl, rfl, ?_⟩
    refine ⟨_, rfl, _, _, rfl, rfl, _, rfl, _, _, rfl, .inl (SqL.of hNv), (k : Int) + 1, (n : Int), by rw [vec_lenV], ⟨by omega, by omega, by omega, by omega⟩, fun D hD => ?_⟩
    refine lc_m (walk_range (lo := (k : Int) + 1) (n := ((n : Int) - ((k : Int) + 1)).toNat)) RI (stb_RI (K := K)) (List.range (n - (k + 1))) (by rw [List.length_range]; omega) (by rw [List.length_range]; omega) hD (fun _ _ => trivial) (fun _ _ _ _ => ys_fn) (fun j => row (k + 1 + j) * y (k + 1 + j)) (fun c j v H2 H3 hc s1 s2 yl A B hA => ?_) (fun H2 l1 s1 hl1 rz => ?_)
    · obtain ⟨hc1, rfl⟩ := in_range hc
      rw [yl.2]
      have ec : ((k : Int) + 1 + (j : Int)).toNat = k + 1 + j := by omega
      refine ⟨rfl, lc_yes ⟨_, rfl, _, rfl, r, _, _, _, rfl, rfl, Same_seqT s2 hr3, at_pos (by omega) (by rw [ec]; exact vecV_at (by omega)), _, rfl, _, rfl, N, _, _, _, rfl, rfl, SqL.of (s2 _ _ hNv), at_pos (by omega) (by rw [ec]; exact vecV_at (by omega)), _, _, rfl, rfl, wmul (hrB _) (hyB _) hw0 (by omega) ?_, hA _ _ (fun _ _ h => h) rfl⟩⟩
      exact hexp
    · have hs : ((List.range (n - (k + 1))).map fun j => row (k + 1 + j) * y (k + 1 + j)).sum = El.rest n k row y := rest_S.symm
      have hl1' : H2 D = some (.lst (((List.range (n - (k + 1))).map fun j => row (k + 1 + j) * y (k + 1 + j)).map V.int)) := by rw [hl1, rz.ints]
      refine ⟨D, _, rfl, SqL.of hl1', ?_⟩
      rw [hs]
      have hr4 : SqT K H2 r ((vec n row).map V.int) := Same_seqT s1 hr3
      have hkk : atI ((vec n row).map V.int) (k : Int) = some (.int (row k)) := at_pos (by omega) (by rw [Int.toNat_natCast]; exact vecV_at hk)
      have hg0 : (0 : Int) < ((Nat.gcd (El.rest n k row y).natAbs (row k).natAbs : Nat) : Int) := by
        have : 0 < Nat.gcd (El.rest n k row y).natAbs (row k).natAbs := Nat.gcd_pos_of_pos_right _ (by have := hpos; simp only at this; omega)
        omega
      have hgB : B w ((Nat.gcd (El.rest n k row y).natAbs (row k).natAbs : Nat) : Int) := by
        have h1 : Nat.gcd (El.rest n k row y).natAbs (row k).natAbs ≤ (row k).natAbs := Nat.le_of_dvd (by have := hpos; simp only at this; omega) (Nat.gcd_dvd_right _ _)
        have h2 : (row k).natAbs < 2 ^ w := hrB k
        show Int.natAbs _ < 2 ^ w
        rw [Int.natAbs_natCast]
        omega
      refine ⟨_, rfl, _, rfl, _, rfl, r, _, _, _, rfl, rfl, hr4, hkk, _, _, rfl, ?_⟩
      refine ⟨_, rfl, _, rfl, r, _, _, _, rfl, rfl, hr4, hkk, _, rfl, _, _, rfl, rfl, wdiv hg0 hgB hw0 (by omega), ?_⟩
      refine ⟨_, rfl, N, rfl, ⟨_, SqL.of (s1 _ _ hNv)⟩, fun D2 hD2 => ?_⟩
      generalize hgg : ((Nat.gcd (El.rest n k row y).natAbs (row k).natAbs : Nat) : Int) = g at *
      refine lc_m (walk_list (K := K) (a := N) (xs := (vec n y).map V.int)) RI (stb_RI (K := K)) (List.range n) (by rw [vec_lenV, List.length_range]) (by rw [List.length_range]; omega) hD2 (fun H' s => s.seq (SqL.of (s1 _ _ hNv))) (fun _ _ _ _ => ys_at) (fun j => row k / g * y j) (fun c j v H3 H4 hc s3 s4 yl A B hA => ?_) (fun H3 l3 s3 hl3 rz3 => ?_)
      · obtain ⟨hc1, rfl⟩ := in_range hc
        have e := yl.2
        rw [vecV_at hc1] at e
        cases e
        exact ⟨rfl, lc_yes ⟨_, rfl, _, rfl, _, _, rfl, rfl, wmul (P01.B.div hg0 (hrB k)) (hyB _) hw0 (by omega) hexp, hA _ _ (fun _ _ h => h) rfl⟩⟩
      · have hl3' : H3 D2 = some (.lst ((vec n fun j => row k / g * y j).map V.int)) := by rw [hl3, rz3.ints]; rfl
        refine ⟨_, rfl, _, rfl, _, rfl, _, _, rfl, rfl, wdiv hg0 hgB hw0 (by omega), _, rfl, _, rfl, D2, _, _, k, rfl, rfl, hl3', by rw [vec_lenV]; unfold ixN; rw [if_pos (by omega), if_pos (by omega)]; congr 1, ?_⟩
        have sN : Same H (upd H3 D2 (.lst (((vec n fun j => row k / g * y j).map V.int).set k (.int (-El.rest n k row y / g))))) := same_at (sH.trans (s1.trans s3)) ((sH.trans s1).free hD2)
        refine ⟨D2, _, _, _, _, _, _, _, rfl, sN, ?_, fun j => ?_⟩
        · rw [upd_same, vec_set hk, hsn]
          congr 3
          refine vec_congr fun b _ => ?_
          show _ = El.sett1 n k row y b
          unfold El.sett1
          rw [show (Int.gcd (El.rest n k row y) (row k) : Int) = g from hgg]
        · rw [hsn]
          have hb := El.sett1_bound (n := n) (k := k) row y (R := 2 ^ w) (X := 2 ^ (w + i * (w + 10))) hk hpos (fun j => by
            have h : (row j).natAbs < 2 ^ w := hrB j
            have : (((2 : Nat) ^ w : Nat) : Int) = (2 : Int) ^ w := by norm_cast
            omega) (fun j => by
            have h : (y j).natAbs < 2 ^ (w + i * (w + 10)) := hyB j
            have : (((2 : Nat) ^ (w + i * (w + 10)) : Nat) : Int) = (2 : Int) ^ (w + i * (w + 10)) := by norm_cast
            omega) j
          have hR : (((2 : Nat) ^ w : Nat) : Int) = (2 : Int) ^ w := by norm_cast
          have hX : (((2 : Nat) ^ (w + i * (w + 10)) : Nat) : Int) = (2 : Int) ^ (w + i * (w + 10)) := by norm_cast
          rw [← hR, ← hX] at hb
          show (El.sett1 n k row y j).natAbs < 2 ^ (w + (i + 1) * (w + 10))
          have e1 : w + (i + 1) * (w + 10) = 10 + (w + (w + i * (w + 10))) := by
            rw [Nat.add_mul]
            omega
          rw [e1, Nat.pow_add, Nat.pow_add 2 w]
          exact ten_bound hn (Nat.two_pow_pos _) (Nat.two_pow_pos _) hb
  · rintro σ H1 ⟨N, v3, v4, v5, v6, v7, v8, v9, rfl, sH, hNv, hyB⟩
    rw [hlen, List.take_length] at hNv
    obtain ⟨y, hy⟩ : ∃ y, y = seti n ps x := ⟨_, rfl⟩
    have hd : setd n ps x = fun i => y i / gf 0 (vec n y) := by rw [hy]; rfl
    rw [← hy] at hNv hne h9
    have hm : y i0 ∈ vec n y := List.mem_map.mpr ⟨i0, List.mem_range.mpr hi0, rfl⟩
    obtain ⟨hg, hgle⟩ := gf_nz hm hne
    have hgB : B 9000 (gf 0 (vec n y)) := by
      have h : (y i0).natAbs < 2 ^ 9000 := h9
      show Int.natAbs _ < 2 ^ 9000
      generalize 2 ^ 9000 = b at *
      omega
    refine ⟨_, rfl, N, rfl, ⟨_, SqL.of hNv⟩, for_list (K := K) (a := N) (xs := (vec n y).map V.int) (fun i σ H' => ∃ v9 : Option V, σ = [some (.ref t), some (.ref z), some (.ref N), v3, v4, v5, v6, some (.int (gf 0 ((vec n y).take i))), v8, v9, none] ∧ H' = H1) ⟨v9, rfl, rfl⟩ (fun i σ H' _ ⟨_, _, e⟩ => by rw [e]; exact SqL.of hNv) ?_ ?_⟩
    · rintro i v σ H' hi ⟨v9, rfl, rfl⟩
      obtain ⟨m, hmi, rfl⟩ := ints_at hi
      refine ⟨_, rfl, _, rfl, _, _, rfl, some (V.int m), ?_, rfl⟩
      rw [take_one hmi, gf_snoc]
      rfl
    · rintro σ H' ⟨v9, rfl, rfl⟩
      rw [List.length_map, List.take_length]
      refine ⟨_, rfl, N, rfl, ⟨_, SqL.of hNv⟩, fun D hD => ?_⟩
      refine lc_m (walk_list (K := K) (a := N) (xs := (vec n y).map V.int)) RI (stb_RI (K := K)) (List.range n) (by rw [vec_lenV, List.length_range]) (by rw [List.length_range]; omega) hD (fun H' s => s.seq (SqL.of hNv)) (fun _ _ _ _ => ys_at) (fun j => y j / gf 0 (vec n y)) (fun c j v H3 H4 hc s3 s4 yl A B hA => ?_) (fun H2 l1 s1 hl1 rz => ?_)
      · obtain ⟨hc1, rfl⟩ := in_range hc
        have e := yl.2
        rw [vecV_at hc1] at e
        cases e
        exact ⟨rfl, lc_yes ⟨_, rfl, _, rfl, _, _, rfl, rfl, wdiv hg hgB (by decide) (by decide), hA _ _ (fun _ _ h => h) rfl⟩⟩
      · refine ⟨D, l1, rfl, .inl ⟨SqL.of hl1, fun u hu => ?_⟩⟩
        refine q u _ (sH.trans (s1.trans (same_new hu _))) ?_
        unfold TV
        rw [hd, ← show l1 = (vec n fun i => y i / gf 0 (vec n y)).map V.int from rz.ints]
        exact SqT.of upd_same
end
end P01
namespace P01
open PySem PySem.Spec PyProof.Rows L2 SX EX WK
/-- a told square: top, bottom, row -/
abbrev Sq3 := Int × Int × El.Row
def Told (K : PySem.W.Frag) (n : Nat) : Hp → V → Sq3 → Prop := fun H v q => ∃ t u, v = .ref t ∧ SqT K H t [.int q.1, .int q.2.1, .ref u] ∧ TV K H u n q.2.2
theorem stb_Told {K : PySem.W.Frag} {n : Nat} : Stb K (Told K n) := fun _ _ _ _ s ⟨t, u, h1, h2, h3⟩ => ⟨t, u, h1, s _ _ h2, s _ _ h3⟩
/-- the square of a pivot of a form over b -/
def ech (n : Nat) (b : Int) (p : El.Pv) : Sq3 :=
  (gf 0 (vec n p.2.1) * gf 0 (vec n p.2.1) / gI (gf 0 (vec n p.2.1) * gf 0 (vec n p.2.1)) (p.2.2 * b), p.2.2 * b / gI (gf 0 (vec n p.2.1) * gf 0 (vec n p.2.1)) (p.2.2 * b), fun i => p.2.1 i / gf 0 (vec n p.2.1))
section
variable {P : Program} {w : World} {K : PySem.W.Frag} {mg : Str → Option Value} {base : Heap} {f : Addr} {fd : FuncData} {cF cR : Addr}
def spEch (K : PySem.W.Frag) : Sp := fun vs H Q _ => ∃ (v : V) (n w : Nat) (b : Int) (p : El.Pv), vs = [v, .int b] ∧ PvAt K n H v p ∧ n ≤ 10 ∧ p.1 < n ∧ p.2.1 p.1 ≠ 0 ∧ (∀ j, B w (p.2.1 j)) ∧ 0 < w ∧ w ≤ 4000 ∧ 0 < p.2.2 ∧ B 4000 p.2.2 ∧ 0 < b ∧ B 4000 b ∧ ∀ r H', Same H H' → Told K n H' r (ech n b p) → Q r H'
abbrev s_echelon_square : Stmt := top 32
abbrev N_echelon_square : List Str := ["pivot", "bottom", "row", "scale", "shared", "number", "top", "divisor"]
theorem sc_echelon_square : FnScope N_echelon_square ["pivot", "bottom"] (defScope s_echelon_square) := ⟨rfl, rfl, rfl, by decide +kernel, rfl, by decide +kernel, by decide +kernel⟩
theorem ok_echelon_square (F : Fun K "echelon_square" "echelon_square" s_echelon_square f fd) (T : Txt mg) (C_fraction : Cal P w K mg base 1 "fraction" ["top", "bottom"] spFraction) : FnOk P w K mg base CX0 2 f fd ["pivot", "bottom"] (spEch K) := by
  refine F.ok sc_echelon_square (fun vs H Q E h => ?_) (fun cdv A outer s H vs Q E hr h => ?_)
  · obtain ⟨v, n, w, b, p, rfl, _⟩ := h
    rfl
  obtain ⟨v, n, w, b, ⟨k, row, sc⟩, rfl, ⟨t, r, rfl, ht, hr2⟩, hn, hk, hne, hB, hw0, hw4, hs, hsB, hb, hbB, q⟩ := h
  refine ⟨_, (pss_cons (ps_asg (pe_slice sl_tup (pv 0) (po_some pe_int) po_none) (pg_tup rfl (pgs_cons (pg_name (i := 2) sc_echelon_square.nd rfl (Or.inl rfl)) (pgs_cons (pg_name (i := 3) sc_echelon_square.nd rfl (Or.inl rfl)) pgs_nil))))
  (pss_cons (ps_set (i := 4) sc_echelon_square.nd rfl (Or.inr rfl) pe_int)
  (pss_cons (ps_for PassesOwn.never rfl (pi_tup (pv 2)) (pg_name (i := 5) sc_echelon_square.nd rfl (Or.inl rfl)) (pss_one (ps_set (i := 4) sc_echelon_square.nd rfl (Or.inr rfl) (pe_callBfun cr_gcd rfl T.g_gcd (pa_cons (pv 4) (pa_cons (pv 5) pa_nil))))))
  (pss_cons (ps_asg (pe_cal C_fraction (hr.mono (by omega)) rfl (pa_cons (pe_op op_mulW (pv 4) (pv 4)) (pa_cons (pe_op op_mulW (pv 3) (pv 1)) pa_nil))) (pg_tup rfl (pgs_cons (pg_name (i := 6) sc_echelon_square.nd rfl (Or.inl rfl)) (pgs_cons (pg_name (i := 7) sc_echelon_square.nd rfl (Or.inl rfl)) pgs_nil))))
  (pss_one (ps_ret (pe_tup (pa_cons (pv 6) (pa_cons (pv 7) (pa_cons (pe_callTy call_tuple_of (by rfl) T.b_tuple (by decide +kernel) (pa_cons (pe_lc (own := [("number", 5)]) (g := gName 5) (tt := tYes) (by rfl) sc_echelon_square.nd (pi_tup (pv 2)) (blkOk_by (N := N_echelon_square) (sc := defScope s_echelon_square) (by decide +kernel)) (fun _ _ _ _ _ => (pg_name (i := 5) sc_echelon_square.nd rfl (Or.inl rfl))) (fun _ _ _ _ _ => pts_nil) (fun _ _ _ _ _ => (pe_op op_fdivW (pv 5) (pv 4)))) pa_nil)) pa_nil)))))))))), ?_⟩
  simp only at ht hr2 hk hne hB hs hsB
  obtain ⟨g, hg⟩ : ∃ g, g = gf 0 (vec n row) := ⟨_, rfl⟩
  have hm : row k ∈ vec n row := List.mem_map.mpr ⟨k, List.mem_range.mpr hk, rfl⟩
  obtain ⟨hg0, hgle⟩ := gf_nz hm hne
  rw [← hg] at hg0 hgle
  have hgB : B w g := by
    have h : (row k).natAbs < 2 ^ w := hB k
    show g.natAbs < 2 ^ w
    omega
  refine ⟨_, rfl, _, rfl, t, _, rfl, ht, fun h => absurd (show HT.sIx 3 0 (some 1) = 0 from h.1) (by decide), fun u1 hu1 => ?_⟩
  have s1 : Same H (upd H u1 (.tup [.ref r, .int sc])) := same_new hu1 _
  have hcut : cutV [V.int (k : Int), .ref r, .int sc] (some 1) none = [.ref r, .int sc] := rfl
  rw [hcut]
  refine ⟨u1, _, rfl, SqT.of upd_same, rfl, _, _, rfl, _, _, rfl, rfl, ?_⟩
  generalize upd H u1 (.tup [.ref r, .int sc]) = H1 at *
  have hr3 : SqT K H1 r ((vec n row).map V.int) := Same_seqT s1 hr2
  refine ⟨_, rfl, r, rfl, ⟨_, hr3⟩, for_tup (K := K) (a := r) (xs := (vec n row).map V.int) (fun i σ H' => ∃ v5 : Option V, σ = [some (.ref t), some (.int b), some (.ref r), some (.int sc), some (.int (gf 0 ((vec n row).take i))), v5, none, none] ∧ H' = H1) ⟨none, rfl, rfl⟩ (fun i σ H' _ ⟨_, _, e⟩ => by rw [e]; exact hr3) ?_ ?_⟩
  · rintro i v σ H' hi ⟨v5, rfl, rfl⟩
    obtain ⟨m, hmi, rfl⟩ := ints_at hi
    refine ⟨_, rfl, _, rfl, _, _, rfl, some (V.int m), ?_, rfl⟩
    rw [take_one hmi, gf_snoc]
    rfl
  · rintro σ H' ⟨v5, rfl, rfl⟩
    rw [List.length_map, List.take_length, ← hg]
    refine ⟨_, rfl, _, rfl, _, _, rfl, rfl, wmul hgB hgB hw0 hw0 (by omega), _, rfl, _, rfl, _, _, rfl, rfl, wmul hsB hbB (by decide) (by decide) (by decide), g * g, sc * b, rfl, Int.mul_pos hs hb, ?_, fun r2 H2 s2 hf => ?_⟩
    · show (sc * b).natAbs < 2 ^ 9000
      have h1 : sc.natAbs < 2 ^ 4000 := hsB
      have h2 : b.natAbs < 2 ^ 4000 := hbB
      rw [Int.natAbs_mul]
      refine Nat.lt_of_lt_of_le (Nat.mul_lt_mul'' h1 h2) ?_
      rw [← Nat.pow_add]
      exact Nat.pow_le_pow_right (by decide) (by decide)
    · refine ⟨r2, _, rfl, SqT.of hf, rfl, _, _, rfl, _, _, rfl, rfl, ?_⟩
      refine ⟨_, rfl, _, rfl, _, rfl, r, rfl, ⟨_, Same_seqT s2 hr3⟩, fun D hD => ?_⟩
      refine lc_m (walk_tup (K := K) (a := r) (xs := (vec n row).map V.int)) RI (stb_RI (K := K)) (List.range n) (by rw [vec_lenV, List.length_range]) (by rw [List.length_range]; omega) hD (fun H' s => Same_seqT (s2.trans s) hr3) (fun _ _ _ _ => ys_at) (fun j => row j / g) (fun c j v H3 H4 hc s3 s4 yl A B hA => ?_) (fun H3 l1 s3 hl1 rz => ?_)
      · obtain ⟨hc1, rfl⟩ := in_range hc
        have e := yl.2
        rw [vecV_at hc1] at e
        cases e
        exact ⟨rfl, lc_yes ⟨_, rfl, _, rfl, _, _, rfl, rfl, wdiv hg0 hgB hw0 (by omega), hA _ _ (fun _ _ h => h) rfl⟩⟩
      · refine ⟨D, l1, rfl, .inl ⟨SqL.of hl1, fun u hu => ⟨three_line, fun z hz => ?_⟩⟩⟩
        refine q _ _ (s1.trans (s2.trans (s3.trans ((same_new hu _).trans (same_new hz _))))) ⟨z, u, rfl, ?_, ?_⟩
        · show SqT K _ z [.int (gf 0 (vec n row) * gf 0 (vec n row) / gI (gf 0 (vec n row) * gf 0 (vec n row)) (sc * b)), .int (sc * b / gI (gf 0 (vec n row) * gf 0 (vec n row)) (sc * b)), .ref u]
          rw [← hg]
          exact SqT.of upd_same
        · refine Same_seqT (same_new hz _) ?_
          show SqT K _ u ((vec n fun i => row i / gf 0 (vec n row)).map V.int)
          rw [← hg, ← show l1 = (vec n fun i => row i / g).map V.int from rz.ints]
          exact SqT.of upd_same
end
end P01
namespace P01
open PySem PySem.Spec PyProof.Rows L2 SX EX WK
/-- a class as its makers see it: no keywords -/
def CalC (P : Program) (w : World) (K : PySem.W.Frag) (mg : Str → Option Value) (base : Heap) (k : Nat) (x : Str) (C : Addr) (ps : List Str) (sp : Sp) : Prop :=
  ∃ (f : Addr) (fd : FuncData), Mk K C f ∧ FnOk P w K mg base CX0 k f fd ps sp ∧ mg x = some (.ref C) ∧ Binds K fd ps []
theorem pe_calC {X : Cx} {k : Nat} {C : Addr} {x : Str} {ps : List Str} {sp : Sp} {p pos : Pos} {e : Expr} {es : List Expr} {t : TA} (M : CalC X.prog X.w X.K X.mg X.base k x C ps sp) (hr : Room (k + 1) X.A) (hg : Gl X x) (ha : PA X (e :: es) t)
    (hdb : (x == ("__debug__" : Str)) = false := by decide) (he : starEach (e :: es) X.env = (false, eval e X.env) :: starEach es X.env := by rfl) (hpl : (backTo pos (starEach es X.env)).any (·.1) = false := by rfl) :
    PE X (.Call (.Name x p) (e :: es) [] pos) (tMake C sp [] E0 t) := by
  obtain ⟨f, fd, M, F, hm, hb⟩ := M
  exact pe_make M F hr hg hm hb .nil pass0 ha hdb he hpl
/-- a judgement: holds, squares, point -/
def JAt (H : Hp) (C p : Addr) (h : Bool) (sq pt : V) : Prop := ∃ dx, H p = some (.ins C dx [("holds", .bl h), ("squares", sq), ("point", pt)])
theorem flJ (h s p : V) : putF "point" p (putF "squares" s (putF "holds" h [])) = ([("holds", h), ("squares", s), ("point", p)] : List (Str × V)) := by
  show putF "point" p (putF "squares" s [("holds", h)]) = _
  rw [putF_ne (by decide +kernel)]
  show putF "point" p [("holds", h), ("squares", s)] = _
  rw [putF_ne (by decide +kernel), putF_ne (by decide +kernel)]
  rfl
section
variable {P : Program} {w : World} {K : PySem.W.Frag} {mg : Str → Option Value} {base : Heap} {f : Addr} {fd : FuncData} {cF cR : Addr}
def spJudg (K : PySem.W.Frag) (C : Addr) : Sp := fun vs H Q _ => ∃ (a dx : Addr) (h : Bool) (sq pt : V), vs = [.ref a, .bl h, sq, pt] ∧ H a = some (.ins C dx []) ∧ ∀ H', JAt H' C a h sq pt → But a H H' → Q .non H'
abbrev s_iJudgement : Stmt := mth 30 0
abbrev N_iJudgement : List Str := ["self", "holds", "squares", "point"]
theorem sc_iJudgement : FnScope N_iJudgement ["self", "holds", "squares", "point"] (defScope s_iJudgement) := ⟨rfl, rfl, rfl, by decide +kernel, rfl, by decide +kernel, by decide +kernel⟩
theorem ok_iJudgement (F : Fun K "__init__" "Judgement.__init__" s_iJudgement f fd) (T : Txt mg) (O : Obs K cF cR) : FnOk P w K mg base CX0 1 f fd ["self", "holds", "squares", "point"] (spJudg K cR) := by
  refine F.ok sc_iJudgement (fun vs H Q E h => ?_) (fun cdv A outer s H vs Q E hr h => ?_)
  · obtain ⟨a, dx, h, sq, pt, rfl, _⟩ := h
    rfl
  obtain ⟨a, dx, h, sq, pt, rfl, hself, q⟩ := h
  refine ⟨_, (pss_cons (ps_fld (pv 0) (pv 1) rfl)
  (pss_cons (ps_fld (pv 0) (pv 2) rfl)
  (pss_one (ps_fld (pv 0) (pv 3) rfl)))), ?_⟩
  refine ⟨_, rfl, _, rfl, a, cR, dx, _, rfl, hself, O.clR, O.R_holds, (by show 0 < 1000; decide), ?_⟩
  refine ⟨_, rfl, _, rfl, a, cR, dx, _, rfl, upd_same, O.clR, O.R_squares, (by show 1 < 1000; decide), ?_⟩
  refine ⟨_, rfl, _, rfl, a, cR, dx, _, rfl, upd_same, O.clR, O.R_point, (by show 2 < 1000; decide), ?_⟩
  refine q _ ⟨dx, ?_⟩ ((((But.of (fun _ _ h => h)).put _).put _).put _)
  rw [upd_same, flJ]
end
end P01
namespace P01
open PySem PySem.Spec PyProof.Rows L2 SX EX WK
theorem made_same {H1 H5 : Hp} {x dx : Addr} {o : HO} (h1 : H1 x = none) (h2 : H1 dx = none) (hb : But x (upd (upd H1 dx (.own x)) x o) H5) : Same H1 H5 := fun c u e => by
  have c1 : c ≠ x := fun z => by rw [z, h1] at e; cases e
  have c2 : c ≠ dx := fun z => by rw [z, h2] at e; cases e
  exact hb c u (by rw [upd_ne c1, upd_ne c2]; exact e) c1
/-- the sizes at which a form is judged -/
structure JOk (n w : Nat) (bd : Int) (M : Nat → Nat → Int) : Prop where
  n10 : n ≤ 10
  whole : Whole n M
  bd1 : 1 ≤ bd
  abs : ∀ i j, -bd ≤ M i j ∧ M i j ≤ bd
  bB : B w (El.bnd bd n)
  w0 : 0 < w
  w1 : w ≤ 1000
  tbB : El.tb (fun k => El.bnd bd (k + 1)) n n < 2 ^ 7900
theorem JOk.piv {n w : Nat} {bd : Int} {M : Nat → Nat → Int} (h : JOk n w bd M) {k : Nat} {S : List Nat} {d : Int} {B' : Nat → Nat → Int} {ps : List El.Pv} (r : El.Run M k S d B' ps) (hk : k ≤ n) : ∀ p ∈ ps, p.1 < n ∧ 0 < p.2.1 p.1 ∧ (∀ j, B w (p.2.1 j)) ∧ 0 < p.2.2 ∧ B 4000 p.2.2 := fun p hp => by
  have q := r.pivots h.whole.sym bd h.bd1 h.abs p hp
  have hlt : p.1 < n := Nat.lt_of_lt_of_le q.small hk
  have m1 := El.bnd_mono h.bd1 (show p.1 + 1 ≤ n by omega)
  have m0 := El.bnd_mono h.bd1 (show p.1 ≤ n by omega)
  have p0 := El.bnd_pos h.bd1 p.1
  have p1 := El.bnd_pos h.bd1 (p.1 + 1)
  have hw : (El.bnd bd n).natAbs < 2 ^ w := h.bB
  refine ⟨hlt, q.pos, fun j => ?_, q.spos, ?_⟩
  · have a := q.row j
    show (p.2.1 j).natAbs < 2 ^ w
    omega
  · have a := q.scale
    have b := q.spos
    have c : El.bnd bd p.1 * El.bnd bd (p.1 + 1) ≤ El.bnd bd n * El.bnd bd n := Int.mul_le_mul m0 m1 (by omega) (by omega)
    show p.2.2.natAbs < 2 ^ 4000
    have e : p.2.2.natAbs ≤ (El.bnd bd n).natAbs * (El.bnd bd n).natAbs := by
      rw [← Int.natAbs_mul]
      omega
    have f : (El.bnd bd n).natAbs * (El.bnd bd n).natAbs < 2 ^ w * 2 ^ w := Nat.mul_lt_mul'' hw hw
    rw [← Nat.pow_add] at f
    have g : (2 : Nat) ^ (w + w) ≤ 2 ^ 4000 := Nat.pow_le_pow_right (by decide) (by have := h.w1; omega)
    exact Nat.lt_of_lt_of_le (Nat.lt_of_le_of_lt e f) g
theorem tb_mono {R : Nat → Int} {n : Int} (hn : 1 ≤ n) (hR : ∀ k, 1 ≤ R k) {a b : Nat} (h : a ≤ b) : El.tb R n a ≤ El.tb R n b := by
  induction h with
  | refl => exact Int.le_refl _
  | @step m _ ih =>
    have p := El.tb_pos hn hR m
    have q : 1 * 1 ≤ n * R m := Int.mul_le_mul hn (hR m) (by decide) (by omega)
    have r : El.tb R n m * 1 ≤ El.tb R n m * (n * R m) := Int.mul_le_mul_of_nonneg_left (by simpa using q) (by omega)
    show _ ≤ El.tb R n m * (n * R m)
    omega
theorem JOk.bad {n w : Nat} {bd : Int} {M : Nat → Nat → Int} (h : JOk n w bd M) {k : Nat} {S : List Nat} {d : Int} {B' : Nat → Nat → Int} {ps : List El.Pv} (r : El.Run M k S d B' ps) (hk : k < n) {x : El.Row} (bad : BadAt n k B' x) :
    (∀ i, B (w + 1) (x i)) ∧ ∃ i, i < n ∧ seti n ps x i ≠ 0 ∧ B 9000 (seti n ps x i) := by
  obtain ⟨hB, _, _⟩ := run_bound h.whole h.bd1 h.abs h.bB r hk
  have two : 1 ≤ 2 ^ w := Nat.one_le_two_pow
  have facts : (∀ i, (x i).natAbs ≤ 2 ^ w) ∧ ∃ i, i < n ∧ k ≤ i ∧ x i = 1 := by
    rcases bad with ⟨_, rfl⟩ | ⟨_, p, hp, hpn, _, _, rfl⟩
    · refine ⟨fun i => ?_, k, hk, Nat.le_refl _, if_pos rfl⟩
      unfold El.unitP
      split
      · exact two
      · exact Nat.zero_le _
    · refine ⟨fun i => ?_, p, hpn, by omega, ?_⟩
      · have hb : (B' p p).natAbs < 2 ^ w := hB p p
        unfold El.sideP
        have ha : (amt k p B').natAbs ≤ 2 ^ w := by
          unfold amt
          split <;> omega
        by_cases c1 : i = k
        · rw [if_pos c1, if_neg (by omega)]
          omega
        · rw [if_neg c1]
          split <;> omega
      · unfold El.sideP
        rw [if_neg (by omega), if_pos rfl]
        omega
  obtain ⟨f1, i0, hi, hki, hx1⟩ := facts
  have f2 : ∀ i, (x i).natAbs < 2 ^ (w + 1) := fun i => by
    have := f1 i
    rw [Nat.pow_succ]
    omega
  refine ⟨f2, i0, hi, ?_, ?_⟩
  · obtain ⟨_, f, hf, hs⟩ := r.settled h.whole.sym n (by omega) x
    have := hs i0 (fun m => by have := (r.inv h.whole.sym).small i0 m; omega)
    rw [seti_setl, hx1] at this
    omega
  · have pb := r.setl_bound (fun k => El.bnd bd (k + 1)) (fun k => El.bnd bd k * El.bnd bd (k + 1)) n (fun k => El.bnd_pos h.bd1 _) (fun p hp => { r.pivots h.whole.sym bd h.bd1 h.abs p hp with small := Nat.lt_trans (r.pivots h.whole.sym bd h.bd1 h.abs p hp).small hk }) (by omega) x (((2 ^ (w + 1) : Nat)) : Int) (by omega) (fun i => by have := f2 i; omega) i0
    rw [seti_setl] at pb
    have mono := tb_mono (R := fun k => El.bnd bd (k + 1)) (n := (n : Int)) (by omega) (fun k => El.bnd_pos h.bd1 _) (show k ≤ n by omega)
    have tpos := El.tb_pos (R := fun k => El.bnd bd (k + 1)) (n := (n : Int)) (by omega) (fun k => El.bnd_pos h.bd1 _) k
    have htb := h.tbB
    have hX : ((2 ^ (w + 1) : Nat) : Int) ≤ ((2 ^ 1001 : Nat) : Int) := Int.ofNat_le.mpr (Nat.pow_le_pow_right (by decide) (by have := h.w1; omega))
    have fin : ((2 ^ (w + 1) : Nat) : Int) * El.tb (fun k => El.bnd bd (k + 1)) n k ≤ ((2 ^ 1001 : Nat) : Int) * ((2 ^ 7900 : Nat) : Int) := Int.mul_le_mul hX (by
      rw [show ((2 ^ 7900 : Nat) : Int) = (2 : Int) ^ 7900 from Int.natCast_pow 2 7900]
      omega) (by omega) (Int.natCast_nonneg _)
    rw [← Int.natCast_mul, ← Nat.pow_add] at fin
    have lt : (2 : Nat) ^ (1001 + 7900) < 2 ^ 9000 := Nat.pow_lt_pow_right (by decide) (by decide)
    show (seti n ps x i0).natAbs < 2 ^ 9000
    generalize (2 : Nat) ^ (1001 + 7900) = A at *
    generalize (2 : Nat) ^ 9000 = C at *
    omega
section
variable {P : Program} {w : World} {K : PySem.W.Frag} {mg : Str → Option Value} {base : Heap} {f : Addr} {fd : FuncData} {cF cR : Addr}
def spJudge (K : PySem.W.Frag) (cF cR : Addr) : Sp := fun vs H Q _ => ∃ (p : Addr) (n w : Nat) (b bd : Int) (M : Nat → Nat → Int), vs = [.ref p] ∧ FormAt K H cF p n (mat n M) b ∧ JOk n w bd M ∧ 0 < b ∧ B 4000 b ∧
  (∀ r t us H' S d B' ps, Same H H' → El.Run M n S d B' ps → JAt H' cR r true (.ref t) .non → SqT K H' t us → Rs (Told K n) H' us (ps.reverse.map (ech n b)) → Q (.ref r) H') ∧
  (∀ r t z H' k S d B' ps x, Same H H' → k < n → El.Run M k S d B' ps → BadAt n k B' x → JAt H' cR r false (.ref t) (.ref z) → SqT K H' t [] → TV K H' z n (setd n ps x) → Q (.ref r) H')
abbrev s_judge : Stmt := top 33
abbrev N_judge : List Str := ["form", "pivots", "point", "pivot"]
theorem sc_judge : FnScope N_judge ["form"] (defScope s_judge) := ⟨rfl, rfl, rfl, by decide +kernel, rfl, by decide +kernel, by decide +kernel⟩
theorem ok_judge (F : Fun K "judge" "judge" s_judge f fd) (T : Txt mg) (O : Obs K cF cR) (C_eliminated : Cal P w K mg base 3 "eliminated" ["entries"] (spElim K)) (C_settled : Cal P w K mg base 1 "settled" ["pivots", "point"] (spSettled K)) (C_echelon_square : Cal P w K mg base 2 "echelon_square" ["pivot", "bottom"] (spEch K)) (C_Judgement : CalC P w K mg base 1 "Judgement" cR ["self", "holds", "squares", "point"] (spJudg K cR)) : FnOk P w K mg base CX0 4 f fd ["form"] (spJudge K cF cR) := by
  refine F.ok sc_judge (fun vs H Q E h => ?_) (fun cdv A outer s H vs Q E hr h => ?_)
  · obtain ⟨p, n, w, b, bd, M, rfl, _⟩ := h
    rfl
  obtain ⟨p, n, w, b, bd, M, rfl, ⟨dx, e, hf, hz⟩, jo, hb, hbB, q1, q2⟩ := h
  refine ⟨_, (pss_cons (ps_asg (pe_cal C_eliminated (hr.mono (by omega)) rfl (pa_cons (pe_fld (pv 0) rfl) pa_nil)) (pg_tup rfl (pgs_cons (pg_name (i := 1) sc_judge.nd rfl (Or.inl rfl)) (pgs_cons (pg_name (i := 2) sc_judge.nd rfl (Or.inl rfl)) pgs_nil))))
  (pss_cons (ps_if (pt_cmpR op_notN (pv 2) pe_non (nomark _)) (pss_one (ps_ret (pe_calC C_Judgement (hr.mono (by omega)) rfl (pa_cons pe_bl (pa_cons (pe_tup pa_nil) (pa_cons (pe_cal C_settled (hr.mono (by omega)) rfl (pa_cons (pv 1) (pa_cons (pv 2) pa_nil))) pa_nil)))))) pss_nil)
  (pss_one (ps_ret (pe_calC C_Judgement (hr.mono (by omega)) rfl (pa_cons pe_bl (pa_cons (pe_callTy call_tuple_of (by rfl) T.b_tuple (by decide +kernel) (pa_cons (pe_lc (own := [("pivot", 3)]) (g := gName 3) (tt := tYes) (by rfl) sc_judge.nd (pi_tup (pv 1)) (blkOk_by (N := N_judge) (sc := defScope s_judge) (by decide +kernel)) (fun _ _ _ _ _ => (pg_name (i := 3) sc_judge.nd rfl (Or.inl rfl))) (fun _ _ _ _ _ => pts_nil) (fun _ _ _ _ _ => (pe_cal C_echelon_square (hr.mono (by omega)) rfl (pa_cons (pv 3) (pa_cons (pe_fldK (K := K) rfl (pv 0) rfl) pa_nil))))) pa_nil)) (pa_cons pe_non pa_nil)))))))), ?_⟩
  refine ⟨_, rfl, p, cF, dx, _, _, rfl, hf, O.clF, O.F_entries, rfl, _, n, w, bd, M, rfl, hz, by have := jo.n10; omega, jo.whole, jo.bd1, jo.abs, jo.bB, jo.w0, by have := jo.w1; omega, fun r t us H1 S d B' ps s1 run hr1 ht1 rps => ?_, fun r t z us H1 k S d B' ps x s1 hk run bad hr1 ht1 rps htv => ?_⟩
  · refine ⟨r, _, rfl, hr1, rfl, _, _, rfl, _, _, rfl, rfl, ?_⟩
    refine ⟨_, rfl, rfl, _, rfl, ifF (by rw [decide_eq_true rfl]; rfl) ?_⟩
    refine ⟨_, rfl, t, rfl, ⟨_, ht1⟩, fun D hD => ?_⟩
    refine lc_m (walk_tup (K := K) (a := t) (xs := us)) (Told K n) stb_Told ps.reverse (by rw [rps.1]) (by
      have := run.many
      have l := run.leads
      rw [List.length_reverse, ← List.length_map (as := ps) (f := (·.1)), l]
      have := jo.n10
      omega) hD (fun H' s => Same_seqT s ht1) (fun _ _ _ _ => ys_at) (ech n b) (fun c p' v H2 H3 hc s2 s3 yl A B hA => ?_) (fun H2 l1 s2 hl1 rz => ?_)
    · have pa := rps.2 _ _ _ yl.2 hc
      obtain ⟨g1, g2, g3, g4, g5⟩ := jo.piv run (Nat.le_refl n) p' (List.mem_reverse.mp (List.mem_of_getElem? hc))
      exact ⟨rfl, lc_yes ⟨_, rfl, _, rfl, p, cF, dx, _, _, rfl, s3 _ _ (s1 _ _ hf), O.clF, O.F_bottom, rfl, v, n, w, b, p', rfl, stb_PvAt _ _ _ _ (fun _ _ h => Same_seqT s3 h) pa, jo.n10, g1, by omega, g3, jo.w0, by have := jo.w1; omega, g4, g5, hb, hbB, fun r2 H4 s4 ht => hA _ _ s4 ht⟩⟩
    · refine ⟨D, l1, rfl, .inl ⟨SqL.of hl1, fun u hu => fun x dx2 h1 h2 h3 => ⟨x, dx2, true, .ref u, .non, rfl, upd_same, fun H5 hj hb2 => ⟨rfl, ?_⟩⟩⟩⟩
      have s5 := made_same h1 h2 hb2
      have s6 := (same_new hu (.tup l1)).trans s5
      exact q1 x u l1 H5 S d B' ps (s1.trans (s2.trans s6)) run hj (Same_seqT s5 (SqT.of upd_same)) (rz.tk stb_Told fun _ _ h => Same_seqT s6 h)
  · refine ⟨r, _, rfl, hr1, rfl, _, _, rfl, _, _, rfl, rfl, ?_⟩
    refine ⟨_, rfl, rfl, _, rfl, ifT (by rw [decide_eq_false (fun e => by cases e)]; rfl) ?_⟩
    refine ⟨line_ge (by decide), fun t0 ht0 => ?_⟩
    have s2 := same_new ht0 (.tup [])
    obtain ⟨hxB, hi0⟩ := jo.bad run hk bad
    refine ⟨_, rfl, _, rfl, t, z, n, w + 1, us, ps, x, rfl, Same_seqT s2 ht1, rps.tk stb_PvAt (fun _ _ h => Same_seqT s2 h), Same_seqT s2 htv, jo.n10, ?_, fun p hp => ?_, hxB, by omega, by have := jo.w1; omega, hi0, fun r3 H3 s3 hv => fun y dx2 h1 h2 h3 => ⟨y, dx2, false, .ref t0, .ref r3, rfl, upd_same, fun H5 hj hb2 => ⟨rfl, ?_⟩⟩⟩
    · have := run.many
      have l := run.leads
      rw [← List.length_map (as := ps) (f := (·.1)), l]
      have := jo.n10
      omega
    · obtain ⟨g1, g2, g3, _⟩ := jo.piv run (by omega) p hp
      exact ⟨g1, g2, fun j => (g3 j).mono (by omega)⟩
    · have s5 := made_same h1 h2 hb2
      exact q2 y t0 r3 H5 k S d B' ps x (s1.trans (s2.trans (s3.trans s5))) hk run bad hj (Same_seqT (s3.trans s5) (SqT.of upd_same)) (Same_seqT s5 hv)
end
end P01
namespace P01
open PySem PySem.Spec PyProof.Rows L2 SX EX WK
section
variable {P : Program} {w : World} {K : PySem.W.Frag} {mg : Str → Option Value} {base : Heap} {f : Addr} {fd : FuncData} {cF cR : Addr}
def spSizes (K : PySem.W.Frag) (cF : Addr) : Sp := fun vs H Q _ => ∃ (p q : Addr) (n : Nat) (m1 m2 : List (List Int)) (b1 b2 : Int), vs = [.ref p, .ref q] ∧ FormAt K H cF p n m1 b1 ∧ FormAt K H cF q n m2 b2 ∧ Q .non H
abbrev s_check_sizes : Stmt := top 25
abbrev N_check_sizes : List Str := ["one", "two"]
theorem sc_check_sizes : FnScope N_check_sizes ["one", "two"] (defScope s_check_sizes) := ⟨rfl, rfl, rfl, by decide +kernel, rfl, by decide +kernel, by decide +kernel⟩
theorem ok_check_sizes (F : Fun K "check_sizes" "check_sizes" s_check_sizes f fd) (T : Txt mg) (O : Obs K cF cR) : FnOk P w K mg base CX0 1 f fd ["one", "two"] (spSizes K cF) := by
  refine F.ok sc_check_sizes (fun vs H Q E h => ?_) (fun cdv A outer s H vs Q E hr h => ?_)
  · obtain ⟨p, q, n, m1, m2, b1, b2, rfl, _⟩ := h
    rfl
  obtain ⟨p, q, n, m1, m2, b1, b2, rfl, ⟨d1, e1, h1, z1⟩, ⟨d2, e2, h2, z2⟩, qq⟩ := h
  refine ⟨_, (pss_one (ps_if (pt_cmpR op_ne (pe_fld (pv 0) rfl) (pe_fld (pv 1) rfl) (nomark _)) (pss_one ps_never) pss_nil)), ?_⟩
  refine ⟨_, rfl, p, cF, d1, _, _, rfl, h1, O.clF, O.F_size, rfl, _, rfl, q, cF, d2, _, _, rfl, h2, O.clF, O.F_size, rfl, ?_⟩
  exact ⟨rfl, _, rfl, ifF (by rw [decide_eq_true rfl]; rfl) qq⟩
def comb2 (x y : Int) (g1 g2 : Nat → Nat → Int) : Nat → Nat → Int := fun i j => x * g1 i j + y * g2 i j
def spComb (K : PySem.W.Frag) (cF : Addr) : Sp := fun vs H Q _ => ∃ (p q : Addr) (n w : Nat) (x y b1 b2 : Int) (g1 g2 : Nat → Nat → Int), vs = [.ref p, .int x, .ref q, .int y] ∧ FormAt K H cF p n (mat n g1) b1 ∧ FormAt K H cF q n (mat n g2) b2 ∧ n ≤ 300 ∧ B w x ∧ B w y ∧ (∀ i j, i < n → j < n → B w (g1 i j) ∧ B w (g2 i j)) ∧ 0 < w ∧ w ≤ 100000 ∧
  ∀ r H', Same H H' → LTab H' r n (comb2 x y g1 g2) → Q (.ref r) H'
abbrev s_combined_entries : Stmt := top 27
abbrev N_combined_entries : List Str := ["one", "first", "two", "second", "lines", "line", "mate", "entry", "other"]
theorem sc_combined_entries : FnScope N_combined_entries ["one", "first", "two", "second"] (defScope s_combined_entries) := ⟨rfl, rfl, rfl, by decide +kernel, rfl, by decide +kernel, by decide +kernel⟩
theorem ok_combined_entries (F : Fun K "combined_entries" "combined_entries" s_combined_entries f fd) (T : Txt mg) (O : Obs K cF cR) : FnOk P w K mg base CX0 1 f fd ["one", "first", "two", "second"] (spComb K cF) := by
  refine F.ok sc_combined_entries (fun vs H Q E h => ?_) (fun cdv A outer s H vs Q E hr h => ?_)
  · obtain ⟨p, q, n, w, x, y, b1, b2, g1, g2, rfl, _⟩ := h
    rfl
  obtain ⟨p, q, n, w, x, y, b1, b2, g1, g2, rfl, ⟨d1, e1, h1, z1⟩, ⟨d2, e2, h2, z2⟩, hn, hx, hy, hB, hw0, hw, qq⟩ := h
  refine ⟨_, (pss_cons (ps_set (i := 4) sc_combined_entries.nd rfl (Or.inl rfl) (pe_lst pa_nil))
  (pss_cons (ps_for PassesOwn.never rfl (RZ.pi_zipA (by rfl) T.b_zip (pa_cons (pe_fld (pv 0) rfl) (pa_cons (pe_fld (pv 2) rfl) pa_nil))) (pg_tup rfl (pgs_cons (pg_name (i := 5) sc_combined_entries.nd rfl (Or.inl rfl)) (pgs_cons (pg_name (i := 6) sc_combined_entries.nd rfl (Or.inl rfl)) pgs_nil))) (pss_one (ps_expr (pe_bm PySem.F.plainAttrs_list PySem.F.slot_list_append PySem.F.type_list_append mt_append (pv 4) (pa_cons (pe_lc (own := [("entry", 7), ("other", 8)]) (tt := tYes) (by rfl) sc_combined_entries.nd (WZ.pi_zipB (by rfl) T.b_zip (pa_cons (pv 5) (pa_cons (pv 6) pa_nil))) (blkOk_by (N := N_combined_entries) (sc := defScope s_combined_entries) (by decide +kernel)) (fun _ _ _ _ _ => (pg_tupK (K := K) (n := 2) rfl rfl (pgs_cons (pg_name (i := 7) sc_combined_entries.nd rfl (Or.inl rfl)) (pgs_cons (pg_name (i := 8) sc_combined_entries.nd rfl (Or.inl rfl)) pgs_nil)))) (fun _ _ _ _ _ => pts_nil) (fun _ _ _ _ _ => (pe_op op_add (pe_op op_mulW (pv 1) (pv 7)) (pe_op op_mulW (pv 3) (pv 8))))) pa_nil)))))
  (pss_one (ps_ret (pv 4))))), ?_⟩
  obtain ⟨a1, us1, c1, t1, l1, r1⟩ := fz_mat z1
  obtain ⟨a2, us2, c2, t2, l2, r2⟩ := fz_mat z2
  cases c1
  cases c2
  refine ⟨line_ge (by decide), fun L hL => ?_⟩
  rw [mat_len] at l1 l2
  have sL := same_new hL (.lst [])
  refine ⟨_, rfl, p, cF, d1, _, _, rfl, sL _ _ h1, O.clF, O.F_entries, rfl, _, rfl, q, cF, d2, _, _, rfl, sL _ _ h2, O.clF, O.F_entries, rfl, e1, e2, us1, us2, rfl, .inr ⟨Same_seqT sL t1, Same_seqT sL t2, RZ.for_zipT (l1.trans l2.symm) (fun i σ H1 => ∃ (v5 v6 : Option V) (ls : List Addr), σ = [some (.ref p), some (.int x), some (.ref q), some (.int y), some (.ref L), v5, v6, none, none] ∧ GT H H1 L ls n i (comb2 x y g1 g2)) ⟨none, none, [], rfl, GT.start hL⟩ (fun i σ H1 ⟨_, _, ls, _, g⟩ => ⟨Same_seqT g.same t1, Same_seqT g.same t2⟩) ?_ ?_⟩⟩
  · rintro i x1 x2 TT σ H1 e1 e2 ⟨v5, v6, ls, rfl, g⟩ hT
    have hi : i < n := by
      have := (List.getElem?_eq_some_iff.mp e1).1
      omega
    obtain ⟨p1, f1, s1⟩ := r1 i _ (mat_at hi)
    obtain ⟨p2, f2, s2⟩ := r2 i _ (mat_at hi)
    rw [f1] at e1
    rw [f2] at e2
    cases e1
    cases e2
    have sT := same_new hT (.tup [.ref p1, .ref p2])
    refine ⟨TT, _, rfl, SqT.of upd_same, rfl, _, _, rfl, _, _, rfl, rfl, ?_⟩
    have g' : GT H (upd H1 TT (.tup [.ref p1, .ref p2])) L ls n i (comb2 x y g1 g2) := ⟨g.same.trans sT, sT _ _ g.at_, g.len, fun j hj => by
      obtain ⟨z, z1, z2⟩ := g.row j hj
      exact ⟨z, z1, sT _ _ z2⟩⟩
    generalize upd H1 TT (.tup [.ref p1, .ref p2]) = H2 at *
    have s1' : WZ.Sq false K H2 p1 ((vec n (g1 i)).map V.int) := Same_seqT g'.same s1
    have s2' : WZ.Sq false K H2 p2 ((vec n (g2 i)).map V.int) := Same_seqT g'.same s2
    refine ⟨_, rfl, tyV_of g'.at_, _, rfl, _, rfl, false, false, p1, p2, _, _, rfl, s1', s2', fun D hD => ?_⟩
    refine lc_m (WZ.walk_zA (K := K) (k := false) (l := false) (a := p1) (b := p2) (xs := (vec n (g1 i)).map V.int) (ys := (vec n (g2 i)).map V.int) (n := n) vec_lenV.symm vec_lenV.symm) RI (stb_RI (K := K)) (List.range n) (by rw [List.length_range]) (by rw [List.length_range]; omega) hD (fun H' s => ⟨sq_same s s1', sq_same s s2'⟩) (fun _ _ _ _ => ys_pair) (fun j => comb2 x y g1 g2 i j) (fun c j v H3 H4 hc s3 s4 yl A B hA => ?_) (fun H3 l3 s3 hl3 rz => ?_)
    · obtain ⟨hc1, rfl⟩ := in_range hc
      obtain ⟨Tp, y1, y2, rfl, hT2, rfl, e1, e2⟩ := yl
      have e3 := (show ((vec n (g1 i)).map V.int)[j]? = some y1 from e1).symm.trans (vecV_at hc1)
      have e4 := (show ((vec n (g2 i)).map V.int)[j]? = some y2 from e2).symm.trans (vecV_at hc1)
      cases e3
      cases e4
      exact ⟨_, _, rfl, SqT.of upd_same, rfl, _, _, rfl, _, _, rfl, rfl, rfl, lc_yes ⟨_, rfl, _, rfl, _, _, rfl, rfl, wmul hx (hB i j hi hc1).1 hw0 hw0 (by omega), _, rfl, _, rfl, _, _, rfl, rfl, wmul hy (hB i j hi hc1).2 hw0 hw0 (by omega), _, _, rfl, rfl, hA _ _ (fun _ _ h => h) rfl⟩⟩
    · refine ⟨L, _, _, rfl, rfl, s3 _ _ g'.at_, ?_, ?_⟩
      · rw [List.length_map, g'.len]
        exact Nat.lt_of_lt_of_le (by omega : i < 1001) (line_ge (by decide))
      · refine ⟨_, _, ls ++ [D], rfl, g'.snoc hL s3 (by rw [hl3, rz.ints]; rfl) (fun z => ?_)⟩
        rw [z, g'.at_] at hD
        cases hD
  · rintro σ H1 ⟨v5, v6, ls, rfl, g⟩
    rw [l1] at g
    exact ⟨_, rfl, qq _ _ g.same g.tab⟩
end
end P01
namespace P01
open PySem PySem.Spec PyProof.Rows L2 SX EX WK
theorem two_new {H : Hp} {x dx : Addr} {u o : HO} (hx : H x = none) (hd : H dx = none) : Same H (upd (upd H dx u) x o) := fun c v e => by
  have c1 : c ≠ x := fun z => by rw [z, hx] at e; cases e
  have c2 : c ≠ dx := fun z => by rw [z, hd] at e; cases e
  rw [upd_ne c1, upd_ne c2]
  exact e
/-- the form of the table T over U, in lowest terms -/
def FAt (K : PySem.W.Frag) (H : Hp) (cF p : Addr) (n : Nat) (T : Nat → Nat → Int) (U : Int) : Prop := FormAt K H cF p n (mat n fun i j => T i j / gf U (mat n T).flatten) (U / gf U (mat n T).flatten)
section
variable {P : Program} {w : World} {K : PySem.W.Frag} {mg : Str → Option Value} {base : Heap} {f : Addr} {fd : FuncData} {cF cR : Addr}
def spFAdd (K : PySem.W.Frag) (cF : Addr) : Sp := fun vs H Q _ => ∃ (p q : Addr) (n w : Nat) (b1 b2 : Int) (g1 g2 : Nat → Nat → Int), vs = [.ref p, .ref q] ∧ FormAt K H cF p n (mat n g1) b1 ∧ FormAt K H cF q n (mat n g2) b2 ∧ n ≤ 300 ∧ 0 < b1 ∧ 0 < b2 ∧ B w b1 ∧ B w b2 ∧ B 9000 (b1 * b2) ∧
  (∀ i j, i < n → j < n → B w (g1 i j) ∧ B w (g2 i j) ∧ g1 i j = g1 j i ∧ g2 i j = g2 j i) ∧ 0 < w ∧ w ≤ 100000 ∧ ∀ r H', Same H H' → FAt K H' cF r n (comb2 b2 b1 g1 g2) (b1 * b2) → Q (.ref r) H'
abbrev s_mAdd : Stmt := mth 28 3
abbrev N_mAdd : List Str := ["self", "other"]
theorem sc_mAdd : FnScope N_mAdd ["self", "other"] (defScope s_mAdd) := ⟨rfl, rfl, rfl, by decide +kernel, rfl, by decide +kernel, by decide +kernel⟩
theorem ok_mAdd (F : Fun K "__add__" "Form.__add__" s_mAdd f fd) (T : Txt mg) (O : Obs K cF cR) (C_check_sizes : Cal P w K mg base 1 "check_sizes" ["one", "two"] (spSizes K cF)) (C_combined_entries : Cal P w K mg base 1 "combined_entries" ["one", "first", "two", "second"] (spComb K cF)) (C_Form : CalK P w K mg base 4 "Form" cF 1 ["bottom"] (spForm K cF)) : FnOk P w K mg base CX0 6 f fd ["self", "other"] (spFAdd K cF) := by
  refine F.ok sc_mAdd (fun vs H Q E h => ?_) (fun cdv A outer s H vs Q E hr h => ?_)
  · obtain ⟨p, q, n, w, b1, b2, g1, g2, rfl, _⟩ := h
    rfl
  obtain ⟨p, q, n, w, b1, b2, g1, g2, rfl, f1, f2, hn, hb1, hb2, hB1, hB2, hBB, hg, hw0, hw, qq⟩ := h
  refine ⟨_, (pss_cons (ps_expr (pe_cal C_check_sizes (hr.mono (by omega)) rfl (pa_cons (pv 0) (pa_cons (pv 1) pa_nil))))
  (pss_one (ps_ret (pe_calK C_Form (hr.mono (by omega)) rfl (pa_cons (pe_cal C_combined_entries (hr.mono (by omega)) rfl (pa_cons (pv 0) (pa_cons (pe_fld (pv 1) rfl) (pa_cons (pv 1) (pa_cons (pe_fld (pv 0) rfl) pa_nil))))) pa_nil) (pk_cons (pe_op op_mulW (pe_fld (pv 0) rfl) (pe_fld (pv 1) rfl)) pk_nil))))), ?_⟩
  obtain ⟨d1, e1, h1, z1⟩ := id f1
  obtain ⟨d2, e2, h2, z2⟩ := id f2
  refine ⟨_, rfl, _, rfl, p, q, n, _, _, b1, b2, rfl, f1, f2, ?_⟩
  refine ⟨_, rfl, _, rfl, q, cF, d2, _, _, rfl, h2, O.clF, O.F_bottom, rfl, _, rfl, _, rfl, p, cF, d1, _, _, rfl, h1, O.clF, O.F_bottom, rfl, p, q, n, w, b2, b1, b1, b2, g1, g2, rfl, f1, f2, hn, hB2, hB1, fun i j hi hj => ⟨(hg i j hi hj).1, (hg i j hi hj).2.1⟩, hw0, hw, fun r H1 s1 tab => ?_⟩
  refine ⟨_, rfl, p, cF, d1, _, _, rfl, s1 _ _ h1, O.clF, O.F_bottom, rfl, _, rfl, q, cF, d2, _, _, rfl, s1 _ _ h2, O.clF, O.F_bottom, rfl, _, _, rfl, rfl, wmul hB1 hB2 hw0 hw0 (by omega), rfl, rfl, fun x dx2 hx hdx hne => ?_⟩
  refine ⟨x, dx2, .ref r, mat n (comb2 b2 b1 g1 g2), b1 * b2, rfl, upd_same, tab.sn.same (two_new hx hdx), mat_sqr, mat_sym (fun i j hi hj => ?_), by rw [mat_len]; exact hn, Int.mul_pos hb1 hb2, hBB, fun H3 hF hbut => ⟨rfl, ?_⟩⟩
  · unfold comb2
    rw [(hg i j hi hj).2.2.1, (hg i j hi hj).2.2.2]
  · rw [mat_len, dm_mat] at hF
    exact qq x H3 (s1.trans (made_same hx hdx hbut)) hF
end
end P01
namespace P01
open PySem PySem.Spec PyProof.Rows L2 SX EX WK
section
variable {P : Program} {w : World} {K : PySem.W.Frag} {mg : Str → Option Value} {base : Heap} {f : Addr} {fd : FuncData} {cF cR : Addr}
def spFScaled (K : PySem.W.Frag) (cF : Addr) : Sp := fun vs H Q _ => ∃ (p a : Addr) (n w : Nat) (b t d : Int) (g : Nat → Nat → Int), vs = [.ref p, .ref a] ∧ FormAt K H cF p n (mat n g) b ∧ SqT K H a [.int t, .int d] ∧ n ≤ 300 ∧ 0 < b ∧ 0 < d ∧ B w b ∧ B w d ∧ B w t ∧ B 9000 (b * d) ∧
  (∀ i j, i < n → j < n → B w (g i j) ∧ g i j = g j i) ∧ 0 < w ∧ w ≤ 100000 ∧ ∀ r H', Same H H' → FAt K H' cF r n (fun i j => t * g i j) (b * d) → Q (.ref r) H'
abbrev s_mScaled : Stmt := mth 28 10
abbrev N_mScaled : List Str := ["self", "factor", "top", "divisor", "line", "entry"]
theorem sc_mScaled : FnScope N_mScaled ["self", "factor"] (defScope s_mScaled) := ⟨rfl, rfl, rfl, by decide +kernel, rfl, by decide +kernel, by decide +kernel⟩
theorem ok_mScaled (F : Fun K "scaled" "Form.scaled" s_mScaled f fd) (T : Txt mg) (O : Obs K cF cR) (C_Form : CalK P w K mg base 4 "Form" cF 1 ["bottom"] (spForm K cF)) : FnOk P w K mg base CX0 6 f fd ["self", "factor"] (spFScaled K cF) := by
  refine F.ok sc_mScaled (fun vs H Q E h => ?_) (fun cdv A outer s H vs Q E hr h => ?_)
  · obtain ⟨p, a, n, w, b, t, d, g, rfl, _⟩ := h
    rfl
  obtain ⟨p, a, n, w, b, t, d, g, rfl, f1, ha, hn, hb, hd, hB, hBd, hBt, hBB, hg, hw0, hw, qq⟩ := h
  refine ⟨_, (pss_cons (ps_asg (pv 1) (pg_tup rfl (pgs_cons (pg_name (i := 2) sc_mScaled.nd rfl (Or.inr rfl)) (pgs_cons (pg_name (i := 3) sc_mScaled.nd rfl (Or.inl rfl)) pgs_nil))))
  (pss_one (ps_ret (pe_calK C_Form (hr.mono (by omega)) rfl (pa_cons (pe_lc (own := [("line", 4)]) (g := gName 4) (tt := tYes) (by rfl) sc_mScaled.nd (pi_tup (pe_fld (pv 0) rfl)) (blkOk_by (N := N_mScaled) (sc := defScope s_mScaled) (by decide +kernel)) (fun _ _ _ _ _ => (pg_name (i := 4) sc_mScaled.nd rfl (Or.inl rfl))) (fun _ _ _ _ _ => pts_nil) (fun _ _ _ _ _ => (pe_lc (own := [("entry", 5)]) (g := gName 5) (tt := tYes) (by rfl) sc_mScaled.nd (pi_tupK (K := K) rfl (pv 4)) (blk_nest (N := N_mScaled) (sc0 := defScope s_mScaled) rfl (by decide +kernel)) (fun _ _ _ _ _ => (pg_name (i := 5) sc_mScaled.nd rfl (Or.inl rfl))) (fun _ _ _ _ _ => pts_nil) (fun _ _ _ _ _ => (pe_op op_mulW (pv 2) (pv 5)))))) pa_nil) (pk_cons (pe_op op_mulW (pe_fld (pv 0) rfl) (pv 3)) pk_nil))))), ?_⟩
  obtain ⟨d1, e1, h1, z1⟩ := id f1
  obtain ⟨a1, us1, c1, t1, l1, r1⟩ := fz_mat z1
  cases c1
  rw [mat_len] at l1
  refine ⟨_, rfl, a, _, rfl, ha, rfl, _, _, rfl, _, _, rfl, rfl, ?_⟩
  refine ⟨_, rfl, p, cF, d1, _, _, rfl, h1, O.clF, O.F_entries, rfl, e1, rfl, ⟨_, t1⟩, fun D hD => ?_⟩
  refine lc_gm (walk_tup (K := K) (a := e1) (xs := us1)) (RL D) stb_RL (List.range n) (by rw [List.length_range]; exact l1) (by rw [List.length_range]; omega) hD (fun H' s => Same_seqT s t1) (fun _ _ _ _ => ys_at) (fun i => vec n fun j => t * g i j) (fun c i x H1 H2 hc s1 s2 y hdl A B hA => ?_) (fun H' l s1 hl1 rs => ?_)
  · obtain ⟨hc1, rfl⟩ := in_range hc
    obtain ⟨q, f3, s3⟩ := r1 i _ (mat_at hc1)
    have e := y.2
    rw [f3] at e
    cases e
    refine ⟨rfl, lc_yes ⟨_, rfl, q, rfl, ⟨_, Same_seqT s2 s3⟩, fun D2 hD2 => ?_⟩⟩
    refine lc_m (walk_tup (K := K) (a := q) (xs := (vec n (g i)).map V.int)) RI (stb_RI (K := K)) (List.range n) (by rw [vec_lenV, List.length_range]) (by rw [List.length_range]; omega) hD2 (fun H' s => Same_seqT s (Same_seqT s2 s3)) (fun _ _ _ _ => ys_at) (fun j => t * g i j) (fun c j v H3 H4 hc s4 s5 yl A2 B2 hA2 => ?_) (fun H3 l3 s4 hl3 rz => ?_)
    · obtain ⟨hc2, rfl⟩ := in_range hc
      have e := yl.2
      rw [vecV_at hc2] at e
      cases e
      exact ⟨rfl, lc_yes ⟨_, rfl, _, rfl, _, _, rfl, rfl, wmul hBt (hg i j hc1 hc2).1 hw0 hw0 (by omega), hA2 _ _ (fun _ _ h => h) rfl⟩⟩
    · refine hA _ _ s4 ⟨D2, rfl, fun z => ?_, by rw [hl3, rz.ints]; rfl⟩
      obtain ⟨l, hl⟩ := hdl
      rw [z, hl] at hD2
      cases hD2
  · have tab : LTab H' D n (fun i j => t * g i j) := LTab.of hl1 rs
    refine ⟨_, rfl, p, cF, d1, _, _, rfl, s1 _ _ h1, O.clF, O.F_bottom, rfl, _, rfl, _, _, rfl, rfl, wmul hB hBd hw0 hw0 (by omega), rfl, rfl, fun x dx2 hx hdx hne => ?_⟩
    refine ⟨x, dx2, .ref D, mat n (fun i j => t * g i j), b * d, rfl, upd_same, tab.sn.same (two_new hx hdx), mat_sqr, mat_sym (fun i j hi hj => ?_), by rw [mat_len]; exact hn, Int.mul_pos hb hd, hBB, fun H3 hF hbut => ⟨rfl, ?_⟩⟩
    · show t * g i j = t * g j i
      rw [(hg i j hi hj).2]
    · rw [mat_len, dm_mat] at hF
      exact qq x H3 (s1.trans (made_same hx hdx hbut)) hF
end
end P01
namespace P01
open PySem PySem.Spec PyProof.Rows L2 SX EX WK
/-- the names of the classes -/
structure Gls (mg : Str → Option Value) (cF cR : Addr) : Prop where
  g_Form : mg "Form" = some (.ref cF)
  g_Judgement : mg "Judgement" = some (.ref cR)
/-- what an object of a class is -/
structure Frm (K : PySem.W.Frag) (cF cR : Addr) : Prop where
  kF : PySem.W.kitOne K (.ref cF) (.ref cF) = some true
  kR : PySem.W.kitOne K (.ref cR) (.ref cR) = some true
  f1 : PySem.W.findIn K (.ref cF) "__class__" = some (some (.builtin "object.__class__"))
  r1 : PySem.W.findIn K (.ref cR) "__class__" = some (some (.builtin "object.__class__"))
  c2 : PySem.W.specialIn K (.builtin "object.__class__") "__get__" = some (some (.builtin "getset_descriptor.__get__"))
  c3 : PySem.W.takesIn K (.builtin "object.__class__") = some true
  f4 : PySem.W.mroIn K cF (.type "object") = some true
  r4 : PySem.W.mroIn K cR (.type "object") = some true
theorem isJudg {K : PySem.W.Frag} {cF cR : Addr} (U : Frm K cF cR) (cl : Cls K cR) {H : Hp} {p dx : Addr} {l : List (Str × V)} (h : H p = some (.ins cR dx l)) : TyX K H (.ref p) (.ref cR) := .base (.ins h cl U.r1 U.c2 U.c3 U.r4)
theorem isForm {K : PySem.W.Frag} {cF cR : Addr} (U : Frm K cF cR) (cl : Cls K cF) {H : Hp} {p dx : Addr} {l : List (Str × V)} (h : H p = some (.ins cF dx l)) : TyX K H (.ref p) (.ref cF) := .base (.ins h cl U.f1 U.c2 U.c3 U.f4)
/-! ### data -/
mutual
theorem td_lay : ∀ t : Td, t.py.canLay0 = true
  | .int i => by simp [Td.py, PyData.canLay0]
  | .tup ts => by
    rw [Td.py, PyData.canLay0]
    exact td_lays ts
theorem td_lays : ∀ ts : List Td, PyData.canLayAll0 (Td.pys ts) = true
  | [] => rfl
  | t :: ts => by
    rw [Td.pys, PyData.canLayAll0, td_lay t, td_lays ts]
    rfl
end
mutual
theorem td_dep : ∀ t : Td, t.py.depth ≤ t.dep
  | .int i => by simp [Td.py, PyData.depth]
  | .tup ts => by
    have h := td_deps ts
    simp only [Td.py, PyData.depth, Td.dep]
    omega
theorem td_deps : ∀ ts : List Td, PyData.depthAll (Td.pys ts) ≤ Td.deps ts
  | [] => Nat.zero_le _
  | t :: ts => by
    have h1 := td_dep t
    have h2 := td_deps ts
    simp only [Td.pys, PyData.depthAll, Td.deps]
    omega
end
theorem td_shaped {t : Td} (h : t.dep ≤ 64) : SeqAt.shaped t.py = true := by
  unfold SeqAt.shaped
  rw [td_lay t, decide_eq_true (Nat.le_trans (td_dep t) h)]
  rfl
theorem eqv_self {d : PyData} (h : SeqAt.shaped d = true) : PyData.eqv d d = true := SeqAt.eqv_refl _ (SeqAt.canLay_of_shaped h)
mutual
theorem td_eqv : ∀ t u : Td, (PyData.eqv t.py u.py = true ↔ t = u)
  | .int i, .int j => by
    simp only [Td.py, PyData.eqv, beq_iff_eq, Td.int.injEq]
  | .int i, .tup us => by simp [Td.py, PyData.eqv]
  | .tup ts, .int j => by simp [Td.py, PyData.eqv]
  | .tup ts, .tup us => by
    rw [Td.py, Td.py, PyData.eqv, td_eqvs ts us, Td.tup.injEq]
theorem td_eqvs : ∀ ts us : List Td, (PyData.eqvAll (Td.pys ts) (Td.pys us) = true ↔ ts = us)
  | [], [] => by simp [Td.pys, PyData.eqvAll]
  | [], u :: us => by simp [Td.pys, PyData.eqvAll]
  | t :: ts, [] => by simp [Td.pys, PyData.eqvAll]
  | t :: ts, u :: us => by
    rw [Td.pys, Td.pys, PyData.eqvAll, Bool.and_eq_true, td_eqv t u, td_eqvs ts us, List.cons.injEq]
end
theorem ints_inj : ∀ {a b : List Int}, a.map Td.int = b.map Td.int → a = b
  | [], [], _ => rfl
  | [], _ :: _, h => by cases h
  | _ :: _, [], h => by cases h
  | x :: a, y :: b, h => by
    simp only [List.map_cons, List.cons.injEq] at h
    rw [Td.int.inj h.1, ints_inj h.2]
theorem rows_inj : ∀ {a b : List (List Int)}, (a.map fun r => Td.tup (r.map Td.int)) = (b.map fun r => Td.tup (r.map Td.int)) → a = b
  | [], [], _ => rfl
  | [], _ :: _, h => by cases h
  | _ :: _, [], h => by cases h
  | x :: a, y :: b, h => by
    simp only [List.map_cons, List.cons.injEq] at h
    rw [ints_inj (Td.tup.inj h.1), rows_inj h.2]
theorem mat_eqv (a b : List (List Int)) : PyData.eqv (tdm a).py (tdm b).py = decide (a = b) := by
  rw [Bool.eq_iff_iff, td_eqv, decide_eq_true_iff]
  exact ⟨fun h => rows_inj (Td.tup.inj h), fun h => by rw [h]⟩
section
variable {P : Program} {w : World} {K : PySem.W.Frag} {mg : Str → Option Value} {base : Heap} {f : Addr} {fd : FuncData} {cF cR : Addr}
def spFEq (K : PySem.W.Frag) (cF : Addr) : Sp := fun vs H Q _ => ∃ (p q : Addr) (n n2 : Nat) (m1 m2 : List (List Int)) (b c : Int), vs = [.ref p, .ref q] ∧ FormAt K H cF p n m1 b ∧ FormAt K H cF q n2 m2 c ∧ Q (.bl (decide (m1 = m2 ∧ b = c))) H
abbrev s_mEq : Stmt := mth 28 5
abbrev N_mEq : List Str := ["self", "other"]
theorem sc_mEq : FnScope N_mEq ["self", "other"] (defScope s_mEq) := ⟨rfl, rfl, rfl, by decide +kernel, rfl, by decide +kernel, by decide +kernel⟩
theorem ok_mEq (F : Fun K "__eq__" "Form.__eq__" s_mEq f fd) (T : Txt mg) (U : Gls mg cF cR) (O : Obs K cF cR) (V0 : Frm K cF cR) : FnOk P w K mg base CX0 1 f fd ["self", "other"] (spFEq K cF) := by
  refine F.ok sc_mEq (fun vs H Q E h => ?_) (fun cdv A outer s H vs Q E hr h => ?_)
  · obtain ⟨p, q, n, n2, m1, m2, b, c, rfl, _⟩ := h
    rfl
  obtain ⟨p, q, n, n2, m1, m2, b, c, rfl, ⟨dx, e1, h1, z1⟩, ⟨dy, e2, h2, z2⟩, qq⟩ := h
  refine ⟨_, (pss_one (ps_ret (pe_and (pe_callB call_isi (by rfl) T.b_isinstance (by decide +kernel) (pa_cons (pv 1) (pa_cons (pe_glob (v := .ref _) rfl U.g_Form rfl) pa_nil))) (pe_and (pe_cmpR (op_eqD hr.units) (pe_fld (pv 0) rfl) (pe_fld (pv 1) rfl) (nomark _)) (pe_one (pe_cmpR op_eq (pe_fld (pv 0) rfl) (pe_fld (pv 1) rfl) (nomark _))))))), ?_⟩
  refine ⟨_, rfl, _, _, _, _, true, rfl, .own _, isForm V0 O.clF h2, V0.kF, true, rfl, ifT rfl ?_⟩
  have hd : ∀ m : List (List Int), (tdm m).dep ≤ 64 := fun m => Nat.le_trans dep_tdm (by omega)
  refine ⟨_, rfl, p, cF, dx, _, _, rfl, h1, O.clF, O.F_entries, rfl, _, rfl, q, cF, dy, _, _, rfl, h2, O.clF, O.F_entries, rfl, _, _, z1.dp, z2.dp, td_shaped (hd m1), td_shaped (hd m2), _, rfl, ?_⟩
  rw [mat_eqv]
  by_cases hp : m1 = m2
  · refine ifT (decide_eq_true hp) ?_
    refine ⟨_, rfl, p, cF, dx, _, _, rfl, h1, O.clF, O.F_bottom, rfl, _, rfl, q, cF, dy, _, _, rfl, h2, O.clF, O.F_bottom, rfl, rfl, ?_⟩
    have e3 : decide (V.int b = V.int c) = decide (m1 = m2 ∧ b = c) := by
      rw [Bool.eq_iff_iff, decide_eq_true_iff, decide_eq_true_iff]
      exact ⟨fun e => ⟨hp, V.int.inj e⟩, fun e => by rw [e.2]⟩
    rw [e3]
    exact qq
  · refine ifF (decide_eq_false hp) ?_
    rw [decide_eq_false (fun e => hp e.1)] at qq
    exact qq
end
end P01
namespace P01
open PySem PySem.Spec PyProof.Rows L2 SX EX WK
/-- a class without its keyword, by a local name: the bottom is 1 -/
def CalL (P : Program) (w : World) (K : PySem.W.Frag) (mg : Str → Option Value) (base : Heap) (k : Nat) (C : Addr) (n : Nat) (sp : Sp) : Prop :=
  ∃ (f : Addr) (fd : FuncData) (ps : List Str) (g : List Value → List Value → List Value), Mk K C f ∧ FnOk P w K mg base CX0 k f fd ps sp ∧ KBn K fd ps (n + 1) [] g (fun vs _ => vs ++ [.int 1])
def tMakeL (i : Nat) (C : Addr) (n : Nat) (sp : Sp) (t : TA) : TE := fun σ H Q => σ[i]? = some (some (.ref C)) ∧ tMakeK C n 0 sp (fun vs _ => vs ++ [.int 1]) E0 t tNil σ H Q
theorem pe_calL {X : Cx} {k n i : Nat} {C : Addr} {x : Str} {sp : Sp} {p pos : Pos} {e : Expr} {es : List Expr} {t : TA} (M : CalL X.prog X.w X.K X.mg X.base k C n sp) (hr : Room (k + 1) X.A) (hN : X.N[i]? = some x) (hv : Vis X.env.scope x) (ha : PA X (e :: es) t)
    (hdb : (x == ("__debug__" : Str)) = false := by decide) (hcd : (x == ("__classdict__" : Str)) = false := by decide)
    (hall : (backToKw pos (keywordEach [] X.env)).all (·.1.isSome) = true := by rfl) (hks : (backToKw pos (keywordEach [] X.env)).filterMap (·.1) = [] := by rfl)
    (he : starEach (e :: es) X.env = (false, eval e X.env) :: starEach es X.env := by rfl) (hpl : ((backTo pos (starEach (e :: es) X.env)).any (·.1) || (backToKw pos (keywordEach [] X.env)).any (·.1.isNone)) = false := by rfl) :
    PE X (.Call (.Name x p) (e :: es) [] pos) (tMakeL i C n sp t) := by
  obtain ⟨f, fd, ps, g, M, F, hb⟩ := M
  refine ⟨fun pins s σ H Q I h => ?_⟩
  obtain ⟨hs, ht⟩ := h
  refine wpAny_Call_Name_kw (thn ((pe_var (pos := p) hN hv hdb hcd).run pins s σ H (fun v H1 => v = .ref C ∧ H1 = H) I ⟨.ref C, hs, rfl, rfl⟩) fun u s1 ⟨v, H1, I1, r1, q1⟩ => ?_)
  obtain ⟨rfl, rfl⟩ := q1
  cases r1
  refine PySem.W.callWith_KW (h₀ := X.base) I1.ok.mod.kin M.kp hall (thn (ha.run pos pins s1 σ _ _ I1 ht) fun us s2 ⟨vs, H2, I2, r, q⟩ => ?_) hpl he
  refine thn (pk_nil.run pos pins s2 σ H2 _ I2 q) fun ws s3 ⟨zs, H3, I3, rz, l1, l2, q2⟩ => ⟨I3.kIn, ?_⟩
  rw [hks]
  exact run_makeK M F hr hb pass0 I3 r rz l1 l2 q2
end P01
namespace P01
open PySem PySem.Spec PyProof.Rows L2 SX EX WK
section
variable {P : Program} {w : World} {K : PySem.W.Frag} {mg : Str → Option Value} {base : Heap} {f : Addr} {fd : FuncData} {cF cR : Addr}
def spZero (K : PySem.W.Frag) (cF : Addr) : Sp := fun vs H Q _ => ∃ (n : Nat), vs = [.ref cF, .int n] ∧ n ≤ 300 ∧ ∀ r H', Same H H' → FAt K H' cF r n (fun _ _ => 0) 1 → Q (.ref r) H'
abbrev s_mZero : Stmt := mth 28 1
abbrev N_mZero : List Str := ["cls", "size", "row", "column"]
theorem sc_mZero : FnScope N_mZero ["cls", "size"] (defScope s_mZero) := ⟨rfl, rfl, rfl, by decide +kernel, rfl, by decide +kernel, by decide +kernel⟩
theorem ok_mZero (F : Fun K "zero" "Form.zero" s_mZero f fd) (T : Txt mg) (O : Obs K cF cR) (C_cls : CalL P w K mg base 4 cF 1 (spForm K cF)) : FnOk P w K mg base CX0 6 f fd ["cls", "size"] (spZero K cF) := by
  refine F.ok sc_mZero (fun vs H Q E h => ?_) (fun cdv A outer s H vs Q E hr h => ?_)
  · obtain ⟨n, rfl, _⟩ := h
    rfl
  obtain ⟨n, rfl, hn, qq⟩ := h
  refine ⟨_, (pss_one (ps_ret (pe_calL C_cls (i := 0) (hr.mono (by omega)) rfl (Or.inl rfl) (pa_cons (pe_lc (own := [("row", 2)]) (g := gName 2) (tt := tYes) (by rfl) sc_mZero.nd (pi_range1 (by rfl) T.b_range (pa_cons (pv 1) pa_nil)) (blkOk_by (N := N_mZero) (sc := defScope s_mZero) (by decide +kernel)) (fun _ _ _ _ _ => (pg_name (i := 2) sc_mZero.nd rfl (Or.inl rfl))) (fun _ _ _ _ _ => pts_nil) (fun _ _ _ _ _ => (pe_lc (own := [("column", 3)]) (g := gName 3) (tt := tYes) (by rfl) sc_mZero.nd (pi_range1 (by rfl) T.b_range (pa_cons (pv 1) pa_nil)) (blk_nest (N := N_mZero) (sc0 := defScope s_mZero) rfl (by decide +kernel)) (fun _ _ _ _ _ => (pg_name (i := 3) sc_mZero.nd rfl (Or.inl rfl))) (fun _ _ _ _ _ => pts_nil) (fun _ _ _ _ _ => pe_int)))) pa_nil)))), ?_⟩
  refine ⟨rfl, ?_⟩
  refine ⟨_, rfl, (n : Int), rfl, by omega, by omega, fun D hD => ?_⟩
  refine lc_gm (walk_range (lo := 0) (n := n)) (RL D) stb_RL (List.range n) (by rw [List.length_range]) (by rw [List.length_range]; omega) hD (fun _ _ => trivial) (fun _ _ _ _ => ys_fn) (fun _ => vec n fun _ => 0) (fun c i x H1 H2 hc s1 s2 y hdl A B hA => ?_) (fun H' l s1 hl1 rs => ?_)
  · refine ⟨rfl, lc_yes ⟨_, rfl, (n : Int), rfl, by omega, by omega, fun D2 hD2 => ?_⟩⟩
    refine lc_m (walk_range (lo := 0) (n := n)) RI (stb_RI (K := K)) (List.range n) (by rw [List.length_range]) (by rw [List.length_range]; omega) hD2 (fun _ _ => trivial) (fun _ _ _ _ => ys_fn) (fun _ => (0 : Int)) (fun c j v H3 H4 hc s4 s5 yl A2 B2 hA2 => ?_) (fun H3 l3 s4 hl3 rz => ?_)
    · exact ⟨rfl, lc_yes (hA2 _ _ (fun _ _ h => h) rfl)⟩
    · refine hA _ _ s4 ⟨D2, rfl, fun z => ?_, by rw [hl3, rz.ints]; rfl⟩
      obtain ⟨l, hl⟩ := hdl
      rw [z, hl] at hD2
      cases hD2
  · have tab : LTab H' D n (fun _ _ => 0) := LTab.of hl1 rs
    refine ⟨rfl, rfl, fun x dx2 hx hdx hne => ?_⟩
    refine ⟨x, dx2, .ref D, mat n (fun _ _ => 0), 1, rfl, upd_same, tab.sn.same (two_new hx hdx), mat_sqr, mat_sym (fun i j hi hj => rfl), by rw [mat_len]; exact hn, by decide, (by decide : (1 : Int).natAbs < 2 ^ 9000), fun H3 hF hbut => ⟨rfl, ?_⟩⟩
    rw [mat_len, dm_mat] at hF
    exact qq x H3 (s1.trans (made_same hx hdx hbut)) hF
end
end P01
namespace P01
open PySem PySem.Spec PyProof.Rows L2 SX EX WK
section
variable {P : Program} {w : World} {K : PySem.W.Frag} {mg : Str → Option Value} {base : Heap} {f : Addr} {fd : FuncData} {cF cR : Addr}
def spSq1 (K : PySem.W.Frag) (cF : Addr) : Sp := fun vs H Q _ => ∃ (a : Addr) (k : Bool) (n w : Nat) (x : Nat → Int), vs = [.ref cF, .ref a] ∧ WZ.Sq k K H a ((vec n x).map V.int) ∧ n ≤ 300 ∧ (∀ i, i < n → B w (x i)) ∧ 0 < w ∧ w ≤ 100000 ∧ ∀ r H', Same H H' → FAt K H' cF r n (fun i j => x i * x j) 1 → Q (.ref r) H'
abbrev s_mSquare : Stmt := mth 28 2
abbrev N_mSquare : List Str := ["cls", "row", "number", "other"]
theorem sc_mSquare : FnScope N_mSquare ["cls", "row"] (defScope s_mSquare) := ⟨rfl, rfl, rfl, by decide +kernel, rfl, by decide +kernel, by decide +kernel⟩
theorem ok_mSquare (F : Fun K "square" "Form.square" s_mSquare f fd) (T : Txt mg) (O : Obs K cF cR) (C_cls : CalL P w K mg base 4 cF 1 (spForm K cF)) : FnOk P w K mg base CX0 6 f fd ["cls", "row"] (spSq1 K cF) := by
  refine F.ok sc_mSquare (fun vs H Q E h => ?_) (fun cdv A outer s H vs Q E hr h => ?_)
  · obtain ⟨a, k, n, w, x, rfl, _⟩ := h
    rfl
  obtain ⟨a, k, n, w, x, rfl, ha, hn, hx, hw0, hw, qq⟩ := h
  refine ⟨_, (pss_one (ps_ret (pe_calL C_cls (i := 0) (hr.mono (by omega)) rfl (Or.inl rfl) (pa_cons (pe_lc (own := [("number", 2)]) (g := gName 2) (tt := tYes) (by rfl) sc_mSquare.nd (pi_or (pi_list (pv 1)) (pi_tup (pv 1))) (blkOk_by (N := N_mSquare) (sc := defScope s_mSquare) (by decide +kernel)) (fun _ _ _ _ _ => (pg_name (i := 2) sc_mSquare.nd rfl (Or.inr rfl))) (fun _ _ _ _ _ => pts_nil) (fun _ _ _ _ _ => (pe_lc (own := [("other", 3)]) (g := gName 3) (tt := tYes) (by rfl) sc_mSquare.nd (pi_or (pi_listK (K := K) rfl (pv 1)) (pi_tupK (K := K) rfl (pv 1))) (blk_nest (N := N_mSquare) (sc0 := defScope s_mSquare) rfl (by decide +kernel)) (fun _ _ _ _ _ => (pg_name (i := 3) sc_mSquare.nd rfl (Or.inl rfl))) (fun _ _ _ _ _ => pts_nil) (fun _ _ _ _ _ => (pe_op op_mulW (pv 2) (pv 3)))))) pa_nil)))), ?_⟩
  refine ⟨rfl, ?_⟩
  rcases k with _ | _
  · refine .inr ⟨_, rfl, a, rfl, ⟨_, ha⟩, fun D hD => ?_⟩
    refine lc_gm (walk_tup (K := K) (a := a) (xs := (vec n x).map V.int)) (RL D) stb_RL (List.range n) (by rw [vec_lenV, List.length_range]) (by rw [List.length_range]; omega) hD (fun H' s => Same_seqT s ha) (fun _ _ _ _ => ys_at) (fun i => vec n fun j => x i * x j) (fun c i v H1 H2 hc s1 s2 y hdl A B hA => ?_) (fun H' l s1 hl1 rs => ?_)
    · obtain ⟨hc1, rfl⟩ := in_range hc
      have e := y.2
      rw [vecV_at hc1] at e
      cases e
      refine ⟨rfl, lc_yes (.inr ⟨_, rfl, a, rfl, ⟨_, Same_seqT s2 ha⟩, fun D2 hD2 => ?_⟩)⟩
      refine lc_m (walk_tup (K := K) (a := a) (xs := (vec n x).map V.int)) RI (stb_RI (K := K)) (List.range n) (by rw [vec_lenV, List.length_range]) (by rw [List.length_range]; omega) hD2 (fun H' s => Same_seqT s (Same_seqT s2 ha)) (fun _ _ _ _ => ys_at) (fun j => x i * x j) (fun c j v H3 H4 hc s4 s5 yl A2 B2 hA2 => ?_) (fun H3 l3 s4 hl3 rz => ?_)
      · obtain ⟨hc2, rfl⟩ := in_range hc
        have e := yl.2
        rw [vecV_at hc2] at e
        cases e
        exact ⟨rfl, lc_yes ⟨_, rfl, _, rfl, _, _, rfl, rfl, wmul (hx i hc1) (hx j hc2) hw0 hw0 (by omega), hA2 _ _ (fun _ _ h => h) rfl⟩⟩
      · refine hA _ _ s4 ⟨D2, rfl, fun z => ?_, by rw [hl3, rz.ints]; rfl⟩
        obtain ⟨l, hl⟩ := hdl
        rw [z, hl] at hD2
        cases hD2
    · have tab : LTab H' D n (fun i j => x i * x j) := LTab.of hl1 rs
      refine ⟨rfl, rfl, fun z dx2 hz hdx hne => ?_⟩
      refine ⟨z, dx2, .ref D, mat n (fun i j => x i * x j), 1, rfl, upd_same, tab.sn.same (two_new hz hdx), mat_sqr, mat_sym (fun i j hi hj => Int.mul_comm _ _), by rw [mat_len]; exact hn, by decide, (by decide : (1 : Int).natAbs < 2 ^ 9000), fun H3 hF hbut => ⟨rfl, ?_⟩⟩
      rw [mat_len, dm_mat] at hF
      exact qq z H3 (s1.trans (made_same hz hdx hbut)) hF
  · refine .inl ⟨_, rfl, a, rfl, ⟨_, ha⟩, fun D hD => ?_⟩
    refine lc_gm (walk_list (K := K) (a := a) (xs := (vec n x).map V.int)) (RL D) stb_RL (List.range n) (by rw [vec_lenV, List.length_range]) (by rw [List.length_range]; omega) hD (fun H' s => s.seq ha) (fun _ _ _ _ => ys_at) (fun i => vec n fun j => x i * x j) (fun c i v H1 H2 hc s1 s2 y hdl A B hA => ?_) (fun H' l s1 hl1 rs => ?_)
    · obtain ⟨hc1, rfl⟩ := in_range hc
      have e := y.2
      rw [vecV_at hc1] at e
      cases e
      refine ⟨rfl, lc_yes (.inl ⟨_, rfl, a, rfl, ⟨_, s2.seq ha⟩, fun D2 hD2 => ?_⟩)⟩
      refine lc_m (walk_list (K := K) (a := a) (xs := (vec n x).map V.int)) RI (stb_RI (K := K)) (List.range n) (by rw [vec_lenV, List.length_range]) (by rw [List.length_range]; omega) hD2 (fun H' s => s.seq (s2.seq ha)) (fun _ _ _ _ => ys_at) (fun j => x i * x j) (fun c j v H3 H4 hc s4 s5 yl A2 B2 hA2 => ?_) (fun H3 l3 s4 hl3 rz => ?_)
      · obtain ⟨hc2, rfl⟩ := in_range hc
        have e := yl.2
        rw [vecV_at hc2] at e
        cases e
        exact ⟨rfl, lc_yes ⟨_, rfl, _, rfl, _, _, rfl, rfl, wmul (hx i hc1) (hx j hc2) hw0 hw0 (by omega), hA2 _ _ (fun _ _ h => h) rfl⟩⟩
      · refine hA _ _ s4 ⟨D2, rfl, fun z => ?_, by rw [hl3, rz.ints]; rfl⟩
        obtain ⟨l, hl⟩ := hdl
        rw [z, hl] at hD2
        cases hD2
    · have tab : LTab H' D n (fun i j => x i * x j) := LTab.of hl1 rs
      refine ⟨rfl, rfl, fun z dx2 hz hdx hne => ?_⟩
      refine ⟨z, dx2, .ref D, mat n (fun i j => x i * x j), 1, rfl, upd_same, tab.sn.same (two_new hz hdx), mat_sqr, mat_sym (fun i j hi hj => Int.mul_comm _ _), by rw [mat_len]; exact hn, by decide, (by decide : (1 : Int).natAbs < 2 ^ 9000), fun H3 hF hbut => ⟨rfl, ?_⟩⟩
      rw [mat_len, dm_mat] at hF
      exact qq z H3 (s1.trans (made_same hz hdx hbut)) hF
end
end P01
namespace P01
open PySem PySem.Spec PyProof.Rows L2 SX EX WK
theorem S_sm (n : Nat) (f : Nat → Int) : S n f = El.sm n f := by
  induction n with
  | zero => rfl
  | succ n ih => rw [S_succ, ih]; rfl
theorem S_Q {n : Nat} {M : Nat → Nat → Int} {x : Nat → Int} : (S n fun i => x i * S n fun j => M i j * x j) = El.Q n M x := by
  rw [S_sm]
  refine El.sm_congr fun i _ => ?_
  rw [S_sm, ← El.sm_mul]
  refine El.sm_congr fun j _ => ?_
  grind
section
variable {P : Program} {w : World} {K : PySem.W.Frag} {mg : Str → Option Value} {base : Heap} {f : Addr} {fd : FuncData} {cF cR : Addr}
def spLawV (K : PySem.W.Frag) : Sp := fun vs H Q _ => ∃ (a p : Addr) (n : Nat) (M : Nat → Nat → Int) (x : Nat → Int), vs = [.ref a, .ref p, .ref p] ∧ LTab H a n M ∧ TV K H p n x ∧ n ≤ 1000 ∧ (∀ i j, i < n → j < n → B 9000 (M i j)) ∧ (∀ i, i < n → B 9000 (x i)) ∧ ∀ H', Same H H' → Q (.int (El.Q n M x)) H'
abbrev s__law_value : Stmt := top 40
abbrev N__law_value : List Str := ["table", "one", "two", "total", "i"]
theorem sc__law_value : FnScope N__law_value ["table", "one", "two"] (defScope s__law_value) := ⟨rfl, rfl, rfl, by decide +kernel, rfl, by decide +kernel, by decide +kernel⟩
theorem ok__law_value (F : Fun K "_law_value" "_law_value" s__law_value f fd) (T : Txt mg) (C__law_dot : Cal P w K mg base 1 "_law_dot" ["one", "two"] (spDot K)) : FnOk P w K mg base CX0 2 f fd ["table", "one", "two"] (spLawV K) := by
  refine F.ok sc__law_value (fun vs H Q E h => ?_) (fun cdv A outer s H vs Q E hr h => ?_)
  · obtain ⟨a, p, n, M, x, rfl, _⟩ := h
    rfl
  obtain ⟨a, p, n, M, x, rfl, ht, hp, hn, hM, hx, q⟩ := h
  refine ⟨_, (pss_cons (ps_set (i := 3) sc__law_value.nd rfl (Or.inl rfl) pe_int)
  (pss_cons (ps_for PassesOwn.never rfl (pi_range1 (by rfl) T.b_range (pa_cons (pe_callB call_len_seq (by rfl) T.b_len PySem.boot_len (pa_cons (pv 0) pa_nil)) pa_nil)) (pg_name (i := 4) sc__law_value.nd rfl (Or.inl rfl)) (pss_one (ps_if (pt_cmpR op_ne (pe_ix ix_tup (pv 1) (pv 4) (fun _ _ => rfl)) pe_int (nomark _)) (pss_one (ps_set (i := 3) sc__law_value.nd rfl (Or.inl rfl) (pe_op op_add (pv 3) (pe_op op_mulW (pe_ix ix_tup (pv 1) (pv 4) (fun _ _ => rfl)) (pe_cal C__law_dot (hr.mono (by omega)) rfl (pa_cons (pe_ix ix_list (pv 0) (pv 4) (fun _ _ => rfl)) (pa_cons (pv 2) pa_nil))))))) pss_nil)))
  (pss_one (ps_ret (pv 3))))), ?_⟩
  have ht' := ht
  obtain ⟨rs, ha, hl, row⟩ := ht'
  have hlen : (rs.map V.ref).length = n := by rw [List.length_map, hl]
  refine ⟨_, rfl, a, _, rfl, .inl (SqL.of ha), (n : Int), by rw [hlen], by omega, by omega, ?_⟩
  refine for_range (lo := 0) (n := n) (fun i σ H1 => ∃ v4 : Option V, σ = [some (.ref a), some (.ref p), some (.ref p), some (.int (S i fun i => x i * S n fun j => M i j * x j)), v4] ∧ Same H H1) ⟨none, rfl, fun _ _ h => h⟩ ?_ ?_
  · rintro i σ H1 hi ⟨v4, rfl, sH⟩
    have e0 : (0 + (i : Int)).toNat = i := by omega
    have hp1 : SqT K H1 p ((vec n x).map V.int) := Same_seqT sH hp
    refine ⟨_, rfl, _, rfl, p, _, _, _, rfl, rfl, hp1, at_pos (by omega) (by rw [e0]; exact vecV_at hi), rfl, _, rfl, ?_⟩
    by_cases c : x i = 0
    · refine ifF (ne_F c) ⟨some (.int (0 + (i : Int))), ?_, sH⟩
      rw [S_succ, c, Int.zero_mul, Int.add_zero]
      rfl
    · obtain ⟨r, h1, h2⟩ := row i hi
      refine ifT (ne_T c) ⟨_, rfl, _, rfl, _, rfl, p, _, _, _, rfl, rfl, hp1, at_pos (by omega) (by rw [e0]; exact vecV_at hi), ?_⟩
      refine ⟨_, rfl, _, rfl, a, _, _, _, rfl, rfl, SqL.of (sH _ _ ha), at_pos (by omega) (by rw [e0, List.getElem?_map, h1]; rfl), _, rfl, .ref r, .ref p, n, 9000, 9000, M i, x, rfl, .lst (sH _ _ h2) ((FzAll.of_ints _).sn), .tup hp1 ((FzAll.of_ints _).sn), hn, fun j hj => hM i j hi hj, hx, by decide, by decide, by decide, fun H2 s2 => ?_⟩
      refine ⟨_, _, rfl, rfl, wmul (hx i hi) (BS (k := 18000) (c := 10) (fun j hj => ?_) (by omega)) (by decide) (by decide) (by decide), _, _, rfl, rfl, some (.int (0 + (i : Int))), ?_, sH.trans s2⟩
      · exact (hM i j hi hj).mul (hx j hj)
      · rw [S_succ]
        rfl
  · rintro σ H1 ⟨v4, rfl, sH⟩
    refine ⟨_, rfl, ?_⟩
    rw [S_Q]
    exact q H1 sH
end
end P01
namespace P01
open PySem PySem.Spec PyProof.Rows L2 SX EX WK
section
variable {P : Program} {w : World} {K : PySem.W.Frag} {mg : Str → Option Value} {base : Heap} {f : Addr} {fd : FuncData} {cF cR : Addr}
def spShared (K : PySem.W.Frag) : Sp := fun vs H Q _ => ∃ (p : Addr) (n : Nat) (x : Nat → Int), vs = [.ref p] ∧ TV K H p n x ∧ n ≤ 1000 ∧ (∀ i, i < n → B 6500 (x i)) ∧ ∀ H', Same H H' → Q (.int (gf 0 (vec n x))) H'
abbrev s__law_shared : Stmt := top 42
abbrev N__law_shared : List Str := ["line", "shared", "number"]
theorem sc__law_shared : FnScope N__law_shared ["line"] (defScope s__law_shared) := ⟨rfl, rfl, rfl, by decide +kernel, rfl, by decide +kernel, by decide +kernel⟩
theorem ok__law_shared (F : Fun K "_law_shared" "_law_shared" s__law_shared f fd) (T : Txt mg) (C__law_gcd : Cal P w K mg base 1 "_law_gcd" ["one", "two"] spGcd) : FnOk P w K mg base CX0 2 f fd ["line"] (spShared K) := by
  refine F.ok sc__law_shared (fun vs H Q E h => ?_) (fun cdv A outer s H vs Q E hr h => ?_)
  · obtain ⟨p, n, x, rfl, _⟩ := h
    rfl
  obtain ⟨p, n, x, rfl, hp, hn, hx, q⟩ := h
  refine ⟨_, (pss_cons (ps_set (i := 1) sc__law_shared.nd rfl (Or.inl rfl) pe_int)
  (pss_cons (ps_for PassesOwn.never rfl (pi_tup (pv 0)) (pg_name (i := 2) sc__law_shared.nd rfl (Or.inl rfl)) (pss_one (ps_set (i := 1) sc__law_shared.nd rfl (Or.inl rfl) (pe_cal C__law_gcd (hr.mono (by omega)) rfl (pa_cons (pv 1) (pa_cons (pv 2) pa_nil))))))
  (pss_one (ps_ret (pv 1))))), ?_⟩
  refine ⟨_, rfl, p, rfl, ⟨_, hp⟩, for_tup (K := K) (a := p) (xs := (vec n x).map V.int) (fun i σ H' => ∃ v2 : Option V, σ = [some (.ref p), some (.int (gf 0 ((vec n x).take i))), v2] ∧ Same H H') ⟨none, rfl, fun _ _ h => h⟩ (fun i σ H' _ ⟨_, _, s⟩ => Same_seqT s hp) ?_ ?_⟩
  · rintro i v σ H' hi ⟨v2, rfl, sH⟩
    obtain ⟨m, hmi, rfl⟩ := ints_at hi
    have hm : B 6500 m := by
      have h1 := (List.getElem?_eq_some_iff.mp hmi).1
      rw [vec_len] at h1
      rw [vec_at h1] at hmi
      cases hmi
      exact hx i h1
    refine ⟨_, rfl, _, rfl, _, m, rfl, hm, some (V.int m), ?_, sH⟩
    rw [take_one hmi, gf_snoc]
    rfl
  · rintro σ H' ⟨v2, rfl, sH⟩
    rw [List.length_map, List.take_length]
    exact ⟨_, rfl, q _ sH⟩
end
end P01
namespace P01
open PySem PySem.Spec PyProof.Rows L2 SX EX WK
/-- a classmethod as its callers see it -/
def CalCM (P : Program) (w : World) (K : PySem.W.Frag) (mg : Str → Option Value) (base : Heap) (k : Nat) (C : Addr) (m : Str) (sp : Sp) : Prop :=
  ∃ (mc : Value) (p g : Addr), ClX.CRead K C mc ∧ ClX.CMet K C mc m p g ∧ FnR P w K mg base CX0 k g sp
theorem pe_calCM {X : Cx} {k : Nat} {C : Addr} {m : Str} {sp : Sp} {apos pos : Pos} {o e : Expr} {es : List Expr} {ta : TE} {t : TA} {pl : Sem Bool} (M : CalCM X.prog X.w X.K X.mg X.base k C m sp) (hr : Room k X.A) (he : PE X o ta) (ha : PA X (e :: es) t)
    (hst : starEach (e :: es) X.env = (false, eval e X.env) :: starEach es X.env := by rfl) (hpl : (backTo pos (starEach es X.env)).any (·.1) = false := by rfl)
    (ht : eval (.Call (.Attribute o m apos) (e :: es) [] pos) X.env = (do
      let ov ← eval o X.env
      standAt apos.atName
      let (f, first) ← holding [ov] (getMethod ov m pl)
      callWith pos f first (backTo pos (starEach (e :: es) X.env)) (backToKw pos (keywordEach [] X.env))) := by rfl) :
    PE X (.Call (.Attribute o m apos) (e :: es) [] pos) (ClX.tCMeth C sp E0 ta t) := by
  obtain ⟨mc, p, g, r, c, F⟩ := M
  exact ClX.pe_cmeth he r c F hr pass0 ha hst hpl ht
end P01
namespace PySem.El
/-- the bounds at the sizes of the laws: entries up to 2 ^ 96 -/
theorem nums : (List.range 11).all (fun n => decide (tb (fun k => bnd (2 ^ 96) (k + 1)) n n < 2 ^ 7900) && decide ((bnd (2 ^ 96) n).natAbs < 2 ^ 1000)) = true := by decide +kernel
end PySem.El
namespace P01
open PySem PySem.Spec PyProof.Rows L2 SX EX WK
/-! ### a form's table in lowest terms is one -/
theorem gf_mul {c : Int} (hc : 0 < c) (b : Int) (ns : List Int) : gf (c * b) (ns.map (c * ·)) = c * gf b ns := by
  have e : (ns.map (c * ·)).map (· / c) = ns := by
    rw [List.map_map]
    conv => rhs; rw [← List.map_id ns]
    exact List.map_congr_left fun m _ => Int.mul_ediv_cancel_left _ (by omega)
  rw [gf_scale hc ⟨b, rfl⟩ (fun n hn => by obtain ⟨m, _, rfl⟩ := List.mem_map.mp hn; exact ⟨m, rfl⟩), e, Int.mul_ediv_cancel_left _ (by omega)]
theorem flat_mul {n : Nat} {f : Nat → Nat → Int} {c : Int} : (mat n fun i j => c * f i j).flatten = (mat n f).flatten.map (c * ·) := by
  rw [List.map_flatten]
  congr 1
  unfold mat
  rw [List.map_map]
  refine List.map_congr_left fun i _ => ?_
  show vec n _ = (vec n (f i)).map _
  unfold vec
  rw [List.map_map]
  rfl
theorem red_uniq {n : Nat} {T T' : Nat → Nat → Int} {U U' : Int} (hU : 0 < U) (hU' : 0 < U') (h : ∀ i j, i < n → j < n → T i j * U' = T' i j * U) :
    U / gf U (mat n T).flatten = U' / gf U' (mat n T').flatten ∧ (mat n fun i j => T i j / gf U (mat n T).flatten) = mat n fun i j => T' i j / gf U' (mat n T').flatten := by
  have e1 : U' * gf U (mat n T).flatten = U * gf U' (mat n T').flatten := by
    rw [← gf_mul hU', ← gf_mul hU, ← flat_mul, ← flat_mul, Int.mul_comm U' U, mat_congr (n := n) (f := fun i j => U' * T i j) (g := fun i j => U * T' i j) fun i j hi hj => by rw [Int.mul_comm, h i j hi hj, Int.mul_comm]]
  have g1 := gf_pos hU (mat n T).flatten
  have g2 := gf_pos hU' (mat n T').flatten
  have d1 := gf_dvd (b := U) (mat n T).flatten
  have d2 := gf_dvd (b := U') (mat n T').flatten
  have t1 : ∀ i j, i < n → j < n → gf U (mat n T).flatten ∣ T i j := fun i j hi hj => d1.2 _ (mat_mem hi hj)
  have t2 : ∀ i j, i < n → j < n → gf U' (mat n T').flatten ∣ T' i j := fun i j hi hj => d2.2 _ (mat_mem hi hj)
  generalize gf U (mat n T).flatten = G at *
  generalize gf U' (mat n T').flatten = G' at *
  obtain ⟨u, hu⟩ := d1.1
  obtain ⟨u', hu'⟩ := d2.1
  have huu : u = u' := by
    apply Int.eq_of_mul_eq_mul_left (show G * G' ≠ 0 from Int.mul_ne_zero (by omega) (by omega))
    grind
  refine ⟨?_, mat_congr fun i j hi hj => ?_⟩
  · rw [hu, hu', Int.mul_ediv_cancel_left _ (by omega), Int.mul_ediv_cancel_left _ (by omega), huu]
  · obtain ⟨t, ht⟩ := t1 i j hi hj
    obtain ⟨t', ht'⟩ := t2 i j hi hj
    have := h i j hi hj
    rw [ht, ht', Int.mul_ediv_cancel_left _ (by omega), Int.mul_ediv_cancel_left _ (by omega)]
    apply Int.eq_of_mul_eq_mul_left (show G * U' ≠ 0 from Int.mul_ne_zero (by omega) (by omega))
    grind
theorem fz_same {K : PySem.W.Frag} {H H' : Hp} {v : V} {t : Td} (s : Same H H') (h : Fz K H v t) : Fz K H' v t := stb_Fz _ _ _ _ (fun _ _ q => Same_seqT s q) h
theorem FAt.same {K : PySem.W.Frag} {H H' : Hp} {cF p : Addr} {n : Nat} {T : Nat → Nat → Int} {U : Int} (s : Same H H') (f : FAt K H cF p n T U) : FAt K H' cF p n T U := by
  obtain ⟨dx, e, h1, h2⟩ := f
  exact ⟨dx, e, s _ _ h1, fz_same s h2⟩
theorem FAt.re {K : PySem.W.Frag} {H : Hp} {cF p : Addr} {n : Nat} {T T' : Nat → Nat → Int} {U U' : Int} (f : FAt K H cF p n T U) (hU : 0 < U) (hU' : 0 < U') (h : ∀ i j, i < n → j < n → T i j * U' = T' i j * U) : FAt K H cF p n T' U' := by
  obtain ⟨e1, e2⟩ := red_uniq hU hU' h
  unfold FAt
  rw [← e1, ← e2]
  exact f
/-- two tables have one form exactly if they agree crosswise -/
theorem red_iff {n : Nat} {T T' : Nat → Nat → Int} {U U' : Int} (hU : 0 < U) (hU' : 0 < U') : ((mat n fun i j => T i j / gf U (mat n T).flatten) = (mat n fun i j => T' i j / gf U' (mat n T').flatten) ∧ U / gf U (mat n T).flatten = U' / gf U' (mat n T').flatten) ↔ ∀ i j, i < n → j < n → T i j * U' = T' i j * U := by
  refine ⟨fun ⟨e1, e2⟩ i j hi hj => ?_, fun h => (red_uniq hU hU' h).symm⟩
  have d1 := gf_dvd (b := U) (mat n T).flatten
  have d2 := gf_dvd (b := U') (mat n T').flatten
  have g1 := gf_pos hU (mat n T).flatten
  have g2 := gf_pos hU' (mat n T').flatten
  obtain ⟨t, ht⟩ := d1.2 _ (mat_mem hi hj)
  obtain ⟨t', ht'⟩ := d2.2 _ (mat_mem hi hj)
  obtain ⟨u, hu⟩ := d1.1
  obtain ⟨u', hu'⟩ := d2.1
  have e3 := congrArg (fun m => (m.getD i []).getD j 0) e1
  simp only [List.getD_eq_getElem?_getD, mat_at hi, Option.getD_some, vec_at hj] at e3
  generalize gf U (mat n T).flatten = G at *
  generalize gf U' (mat n T').flatten = G' at *
  rw [hu, hu', Int.mul_ediv_cancel_left _ (by omega), Int.mul_ediv_cancel_left _ (by omega)] at e2
  rw [ht, ht', Int.mul_ediv_cancel_left _ (by omega), Int.mul_ediv_cancel_left _ (by omega)] at e3
  rw [ht, ht']
  grind
/-! ### sequences of squares -/
/-- top, bottom, the row's length, the row -/
abbrev Pq := Int × Int × Nat × El.Row
def PqAt (K : PySem.W.Frag) : Hp → V → Pq → Prop := fun H v q => ∃ (k l : Bool) (t u : Addr), v = .ref t ∧ WZ.Sq k K H t [.int q.1, .int q.2.1, .ref u] ∧ WZ.Sq l K H u ((vec q.2.2.1 q.2.2.2).map V.int)
theorem PqAt.same {K : PySem.W.Frag} {H H' : Hp} {v : V} {q : Pq} (s : Same H H') (h : PqAt K H v q) : PqAt K H' v q := by
  obtain ⟨k, l, t, u, h1, h2, h3⟩ := h
  exact ⟨k, l, t, u, h1, sq_same s h2, sq_same s h3⟩
theorem Rs.same {K : PySem.W.Frag} {H H' : Hp} {us : List V} {qs : List Pq} (h : Rs (PqAt K) H us qs) (s : Same H H') : Rs (PqAt K) H' us qs := ⟨h.1, fun i v q a b => (h.2 i v q a b).same s⟩
def Good (n : Nat) (q : Pq) : Prop := 1 ≤ q.1 ∧ 1 ≤ q.2.1 ∧ q.2.2.1 = n
def trm (W : Int) (i j : Nat) (q : Pq) : Int := q.1 * (W / q.2.1) * (q.2.2.2 i * q.2.2.2 j)
/-- the sum of the squares, times W -/
def psum (W : Int) (qs : List Pq) (i j : Nat) : Int := Ls qs (trm W i j)
theorem psum_sym {W : Int} {qs : List Pq} (i j : Nat) : psum W qs i j = psum W qs j i := Ls_congr fun q _ => by unfold trm; rw [Int.mul_comm (q.2.2.2 i)]
/-- another common multiple -/
theorem psum_re {W W' : Int} {qs : List Pq} (h : ∀ q ∈ qs, 0 < q.2.1 ∧ q.2.1 ∣ W ∧ q.2.1 ∣ W') (i j : Nat) : psum W qs i j * W' = psum W' qs i j * W := by
  unfold psum
  rw [← Ls_mulr, ← Ls_mulr]
  refine Ls_congr fun q hq => ?_
  obtain ⟨h0, ⟨k, hk⟩, ⟨l, hl⟩⟩ := h q hq
  unfold trm
  rw [hk, hl, Int.mul_ediv_cancel_left _ (by omega), Int.mul_ediv_cancel_left _ (by omega)]
  grind
/-- the squares show the table T over U -/
def Shows (n : Nat) (T : Nat → Nat → Int) (U W : Int) (qs : List Pq) : Prop := (∀ q ∈ qs, Good n q) ∧ ∀ i j, i < n → j < n → psum W qs i j * U = T i j * W
/-- a loop over the list or the tuple in slot i, which stays -/
theorem tFor_sq {K : PySem.W.Frag} {k : Bool} {a : Addr} {xs : List V} {i : Nat} {g : TG} {tb : TS} {D : Ends} {σ : L2.St} {H : Hp} (hi : σ[i]? = some (some (V.ref a))) (hx : WZ.Sq k K H a xs) (Pv : Nat → L2.St → Hp → Prop)
    (h0 : Pv 0 σ H) (hl : ∀ j σ' H', Pv j σ' H' → Same H H')
    (hs : ∀ j x σ' H', xs[j]? = some x → Pv j σ' H' → g x σ' H' fun σ2 H2 => tb { D with nx := Pv (j + 1), ct := Pv (j + 1), bk := D.nx } σ2 H2)
    (hd : ∀ σ' H', Pv xs.length σ' H' → D.nx σ' H') : tFor (fun σ H R => iList K (tVar i) σ H R ∨ iTup K (tVar i) σ H R) g tb D σ H := by
  cases k with
  | true => exact .inl ⟨_, hi, a, rfl, ⟨_, hx⟩, for_list (K := K) (a := a) (xs := xs) Pv h0 (fun j σ' H' _ p => (hl j σ' H' p).seq hx) hs hd⟩
  | false => exact .inr ⟨_, hi, a, rfl, ⟨_, hx⟩, for_tup (K := K) (a := a) (xs := xs) Pv h0 (fun j σ' H' _ p => Same_seqT (hl j σ' H' p) hx) hs hd⟩
def FAddOk (P : Program) (w : World) (K : PySem.W.Frag) (mg : Str → Option Value) (base : Heap) (cF : Addr) : Prop :=
  ∃ (f : Addr) (fd : FuncData), FnOk P w K mg base CX0 6 f fd ["self", "other"] (spFAdd K cF) ∧ PySem.W.selfFirst K cF = true ∧ PySem.W.findIn K (.ref cF) "__add__" = some (some (.ref f)) ∧ PySem.W.isFn K (.ref f) = true ∧ Binds K fd ["self", "other"] []
theorem op_addF {X : Cx} {cF : Addr} (C : FAddOk X.prog X.w X.K X.mg X.base cF) (hr : Room 6 X.A) : OpR X (binaryOp .Add) (KO.rOAdd cF (spFAdd X.K cF) E0) := by
  obtain ⟨f, fd, F, h1, h2, h3, b⟩ := C
  exact KO.op_oadd F h1 h2 h3 hr b pass0
def FEqOk (P : Program) (w : World) (K : PySem.W.Frag) (mg : Str → Option Value) (base : Heap) (cF : Addr) : Prop :=
  ∃ (f : Addr) (fd : FuncData), FnOk P w K mg base CX0 1 f fd ["self", "other"] (spFEq K cF) ∧ PySem.W.findIn K (.ref cF) "__eq__" = some (some (.ref f)) ∧ PySem.W.isFn K (.ref f) = true ∧ Binds K fd ["self", "other"] []
theorem op_eqF {X : Cx} {cF : Addr} (C : FEqOk X.prog X.w X.K X.mg X.base cF) (hr : Room 1 X.A) : OpR X (compareOp .Eq) (KO.rOEq X.K cF (spFEq X.K cF)) := by
  obtain ⟨f, fd, F, h1, h2, b⟩ := C
  exact KO.op_oeq F h1 h2 hr b
theorem g3_or {K : PySem.W.Frag} {k : Bool} {t : Addr} {v1 v2 v3 : V} {i j l : Nat} {σ : L2.St} {H : Hp} {Q : L2.St → Hp → Prop} (h : WZ.Sq k K H t [v1, v2, v3]) (q : Q (((σ.set i (some v1)).set j (some v2)).set l (some v3)) H) :
    gLst K 3 (gCons (gName i) (gCons (gName j) (gCons (gName l) gNil))) (.ref t) σ H Q ∨ gTup K 3 (gCons (gName i) (gCons (gName j) (gCons (gName l) gNil))) (.ref t) σ H Q := by
  cases k with
  | true => exact .inl ⟨t, _, rfl, h, rfl, _, _, rfl, _, _, rfl, _, _, rfl, rfl, q⟩
  | false => exact .inr ⟨t, _, rfl, h, rfl, _, _, rfl, _, _, rfl, _, _, rfl, rfl, q⟩
theorem B.add {k : Nat} {x y : Int} (hx : B k x) (hy : B k y) : B (k + 1) (x + y) := by
  show (x + y).natAbs < 2 ^ (k + 1)
  have h1 : x.natAbs < 2 ^ k := hx
  have h2 : y.natAbs < 2 ^ k := hy
  have h3 := Int.natAbs_add_le x y
  rw [Nat.pow_succ]
  omega
theorem B.one : B 1 1 := by decide
/-- one square more -/
theorem comb_step {n : Nat} {T1 T2 : Nat → Nat → Int} {W d k b1 b2 : Int} {g1 g2 : Nat → Nat → Int} (hd : W = d * k) (h1 : ∀ i j, i < n → j < n → g1 i j * W = T1 i j * b1) (h2 : ∀ i j, i < n → j < n → g2 i j * d = T2 i j * b2) (i j : Nat) (hi : i < n) (hj : j < n) :
    comb2 b2 b1 g1 g2 i j * W = (T1 i j + T2 i j * k) * (b1 * b2) := by
  have e1 := h1 i j hi hj
  have e2 := h2 i j hi hj
  unfold comb2
  grind
theorem gf_unit (ns : List Int) : gf 1 ns = 1 := by
  have h1 := gf_pos (b := 1) (by decide) ns
  have h2 := gf_le (b := 1) (by decide) ns
  omega
section
variable {P : Program} {w : World} {K : PySem.W.Frag} {mg : Str → Option Value} {base : Heap} {f : Addr} {fd : FuncData} {cF cR : Addr}
def SqOk (n : Nat) (W : Int) (q : Pq) : Prop := Good n q → q.2.1 ∣ W ∧ B 2500 q.2.1 ∧ B 20000 q.1 ∧ ∀ j, j < n → B 20000 (q.2.2.2 j)
def spIsSq (K : PySem.W.Frag) (cF : Addr) : Sp := fun vs H Q _ => ∃ (p a : Addr) (k : Bool) (n : Nat) (T : Nat → Nat → Int) (U W : Int) (us : List V) (qs : List Pq), vs = [.ref p, .ref a] ∧ FAt K H cF p n T U ∧ 0 < U ∧ n ≤ 10 ∧ WZ.Sq k K H a us ∧ Rs (PqAt K) H us qs ∧ 0 < W ∧ B 6400 W ∧ (∀ q ∈ qs, SqOk n W q) ∧ qs.length ≤ 1000 ∧ ∀ b H', Same H H' → (b = true ↔ Shows n T U W qs) → Q (.bl b) H'
abbrev s_is_squares : Stmt := top 31
abbrev N_is_squares : List Str := ["form", "squares", "total", "top", "bottom", "row"]
theorem sc_is_squares : FnScope N_is_squares ["form", "squares"] (defScope s_is_squares) := ⟨rfl, rfl, rfl, by decide +kernel, rfl, by decide +kernel, by decide +kernel⟩
theorem ok_is_squares (F : Fun K "is_squares" "is_squares" s_is_squares f fd) (T : Txt mg) (U : Gls mg cF cR) (O : Obs K cF cR) (V0 : Frm K cF cR) (nF : PySem.W.notFirst K cF (.ref cF) = true) (C_mZero : CalCM P w K mg base 6 cF "zero" (spZero K cF)) (C_mSquare : CalCM P w K mg base 6 cF "square" (spSq1 K cF)) (C_mScaled : CalM P w K mg base 6 cF "scaled" ["self", "factor"] (spFScaled K cF)) (C_add : FAddOk P w K mg base cF) (C_eq : FEqOk P w K mg base cF) : FnOk P w K mg base CX0 7 f fd ["form", "squares"] (spIsSq K cF) := by
  refine F.ok sc_is_squares (fun vs H Q E h => ?_) (fun cdv A outer s H vs Q E hr h => ?_)
  · obtain ⟨p, a, k, n, T, U, W, us, qs, rfl, _⟩ := h
    rfl
  obtain ⟨p, a, k, n, M, b, W, us, qs, rfl, f1, hb, hn, ha, hrs, hW, hWB, hqs, hl, qq⟩ := h
  refine ⟨_, (pss_cons (ps_set (i := 2) sc_is_squares.nd rfl (Or.inl rfl) (pe_calCM C_mZero (hr.mono (by omega)) (pe_glob (v := .ref _) rfl U.g_Form rfl) (pa_cons (pe_fld (pv 0) rfl) pa_nil)))
  (pss_cons (ps_for PassesOwn.never rfl (pi_or (pi_list (pv 1)) (pi_tup (pv 1))) (pg_or (pg_lst rfl (pgs_cons (pg_name (i := 3) sc_is_squares.nd rfl (Or.inl rfl)) (pgs_cons (pg_name (i := 4) sc_is_squares.nd rfl (Or.inl rfl)) (pgs_cons (pg_name (i := 5) sc_is_squares.nd rfl (Or.inl rfl)) pgs_nil)))) (pg_tup rfl (pgs_cons (pg_name (i := 3) sc_is_squares.nd rfl (Or.inl rfl)) (pgs_cons (pg_name (i := 4) sc_is_squares.nd rfl (Or.inl rfl)) (pgs_cons (pg_name (i := 5) sc_is_squares.nd rfl (Or.inl rfl)) pgs_nil))))) (pss_cons (ps_if (PW.pt (pw_or (pt_cmpR op_lt (pv 3) pe_int (nomark _)) (pw_or (pt_cmpR op_lt (pv 4) pe_int (nomark _)) (pw_or1 (pt_cmpR op_ne (pe_callB call_len_seq (by rfl) T.b_len PySem.boot_len (pa_cons (pv 5) pa_nil)) (pe_fld (pv 0) rfl) (nomark _)))))) (pss_one (ps_ret pe_bl)) pss_nil)
  (pss_one (ps_set (i := 2) sc_is_squares.nd rfl (Or.inl rfl) (pe_op (op_addF C_add (hr.mono (by omega))) (pv 2) (pe_calM O.clF C_mScaled (hr.mono (by omega)) (pe_calCM C_mSquare (hr.mono (by omega)) (pe_glob (v := .ref _) rfl U.g_Form rfl) (pa_cons (pv 5) pa_nil)) (pa_cons (pe_tup (pa_cons (pv 3) (pa_cons (pv 4) pa_nil))) pa_nil)))))))
  (pss_one (ps_ret (pe_cmpR (op_eqF C_eq (hr.mono (by omega))) (pv 2) (pv 0) (nomark _)))))), ?_⟩
  obtain ⟨d1, e1, h1, z1⟩ := id f1
  refine seq_asg ⟨rfl, _, rfl, p, cF, d1, _, _, rfl, h1, O.clF, O.F_size, rfl, n, rfl, by omega, fun r0 H0 s0 g0 => ?_⟩
  show tSeq (tFor _ _ _) _ _ [some (.ref p), some (.ref a), some (.ref r0), none, none, none] H0
  refine tFor_sq (K := K) (i := 1) (a := a) (xs := us) (k := k) rfl (sq_same s0 ha) (fun i σ H1 => ∃ (r : Addr) (v3 v4 v5 : Option V), σ = [some (.ref p), some (.ref a), some (.ref r), v3, v4, v5] ∧ Same H0 H1 ∧ FAt K H1 cF r n (psum W (qs.take i)) W ∧ ∀ q ∈ qs.take i, Good n q)
    ⟨r0, none, none, none, rfl, fun _ _ h => h, g0.re (by decide) hW (fun i j _ _ => by rw [Int.zero_mul]; exact (Int.zero_mul _).symm), fun q hq => by simp at hq⟩ (fun _ _ _ ⟨_, _, _, _, _, s, _⟩ => s) ?_ ?_
  · rintro i x σ H1 hi ⟨r, v3, v4, v5, rfl, s1, g1, gd⟩
    obtain ⟨q, hq⟩ : ∃ q, qs[i]? = some q := by
      have h1 := (List.getElem?_eq_some_iff.mp hi).1
      exact ⟨_, List.getElem?_eq_getElem (by rw [← hrs.1]; exact h1)⟩
    have hmem := List.mem_of_getElem? hq
    obtain ⟨kq, lq, t, u, rfl, ht, hu⟩ := (hrs.2 i x q hi hq).same (s0.trans s1)
    have hok := hqs q hmem
    have hps : psum W (qs.take (i + 1)) = fun a c => psum W (qs.take i) a c + trm W a c q := by
      funext a c
      unfold psum
      rw [take_one hq, Ls_snoc]
    have hgd : Good n q → ∀ q' ∈ qs.take (i + 1), Good n q' := fun h q' hq' => by
      rw [take_one hq] at hq'
      rcases List.mem_append.mp hq' with m | m
      · exact gd q' m
      · rw [List.mem_singleton.mp m]
        exact h
    obtain ⟨top, d, m, xr⟩ := q
    have sA := s0.trans s1
    refine g3_or ht ?_
    have nope : ¬ Good n (top, d, m, xr) → Q (.bl false) H1 := fun h => qq false H1 sA ⟨fun e => (by cases e), fun e => absurd (e.1 _ hmem) h⟩
    by_cases c1 : top < 1
    · exact ⟨_, rfl, _, _, rfl, rfl, _, rfl, ifT (decide_eq_true c1) (ifT rfl (nope fun g => by have := g.1; simp only at this; omega))⟩
    refine ⟨_, rfl, _, _, rfl, rfl, _, rfl, ifF (decide_eq_false c1) ?_⟩
    by_cases c2 : d < 1
    · exact ⟨_, rfl, _, _, rfl, rfl, _, rfl, ifT (decide_eq_true c2) (ifT rfl (nope fun g => by have := g.2.1; simp only at this; omega))⟩
    refine ⟨_, rfl, _, _, rfl, rfl, _, rfl, ifF (decide_eq_false c2) ?_⟩
    refine ⟨_, rfl, u, _, rfl, sq_or hu, _, rfl, p, cF, d1, _, _, rfl, sA _ _ h1, O.clF, O.F_size, rfl, rfl, _, rfl, ?_⟩
    by_cases c3 : m = n
    · subst c3
      refine ifF (ne_F (by rw [vec_lenV])) ?_
      have good : Good m (top, d, m, xr) := ⟨by show (1 : Int) ≤ top; omega, by show (1 : Int) ≤ d; omega, rfl⟩
      obtain ⟨⟨kk, hk⟩, hdB, htB, hxB⟩ := hok good
      simp only at hk hdB htB hxB
      have d0 : 0 < d := by omega
      refine ⟨_, rfl, rfl, _, rfl, u, lq, m, 20000, xr, rfl, hu, by omega, hxB, by decide, by decide, fun r2 H2 s2 g2 => ?_⟩
      obtain ⟨dx2, e2, hF2, z2⟩ := id g2
      refine ⟨r2, dx2, _, rfl, hF2, rfl, _, rfl, _, rfl, two_line, fun tt htt => ?_⟩
      have s3 := same_new htt (.tup [.int top, .int d])
      simp only [gf_unit] at hF2 z2
      refine ⟨r2, tt, m, 40000, 1 / 1, top, d, fun i j => xr i * xr j / 1, rfl, ⟨dx2, e2, s3 _ _ hF2, fz_same s3 z2⟩, SqT.of upd_same, by omega, by decide, d0, B.one.mono (by omega), hdB.mono (by omega), htB.mono (by omega), by rw [Int.ediv_one, Int.one_mul]; exact hdB.mono (by omega), fun i j hi hj => ⟨?_, ?_⟩, by decide, by decide, fun r3 H4 s4 g4 => ?_⟩
      · show B 40000 (xr i * xr j / 1)
        rw [Int.ediv_one]
        exact B.mul (hxB i hi) (hxB j hj)
      · show xr i * xr j / 1 = xr j * xr i / 1
        rw [Int.mul_comm]
      have g5 : FAt K H4 cF r3 m (fun i j => top * (xr i * xr j)) d := g4.re (by rw [Int.ediv_one, Int.one_mul]; exact d0) d0 (fun i j _ _ => by
        show top * (xr i * xr j / 1) * d = top * (xr i * xr j) * (1 / 1 * d)
        rw [Int.ediv_one, Int.ediv_one, Int.one_mul])
      have s5 : Same H1 H4 := s2.trans (s3.trans s4)
      obtain ⟨dx3, e3, hF3, z3⟩ := id g5
      obtain ⟨dx0, e0, hF0, z0⟩ := id g1
      have GW := gf_pos hW (mat m (psum W (qs.take i))).flatten
      have GD := gf_pos d0 (mat m fun i j => top * (xr i * xr j)).flatten
      have dW := gf_dvd (b := W) (mat m (psum W (qs.take i))).flatten
      have dD := gf_dvd (b := d) (mat m fun i j => top * (xr i * xr j)).flatten
      have pW := quot_pos GW dW.1 (by omega)
      have pD := quot_pos GD dD.1 (by omega)
      have bW : B 6400 (W / gf W (mat m (psum W (qs.take i))).flatten) := B.div GW hWB
      have bD : B 2500 (d / gf d (mat m fun i j => top * (xr i * xr j)).flatten) := B.div GD hdB
      refine ⟨r, dx0, _, r3, dx3, _, rfl, s5 _ _ hF0, rfl, hF3, r, r3, m, 80000, W / gf W (mat m (psum W (qs.take i))).flatten, d / gf d (mat m fun i j => top * (xr i * xr j)).flatten, fun i' j' => psum W (qs.take i) i' j' / gf W (mat m (psum W (qs.take i))).flatten, fun i' j' => top * (xr i' * xr j') / gf d (mat m fun i j => top * (xr i * xr j)).flatten, rfl, ⟨dx0, e0, s5 _ _ hF0, fz_same s5 z0⟩, g5, by omega, by omega, by omega, bW.mono (by decide), bD.mono (by decide), (B.mul bW bD).mono (by decide), fun i' j' hi' hj' => ⟨?_, ?_, ?_, ?_⟩, by decide, by decide, fun r5 H5 s6 g6 => ⟨⟨r5, rfl⟩, ?_⟩⟩
      · refine B.div GW ?_
        refine B.mono (BLs (k := 66400) (c := 10) (fun q' hq' => ?_) ?_) (by decide)
        · have gq := gd q' hq'
          obtain ⟨hdv, _, ht', hx'⟩ := hqs q' (List.mem_of_mem_take hq') gq
          have hq0 : 0 < q'.2.1 := by have := gq.2.1; omega
          exact (B.mul (B.mul ht' (B.div hq0 hWB)) (B.mul (hx' i' hi') (hx' j' hj'))).mono (by decide)
        · rw [List.length_take]
          exact Nat.le_trans (Nat.min_le_right _ _) (Nat.le_trans hl (by decide))
      · exact B.div GD ((B.mul htB (B.mul (hxB i' hi') (hxB j' hj'))).mono (by decide))
      · show psum W (qs.take i) i' j' / _ = psum W (qs.take i) j' i' / _
        rw [psum_sym]
      · show top * (xr i' * xr j') / _ = top * (xr j' * xr i') / _
        rw [Int.mul_comm (xr i')]
      · refine ⟨r5, some (.int top), some (.int d), some (.ref u), rfl, s1.trans (s5.trans s6), g6.re (Int.mul_pos (by omega) (by omega)) hW (fun i' j' hi' hj' => ?_), hgd good⟩
        rw [hps, comb_step (T1 := psum W (qs.take i)) (T2 := fun i j => top * (xr i * xr j)) hk (fun i j hi hj => cross GW (dW.2 _ (mat_mem hi hj)) dW.1) (fun i j hi hj => cross GD (dD.2 _ (mat_mem (f := fun i j => top * (xr i * xr j)) hi hj)) dD.1) i' j' hi' hj']
        show (_ + top * (xr i' * xr j') * kk) * _ = (_ + top * (W / d) * (xr i' * xr j')) * _
        rw [show W / d = kk by rw [hk, Int.mul_ediv_cancel_left _ (by omega)], Int.mul_assoc top kk, Int.mul_assoc top, Int.mul_comm kk]
    · exact ifT (ne_T (by rw [vec_lenV]; show ((m : Nat) : Int) ≠ ((n : Nat) : Int); omega)) (nope fun g => c3 g.2.2)
  · rintro σ H1 ⟨r, v3, v4, v5, rfl, s1, g1, gd⟩
    rw [hrs.1, List.take_length] at g1 gd
    obtain ⟨dx0, e0, hF0, z0⟩ := id g1
    have s2 := s0.trans s1
    refine ⟨_, rfl, _, rfl, r, dx0, _, .ref cF, rfl, hF0, isForm V0 O.clF (s2 _ _ h1), nF, r, p, n, n, _, _, _, _, rfl, ⟨dx0, e0, hF0, z0⟩, ⟨d1, e1, s2 _ _ h1, fz_same s2 z1⟩, ⟨_, rfl⟩, qq _ H1 s2 ?_⟩
    rw [decide_eq_true_iff, red_iff hW hb]
    exact ⟨fun h => ⟨gd, h⟩, fun h => h.2⟩
end
end P01
namespace PySem.El
/-- g is the common divisor of the numbers P -/
structure Gcd (P : Int → Prop) (g : Int) : Prop where
  nn : 0 ≤ g
  dv : ∀ x, P x → g ∣ x
  mx : ∀ a c : Int, (∀ x, P x → c ∣ a * x) → c ∣ a * g
theorem Gcd.none {P : Int → Prop} (h : ∀ x, ¬ P x) : Gcd P 0 := ⟨by decide, fun x hx => absurd hx (h x), fun a c _ => by rw [Int.mul_zero]; exact Int.dvd_zero c⟩
theorem Gcd.more {P P' : Int → Prop} {g x : Int} (h : Gcd P g) (e : ∀ y, P' y ↔ P y ∨ y = x) : Gcd P' ((Nat.gcd g.natAbs x.natAbs : Nat) : Int) := by
  have d1 : ((Nat.gcd g.natAbs x.natAbs : Nat) : Int) ∣ g := nat_dvd.2 (Nat.gcd_dvd_left _ _)
  have d2 : ((Nat.gcd g.natAbs x.natAbs : Nat) : Int) ∣ x := nat_dvd.2 (Nat.gcd_dvd_right _ _)
  refine ⟨Int.natCast_nonneg _, fun y hy => ?_, fun a c hc => ?_⟩
  · rcases (e y).1 hy with p | p
    · exact Int.dvd_trans d1 (h.dv y p)
    · rw [p]; exact d2
  · have h1 := h.mx a c fun y hy => hc y ((e y).2 (.inl hy))
    have h2 := hc x ((e x).2 (.inr rfl))
    have g1 : c.natAbs ∣ a.natAbs * g.natAbs := by rw [← Int.natAbs_mul]; exact Int.natAbs_dvd_natAbs.2 h1
    have g2 : c.natAbs ∣ a.natAbs * x.natAbs := by rw [← Int.natAbs_mul]; exact Int.natAbs_dvd_natAbs.2 h2
    have g3 : c.natAbs ∣ a.natAbs * Nat.gcd g.natAbs x.natAbs := by
      rw [← Nat.gcd_mul_left]; exact Nat.dvd_gcd g1 g2
    apply Int.natAbs_dvd_natAbs.1
    rwa [Int.natAbs_mul, Int.natAbs_natCast]
theorem Gcd.cong {P P' : Int → Prop} {g : Int} (h : Gcd P g) (e : ∀ y, P' y ↔ P y) : Gcd P' g := ⟨h.nn, fun x hx => h.dv x ((e x).1 hx), fun a c hc => h.mx a c fun x hx => hc x ((e x).2 hx)⟩
/-- numbers outside are 0 -/
def Out (n : Nat) (R : Nat → Row) : Prop := ∀ i j, n ≤ i ∨ n ≤ j → R i j = 0
theorem numer_out {n k : Nat} {R : Nat → Row} (h : Out n R) : Out n (numer R k) := fun i j c => by
  unfold numer
  rcases c with c | c
  · rw [h i j (.inl c), h k i (.inr c)]; simp
  · rw [h i j (.inr c), h k j (.inr c)]; simp
/-- the numbers of a step -/
def Nums (n k : Nat) (R : Nat → Row) (x : Int) : Prop := ∃ i j, k < i ∧ k < j ∧ i < n ∧ j < n ∧ x = numer R k i j
def next (k : Nat) (R : Nat → Row) (g : Int) : Nat → Row := fun a b => if k < a ∧ k < b then (if 1 < g then numer R k a b / g else numer R k a b) else R a b
theorem next_out {n k : Nat} {R : Nat → Row} {g : Int} (h : Out n R) : Out n (next k R g) := fun i j c => by
  unfold next
  rw [numer_out h i j c, h i j c, Int.zero_ediv]
  simp
theorem Tie.next {A : Nat → Row} {S k d B R} {n : Nat} (h : Inv A S k d B) (hp : 0 < B k k) (t : Tie k R B) (out : Out n R) (g : Int) (hg : Gcd (Nums n k R) g) :
    Tie (k + 1) (next k R g) (redu B k d) ∧ ∀ i j, k < i → k < j → (next k R g i j).natAbs ≤ (redu B k d i j).natAbs := by
  refine Tie.pivot h hp t g hg.nn (fun a c hc => hg.mx a c fun x ⟨i, j, hi, hj, _, _, e⟩ => e ▸ hc i j hi hj) (fun i j hi hj => ?_) (fun g0 i j hi hj => ?_)
  · unfold El.next
    rw [if_pos ⟨hi, hj⟩]
    by_cases c : i < n ∧ j < n
    · have hd := hg.dv _ ⟨i, j, hi, hj, c.1, c.2, rfl⟩
      by_cases c1 : 1 < g
      · rw [if_pos c1, Int.mul_ediv_cancel' hd]
      · rw [if_neg c1]
        have := hg.nn
        rcases (show g = 0 ∨ g = 1 by omega) with e | e
        · rw [e] at hd ⊢
          rw [Int.zero_dvd.1 hd]; rfl
        · rw [e, Int.one_mul]
    · have z := numer_out (k := k) out i j (by omega)
      rw [z, Int.zero_ediv]
      simp
  · unfold El.next
    rw [if_pos ⟨hi, hj⟩, if_neg (by omega)]
    by_cases c : i < n ∧ j < n
    · have hd := hg.dv _ ⟨i, j, hi, hj, c.1, c.2, rfl⟩
      rw [g0] at hd
      exact Int.zero_dvd.1 hd
    · exact numer_out out i j (by omega)
/-- where a whole elimination stands at an index -/
theorem Run.upto {A : Nat → Row} {m S d B ps} (h : Run A m S d B ps) : ∀ k, k < m → ∃ S' d' B' ps', Run A k S' d' B' ps' ∧ (0 < B' k k ∨ ∀ x, B' k x = 0) := by
  induction h with
  | begin => intro k hk; omega
  | @skip m S d B ps h hz ih =>
    intro k hk
    by_cases e : k = m
    · subst e; exact ⟨_, _, _, _, h, .inr hz⟩
    · exact ih k (by omega)
  | @pivot m S d B ps h hp ih =>
    intro k hk
    by_cases e : k = m
    · subst e; exact ⟨_, _, _, _, h, .inl hp⟩
    · exact ih k (by omega)
end PySem.El
namespace P01
open PySem PySem.Spec PyProof.Rows L2 SX EX WK
/-- a table that grows by rows: so far i of them -/
structure MG (H0 H : Hp) (a : Addr) (rs : List Addr) (n i : Nat) (f : Nat → Nat → Int) : Prop where
  same : Same H0 H
  at_ : H a = some (.lst (rs.map V.ref))
  len : rs.length = i
  nd : rs.Nodup
  na : a ∉ rs
  fr : ∀ r ∈ rs, H0 r = none
  row : ∀ (j : Nat), j < i → ∃ p, rs[j]? = some p ∧ H p = some (.lst ((vec n (f j)).map V.int))
theorem MG.start {H0 : Hp} {D : Addr} {n : Nat} {f : Nat → Nat → Int} (h : H0 D = none) : MG H0 (upd H0 D (.lst [])) D [] n 0 f := ⟨new_same h _, upd_same, rfl, List.nodup_nil, by simp, by simp, fun i hi => by omega⟩
theorem MG.mt {H0 H : Hp} {a : Addr} {rs : List Addr} {n : Nat} {f : Nat → Nat → Int} (h : MG H0 H a rs n n f) : MT H0 H a rs n f := ⟨h.same, h.at_, h.len, h.nd, h.na, h.fr, h.row⟩
theorem MG.snoc {H0 H H' : Hp} {a p : Addr} {rs : List Addr} {n i : Nat} {f : Nat → Nat → Int} (h : MG H0 H a rs n i f) (h0 : H0 a = none) (s : Same H H') (hp : H p = none) (hr : H' p = some (.lst ((vec n (f i)).map V.int))) : MG H0 (upd H' a (.lst (rs.map V.ref ++ [.ref p]))) a (rs ++ [p]) n (i + 1) f := by
  have hpa : p ≠ a := fun z => by rw [z, h.at_] at hp; cases hp
  refine ⟨same_at (h.same.trans s) h0, ?_, by rw [List.length_append, h.len]; rfl, ?_, ?_, fun r hr' => ?_, fun j hj => ?_⟩
  · rw [upd_same, List.map_append]
    rfl
  · refine List.nodup_append.mpr ⟨h.nd, by simp, fun x hx y hy z => ?_⟩
    rw [List.mem_singleton] at hy
    subst hy
    subst z
    obtain ⟨j, hj⟩ := List.getElem?_of_mem hx
    have hlt : j < i := by
      have := (List.getElem?_eq_some_iff.mp hj).1
      rw [h.len] at this
      exact this
    obtain ⟨p2, e1, e2⟩ := h.row j hlt
    rw [hj] at e1
    cases e1
    rw [e2] at hp
    cases hp
  · intro hm
    rcases List.mem_append.mp hm with m | m
    · exact h.na m
    · exact hpa (List.mem_singleton.mp m).symm
  · rcases List.mem_append.mp hr' with m | m
    · exact h.fr r m
    · rw [List.mem_singleton.mp m]
      cases e : H0 p with
      | none => rfl
      | some u => rw [h.same _ _ e] at hp; cases hp
  · by_cases e : j < i
    · obtain ⟨p2, e1, e2⟩ := h.row j e
      have hlt : j < rs.length := by rw [h.len]; exact e
      have m := List.mem_of_getElem? e1
      exact ⟨p2, by rw [List.getElem?_append_left hlt]; exact e1, by rw [upd_ne (fun z => h.na (by rw [← z]; exact m))]; exact s _ _ e2⟩
    · have e2 : j = i := by omega
      subst e2
      exact ⟨p, by rw [List.getElem?_append_right (by rw [h.len]; omega), h.len, Nat.sub_self]; rfl, by rw [upd_ne hpa]; exact hr⟩
/-- what stands apart from the table stays apart -/
theorem MT.put {H0 H : Hp} {a c : Addr} {rs : List Addr} {n : Nat} {f : Nat → Nat → Int} {o : HO} (h : MT H0 H a rs n f) (h0 : H0 c = none) (ha : c ≠ a) (hr : c ∉ rs) : MT H0 (upd H c o) a rs n f := by
  refine ⟨same_at h.same h0, by rw [upd_ne (Ne.symm ha)]; exact h.at_, h.len, h.nd, h.na, h.fr, fun i hi => ?_⟩
  obtain ⟨p, h1, h2⟩ := h.row i hi
  exact ⟨p, h1, by rw [upd_ne (fun z => hr (by rw [← z]; exact List.mem_of_getElem? h1))]; exact h2⟩
theorem MT.apart {H0 H : Hp} {a c : Addr} {rs : List Addr} {n : Nat} {f : Nat → Nat → Int} (h : MT H0 H a rs n f) (hc : H c = none) : c ≠ a ∧ c ∉ rs := by
  refine ⟨fun z => (by rw [z, h.at_] at hc; cases hc), fun m => ?_⟩
  obtain ⟨j, hj⟩ := List.getElem?_of_mem m
  have hlt : j < n := by
    have := (List.getElem?_eq_some_iff.mp hj).1
    rw [h.len] at this
    exact this
  obtain ⟨p2, e1, e2⟩ := h.row j hlt
  rw [hj] at e1
  cases e1
  rw [e2] at hc
  cases hc
/-- between two states behind k: the rows below i are done, of the row i the first j -/
def mixk (k : Nat) (f g : Nat → Nat → Int) (i j : Nat) : Nat → Nat → Int := fun a b => if k < a ∧ k < b ∧ (a < i ∨ (a = i ∧ b < j)) then g a b else f a b
theorem mixk_put {k : Nat} (f g : Nat → Nat → Int) {i j : Nat} (hi : k < i) (hj : k < j) : ∀ a b, put (mixk k f g i j) i j (g i j) a b = mixk k f g i (j + 1) a b := fun a b => by
  unfold put mixk
  by_cases h : a = i ∧ b = j
  · rw [if_pos h, if_pos ⟨by omega, by omega, .inr ⟨h.1, by omega⟩⟩, h.1, h.2]
  · rw [if_neg h]
    by_cases h2 : k < a ∧ k < b ∧ (a < i ∨ (a = i ∧ b < j))
    · rw [if_pos h2, if_pos (by omega)]
    · rw [if_neg h2, if_neg (by omega)]
theorem mixk_at (k : Nat) (f g : Nat → Nat → Int) (i j : Nat) : mixk k f g i j i j = f i j := by
  unfold mixk
  rw [if_neg (by omega)]
theorem mixk_0 (k : Nat) (f g : Nat → Nat → Int) : mixk k f g (k + 1) (k + 1) = f := by
  funext a b
  unfold mixk
  rw [if_neg (by omega)]
theorem mixk_row (k : Nat) (f g : Nat → Nat → Int) (n i : Nat) : ∀ a b, a < n → b < n → mixk k f g i n a b = mixk k f g (i + 1) (k + 1) a b := fun a b ha hb => by
  unfold mixk
  by_cases h : k < a ∧ k < b ∧ a < i + 1
  · rw [if_pos (by omega), if_pos (by omega)]
  · rw [if_neg (by omega), if_neg (by omega)]
theorem mixk_n (k : Nat) (f g : Nat → Nat → Int) (n j : Nat) : ∀ a b, a < n → b < n → mixk k f g n j a b = if k < a ∧ k < b then g a b else f a b := fun a b ha hb => by
  unfold mixk
  by_cases h : k < a ∧ k < b
  · rw [if_pos (by omega), if_pos h]
  · rw [if_neg (by omega), if_neg h]
/-- the numbers that a step has made so far -/
def Made (n k i j : Nat) (R : Nat → El.Row) (x : Int) : Prop := ∃ a b, k < a ∧ k < b ∧ a < n ∧ b < n ∧ (a < i ∨ (a = i ∧ b < j)) ∧ x = El.numer R k a b
theorem made_0 {n k : Nat} {R : Nat → El.Row} : ∀ x, ¬ Made n k (k + 1) (k + 1) R x := fun x ⟨a, b, h1, h2, _, _, h3, _⟩ => by omega
theorem made_put {n k i j : Nat} {R : Nat → El.Row} (hi : k < i) (hj : k < j) (hin : i < n) (hjn : j < n) (y : Int) : Made n k i (j + 1) R y ↔ Made n k i j R y ∨ y = El.numer R k i j := by
  constructor
  · rintro ⟨a, b, h1, h2, h3, h4, h5, rfl⟩
    by_cases e : a = i ∧ b = j
    · exact .inr (by rw [e.1, e.2])
    · exact .inl ⟨a, b, h1, h2, h3, h4, by omega, rfl⟩
  · rintro (⟨a, b, h1, h2, h3, h4, h5, rfl⟩ | rfl)
    · exact ⟨a, b, h1, h2, h3, h4, by omega, rfl⟩
    · exact ⟨i, j, hi, hj, hin, hjn, by omega, rfl⟩
theorem made_row {n k i : Nat} {R : Nat → El.Row} (y : Int) : Made n k (i + 1) (k + 1) R y ↔ Made n k i n R y := by
  constructor
  · rintro ⟨a, b, h1, h2, h3, h4, h5, rfl⟩
    exact ⟨a, b, h1, h2, h3, h4, by omega, rfl⟩
  · rintro ⟨a, b, h1, h2, h3, h4, h5, rfl⟩
    exact ⟨a, b, h1, h2, h3, h4, by omega, rfl⟩
theorem made_n {n k j : Nat} {R : Nat → El.Row} (y : Int) : El.Nums n k R y ↔ Made n k n j R y := by
  constructor
  · rintro ⟨a, b, h1, h2, h3, h4, rfl⟩
    exact ⟨a, b, h1, h2, h3, h4, by omega, rfl⟩
  · rintro ⟨a, b, h1, h2, h3, h4, h5, rfl⟩
    exact ⟨a, b, h1, h2, h3, h4, rfl⟩
/-- a table that is below 0 somewhere, seen at the index k -/
def Bd (n k : Nat) (B' : Nat → El.Row) : Prop := B' k k < 0 ∨ (B' k k = 0 ∧ ∃ j, k < j ∧ j < n ∧ B' k j ≠ 0)
section
variable {P : Program} {w : World} {K : PySem.W.Frag} {mg : Str → Option Value} {base : Heap} {f : Addr} {fd : FuncData} {cF cR : Addr}
def spLeads (K : PySem.W.Frag) : Sp := fun vs H Q _ => ∃ (a : Addr) (n w : Nat) (bd : Int) (M R : Nat → Nat → Int), vs = [.ref a] ∧ LTab H a n R ∧ JOk n w bd M ∧ 97 ≤ w ∧ El.Out n R ∧ (∀ i j, B 97 (R i j)) ∧ El.Tie 0 R M ∧
  (∀ r H' S d B' ps, Same H H' → El.Run M n S d B' ps → H' r = some (.lst ((ps.reverse.map fun p => (p.1 : Int)).map V.int)) → Q (.ref r) H') ∧ ∀ H' k S d B' ps, Same H H' → k < n → El.Run M k S d B' ps → Bd n k B' → Q .non H'
abbrev s__law_leads : Stmt := top 43
abbrev N__law_leads : List Str := ["table", "size", "line", "rest", "found", "k", "pivot", "j", "shared", "i"]
theorem sc__law_leads : FnScope N__law_leads ["table"] (defScope s__law_leads) := ⟨rfl, rfl, rfl, by decide +kernel, rfl, by decide +kernel, by decide +kernel⟩
theorem ok__law_leads (F : Fun K "_law_leads" "_law_leads" s__law_leads f fd) (T : Txt mg) (C__law_gcd : Cal P w K mg base 1 "_law_gcd" ["one", "two"] spGcd) : FnOk P w K mg base CX0 2 f fd ["table"] (spLeads K) := by
  refine F.ok sc__law_leads (fun vs H Q E h => ?_) (fun cdv A outer s H vs Q E hr h => ?_)
  · obtain ⟨a, n, w, bd, M, R, rfl, _⟩ := h
    rfl
  obtain ⟨a, n, w, bd, M, R0, rfl, ht, jo, hw97, out0, hB0, tie0, q1, q2⟩ := h
  refine ⟨_, (pss_cons (ps_set (i := 1) sc__law_leads.nd rfl (Or.inl rfl) (pe_callB call_len_seq (by rfl) T.b_len PySem.boot_len (pa_cons (pv 0) pa_nil)))
  (pss_cons (ps_setLc (i := 3) (own := [("line", 2)]) (g := gName 2) (tt := tYes) (by rfl) sc__law_leads.nd rfl rfl (sw_true rfl rfl rfl (by decide +kernel)) (pi_list (pv 0)) (blkOk_by (N := N__law_leads) (sc := defScope s__law_leads) (by decide +kernel)) (fun _ _ _ _ _ => (pg_name (i := 2) sc__law_leads.nd rfl (Or.inl rfl))) (fun _ _ _ _ _ => pts_nil) (fun _ _ _ _ _ => (pe_callTy (call_list_ofK (K := K) rfl) (by rfl) T.b_list (by decide +kernel) (pa_cons (pv 2) pa_nil))))
  (pss_cons (ps_set (i := 4) sc__law_leads.nd rfl (Or.inl rfl) (pe_lst pa_nil))
  (pss_cons (ps_for PassesOwn.never rfl (pi_range1 (by rfl) T.b_range (pa_cons (pv 1) pa_nil)) (pg_name (i := 5) sc__law_leads.nd rfl (Or.inl rfl)) (pss_cons (ps_set (i := 2) sc__law_leads.nd rfl (Or.inr rfl) (pe_callTy call_list_of (by rfl) T.b_list (by decide +kernel) (pa_cons (pe_ix ix_list (pv 3) (pv 5) (fun _ _ => rfl)) pa_nil)))
  (pss_cons (ps_set (i := 6) sc__law_leads.nd rfl (Or.inl rfl) (pe_ix ix_list (pv 2) (pv 5) (fun _ _ => rfl)))
  (pss_cons (ps_if (pt_cmpR op_lt (pv 6) pe_int (nomark _)) (pss_one (ps_ret pe_non)) pss_nil)
  (pss_cons (ps_if (PW.pt (pw_and (pt_cmpR op_eq (pv 6) pe_int (nomark _)) (pw_and1 (pt_val (pe_callB (cr_any rfl) (by rfl) T.b_any (by decide +kernel) (pa_cons (pe_lc (own := [("j", 7)]) (g := gName 7) (tt := tYes) (by rfl) sc__law_leads.nd (pi_range2 (by rfl) T.b_range (pa_cons (pe_op op_add (pv 5) pe_int) (pa_cons (pv 1) pa_nil))) (blkOk_by (N := N__law_leads) (sc := defScope s__law_leads) (by decide +kernel)) (fun _ _ _ _ _ => (pg_name (i := 7) sc__law_leads.nd rfl (Or.inl rfl))) (fun _ _ _ _ _ => pts_nil) (fun _ _ _ _ _ => (pe_cmpR op_ne (pe_ix (ix_listK (K := K) rfl) (pv 2) (pv 7) (fun _ _ => rfl)) pe_int (nomark _)))) pa_nil)))))) (pss_one (ps_ret pe_non)) pss_nil)
  (pss_one (ps_if (pt_cmpR op_gt (pv 6) pe_int (nomark _)) (pss_cons (ps_expr (pe_bm PySem.F.plainAttrs_list PySem.F.slot_list_append PySem.F.type_list_append mt_append (pv 4) (pa_cons (pv 5) pa_nil)))
  (pss_cons (ps_set (i := 8) sc__law_leads.nd rfl (Or.inl rfl) pe_int)
  (pss_cons (ps_for PassesOwn.never rfl (pi_range2 (by rfl) T.b_range (pa_cons (pe_op op_add (pv 5) pe_int) (pa_cons (pv 1) pa_nil))) (pg_name (i := 9) sc__law_leads.nd rfl (Or.inl rfl)) (pss_one (ps_for PassesOwn.never rfl (pi_range2 (by rfl) T.b_range (pa_cons (pe_op op_add (pv 5) pe_int) (pa_cons (pv 1) pa_nil))) (pg_name (i := 7) sc__law_leads.nd rfl (Or.inl rfl)) (pss_cons (ps_asg (pe_op op_sub (pe_op op_mulW (pv 6) (pe_ix ix_list /-?-/ (pe_ix ix_list (pv 3) (pv 9) (fun _ _ => rfl)) (pv 7) (fun _ _ => rfl))) (pe_op op_mulW (pe_ix ix_list (pv 2) (pv 9) (fun _ _ => rfl)) (pe_ix ix_list (pv 2) (pv 7) (fun _ _ => rfl)))) (pg_sub (pe_ix ix_list (pv 3) (pv 9) (fun _ _ => rfl)) (pv 7) set_list))
  (pss_one (ps_if (pt_cmpR op_ne (pv 8) pe_int (nomark _)) (pss_one (ps_set (i := 8) sc__law_leads.nd rfl (Or.inl rfl) (pe_cal C__law_gcd (hr.mono (by omega)) rfl (pa_cons (pv 8) (pa_cons (pe_ix ix_list /-?-/ (pe_ix ix_list (pv 3) (pv 9) (fun _ _ => rfl)) (pv 7) (fun _ _ => rfl)) pa_nil))))) pss_nil))))))
  (pss_one (ps_if (pt_cmpR op_gt (pv 8) pe_int (nomark _)) (pss_one (ps_for PassesOwn.never rfl (pi_range2 (by rfl) T.b_range (pa_cons (pe_op op_add (pv 5) pe_int) (pa_cons (pv 1) pa_nil))) (pg_name (i := 9) sc__law_leads.nd rfl (Or.inl rfl)) (pss_one (ps_for PassesOwn.never rfl (pi_range2 (by rfl) T.b_range (pa_cons (pe_op op_add (pv 5) pe_int) (pa_cons (pv 1) pa_nil))) (pg_name (i := 7) sc__law_leads.nd rfl (Or.inl rfl)) (pss_one (ps_asg (pe_op op_fdivW (pe_ix ix_list /-?-/ (pe_ix ix_list (pv 3) (pv 9) (fun _ _ => rfl)) (pv 7) (fun _ _ => rfl)) (pv 8)) (pg_sub (pe_ix ix_list (pv 3) (pv 9) (fun _ _ => rfl)) (pv 7) set_list))))))) pss_nil))))) pss_nil)))))))
  (pss_one (ps_ret (pv 4))))))), ?_⟩
  have n10 := jo.n10
  have w1 := jo.w1
  obtain ⟨vs, ha, hl, row⟩ := ht.at
  refine ⟨_, rfl, a, _, rfl, .inl (SqL.of ha), ?_⟩
  rw [hl]
  refine ⟨_, rfl, a, rfl, ⟨_, SqL.of ha⟩, fun L hL => ?_⟩
  refine lc_list (K := K) (a := a) (xs := vs) (fun i H' => ∃ rs, MG H H' L rs n i R0) ⟨[], MG.start hL⟩ (fun i H' _ ⟨_, z⟩ => SqL.of (z.same _ _ ha)) (fun i x H1 hx ⟨rs, z⟩ => ?_) (fun H1 ⟨rs, z⟩ => ?_)
  · have hi : i < n := by have := (List.getElem?_eq_some_iff.mp hx).1; omega
    obtain ⟨p, h1, h2⟩ := row i hi
    rw [hx] at h1
    cases h1
    refine ⟨rfl, lc_yes ⟨_, rfl, p, _, rfl, .inl (SqL.of (z.same _ _ h2)), fun D hD => ⟨_, (same_new hD _) _ _ z.at_, ?_, _, z.snoc hL (same_new hD _) hD upd_same⟩⟩⟩
    rw [List.length_map, z.len]
    exact Nat.lt_of_lt_of_le (by omega : i < 1001) (line_ge (by decide))
  · rw [hl] at z
    have mt := z.mt
    clear z
    refine ⟨line_ge (by decide), fun F0 hF0 => ?_⟩
    obtain ⟨apL, apR⟩ := mt.apart hF0
    have hF00 : H F0 = none := by
      cases e : H F0 with
      | none => rfl
      | some u => rw [mt.same _ _ e] at hF0; cases hF0
    have mt0 := mt.keep (same_new hF0 (.lst []))
    refine ⟨_, rfl, (n : Int), rfl, by omega, by omega, ?_⟩
    refine for_range (lo := 0) (n := n) (fun k σ H2 => ∃ (v2 v5 v6 v7 v8 v9 : Option V) (R : Nat → El.Row) (S : List Nat) (d : Int) (B' : Nat → El.Row) (ps : List El.Pv), σ = [some (.ref a), some (.int n), v2, some (.ref L), some (.ref F0), v5, v6, v7, v8, v9] ∧ MT H H2 L rs n R ∧
      H2 F0 = some (.lst ((ps.reverse.map fun p => (p.1 : Int)).map V.int)) ∧ El.Run M k S d B' ps ∧ El.Tie k R B' ∧ El.Out n R ∧ ∀ i j, k ≤ i → k ≤ j → B w (R i j)) ⟨none, none, none, none, none, none, R0, [], 1, M, [], rfl, mt0, upd_same, .begin, tie0, out0, fun i j _ _ => (hB0 i j).mono hw97⟩ ?_ ?_
    · rintro k σ H2 hk ⟨v2, v5, v6, v7, v8, v9, R, S, d, B', ps, rfl, mt2, hF2, run, tie, out, hB⟩
      have e0 : (0 + (k : Int)).toNat = k := by omega
      obtain ⟨pk, hpk1, hpk2⟩ := mt2.row k hk
      have ixk : atI (rs.map V.ref) (0 + (k : Int)) = some (.ref pk) := at_pos (by omega) (by rw [e0, List.getElem?_map, hpk1]; rfl)
      refine ⟨_, rfl, _, rfl, L, _, _, _, rfl, rfl, SqL.of mt2.at_, ixk, pk, _, rfl, .inl (SqL.of hpk2), fun D hD => ?_⟩
      have mt3 := mt2.keep (same_new hD (.lst ((vec n (R k)).map V.int)))
      have hF3 := (same_new hD (.lst ((vec n (R k)).map V.int))) _ _ hF2
      have hD3 : upd H2 D (.lst ((vec n (R k)).map V.int)) D = some (.lst ((vec n (R k)).map V.int)) := upd_same
      obtain ⟨dpL, dpR⟩ := mt2.apart hD
      have hDF : D ≠ F0 := fun z => by rw [z, hF2] at hD; cases hD
      generalize upd H2 D (.lst ((vec n (R k)).map V.int)) = H3 at *
      refine ⟨_, rfl, _, rfl, D, _, _, _, rfl, rfl, SqL.of hD3, ixv hk, ?_⟩
      refine ⟨_, rfl, _, _, rfl, rfl, _, rfl, ?_⟩
      have tp := tie.pos (Nat.le_refl k) (Nat.le_refl k)
      have tz := tie.zero (Nat.le_refl k) (Nat.le_refl k)
      by_cases c1 : R k k < 0
      · refine ifT (decide_eq_true c1) ?_
        exact q2 H3 k S d B' ps mt3.same hk run (.inl (by omega))
      refine ifF (decide_eq_false c1) ?_
      refine ⟨_, rfl, rfl, _, rfl, ?_⟩
      by_cases c2 : R k k = 0
      · refine ifT (int_eq c2) ?_
        obtain ⟨N, hN⟩ : ∃ N, N = ((n : Int) - (0 + (k : Int) + 1)).toNat := ⟨_, rfl⟩
        refine ⟨_, rfl, _, _, rfl, rfl, _, rfl, _, _, rfl, ⟨by omega, by omega, by omega, by omega⟩, fun D2 hD2 => ?_⟩
        rw [← hN]
        refine lc_m (walk_range (lo := 0 + (k : Int) + 1) (n := N)) RB (stb_RB (K := K)) (List.range N) (by rw [List.length_range]) (by rw [List.length_range]; omega) hD2 (fun _ _ => trivial) (fun _ _ _ _ => ys_fn) (fun i => !decide (R k (k + 1 + i) = 0)) (fun c i x H4 H5 hc s4 s5 y A B hA => ?_) (fun H4 l s4 hl4 rz => ?_)
        · obtain ⟨hc1, rfl⟩ := in_range hc
          rw [y.2]
          have hci : k + 1 + i < n := by omega
          refine ⟨rfl, lc_yes ⟨_, rfl, _, rfl, D, _, _, _, rfl, rfl, SqL.of (s5 _ _ hD3), at_pos (by omega) (by rw [show (0 + (k : Int) + 1 + (i : Int)).toNat = k + 1 + i by omega]; exact vecV_at hci), rfl, hA _ _ (fun _ _ h => h) ?_⟩⟩
          show V.bl _ = V.bl _
          congr 2
          rw [Bool.eq_iff_iff, decide_eq_true_iff, decide_eq_true_iff]
          exact ⟨fun e => V.int.inj e, fun e => by rw [e]⟩
        · refine ⟨D2, _, rfl, SqL.of (by rw [hl4, rz.bls]), _, rfl, ?_⟩
          cases ha2 : ((List.range N).map fun i => !decide (R k (k + 1 + i) = 0)).any id with
          | true =>
            refine ifT rfl ?_
            rw [List.any_eq_true] at ha2
            obtain ⟨b, hb, hb2⟩ := ha2
            obtain ⟨i, hi, rfl⟩ := List.mem_map.mp hb
            have hi2 := List.mem_range.mp hi
            have hne : R k (k + 1 + i) ≠ 0 := by simpa using hb2
            exact q2 H4 k S d B' ps (mt3.same.trans s4) hk run (.inr ⟨tz.mp c2, k + 1 + i, by omega, by omega, fun e => hne ((tie.zero (Nat.le_refl k) (by omega)).mpr e)⟩)
          | false =>
            refine ifF rfl ?_
            refine ⟨_, rfl, _, _, rfl, rfl, _, rfl, ifF (decide_eq_false (by omega)) ?_⟩
            have hz : ∀ p, k < p → p < n → R k p = 0 := fun p hp hpn => by
              rw [List.any_eq_false] at ha2
              have h := ha2 (!decide (R k (k + 1 + (p - (k + 1))) = 0)) (List.mem_map.mpr ⟨p - (k + 1), List.mem_range.mpr (by omega), rfl⟩)
              rw [show k + 1 + (p - (k + 1)) = p by omega] at h
              simpa using h
            have hrow := run_row jo.whole run (tz.mp c2) fun p hp hpn => (tie.zero (Nat.le_refl k) (by omega)).mp (hz p hp hpn)
            exact ⟨_, _, _, _, _, _, R, S, d, B', ps, rfl, mt3.keep s4, s4 _ _ hF3, run.skip hrow, tie.skip, out, fun i j hi hj => hB i j (by omega) (by omega)⟩
      refine ifF (int_ne c2) ?_
      have hpos : 0 < R k k := by omega
      refine ⟨_, rfl, _, _, rfl, rfl, _, rfl, ifT (decide_eq_true hpos) ?_⟩
      have hkB : 0 < B' k k := tp.mp hpos
      have hlen : (((ps.reverse.map fun p => (p.1 : Int)).map V.int)).length ≤ k := by
        have h1 := run.many
        rw [← run.leads, List.length_map] at h1
        rw [List.length_map, List.length_map, List.length_reverse]
        exact h1
      refine ⟨_, rfl, tyV_of hF3, _, rfl, F0, _, _, rfl, rfl, hF3, Nat.lt_of_lt_of_le (by omega : _ < 1001) (line_ge (by decide)), ?_⟩
      have mt4 := mt3.put (o := .lst ((ps.reverse.map fun p => (p.1 : Int)).map V.int ++ [.int (0 + (k : Int))])) hF00 apL apR
      have hD4 : upd H3 F0 (.lst ((ps.reverse.map fun p => (p.1 : Int)).map V.int ++ [.int (0 + (k : Int))])) D = some (.lst ((vec n (R k)).map V.int)) := by
        rw [upd_ne hDF]
        exact hD3
      have hF4 : upd H3 F0 (.lst ((ps.reverse.map fun p => (p.1 : Int)).map V.int ++ [.int (0 + (k : Int))])) F0 = some (.lst ((((k, B' k, d * B' k k) :: ps).reverse.map fun p => (p.1 : Int)).map V.int)) := by
        rw [upd_same, Int.zero_add]
        simp
      generalize upd H3 F0 (.lst ((ps.reverse.map fun p => (p.1 : Int)).map V.int ++ [.int (0 + (k : Int))])) = H4 at *
      have bR : ∀ i j, k ≤ i → k ≤ j → B 1000 (R i j) := fun i j hi hj => (hB i j hi hj).mono w1
      have bN : ∀ i j, k ≤ i → k ≤ j → B 2001 (El.numer R k i j) := fun i j hi hj => by
        have h1 := B.mul (bR k k (Nat.le_refl k) (Nat.le_refl k)) (bR i j hi hj)
        have h2 := B.mul (bR k i (Nat.le_refl k) hi) (bR k j (Nat.le_refl k) hj)
        have h3 := B.add h1 (y := -(R k i * R k j)) (by show (-(R k i * R k j)).natAbs < _; rw [Int.natAbs_neg]; exact h2)
        unfold El.numer
        rw [Int.sub_eq_add_neg]
        exact h3
      refine ⟨_, rfl, _, _, rfl, rfl, _, rfl, _, _, rfl, ⟨by omega, by omega, by omega, by omega⟩, ?_⟩
      refine for_range (lo := 0 + (k : Int) + 1) (n := ((n : Int) - (0 + (k : Int) + 1)).toNat) (fun t σ H5 => ∃ (v7 v9 : Option V) (g : Int), σ = [some (.ref a), some (.int n), some (.ref D), some (.ref L), some (.ref F0), some (.int (0 + (k : Int))), some (.int (R k k)), v7, some (.int g), v9] ∧
        MT H H5 L rs n (mixk k R (El.numer R k) (k + 1 + t) (k + 1)) ∧ El.Gcd (Made n k (k + 1 + t) (k + 1) R) g ∧ B 3000 g ∧ H5 D = some (.lst ((vec n (R k)).map V.int)) ∧ H5 F0 = some (.lst ((((k, B' k, d * B' k k) :: ps).reverse.map fun p => (p.1 : Int)).map V.int)))
        ⟨_, _, 0, rfl, by rw [Nat.add_zero, mixk_0]; exact mt4, El.Gcd.none made_0, by decide, hD4, hF4⟩ ?_ ?_
      · rintro t σ H5 ht ⟨v7, v9, g, rfl, mt5, gc, bg, hD5, hF5⟩
        refine ⟨_, rfl, _, _, rfl, rfl, _, rfl, _, _, rfl, ⟨by omega, by omega, by omega, by omega⟩, ?_⟩
        refine for_range (lo := 0 + (k : Int) + 1) (n := ((n : Int) - (0 + (k : Int) + 1)).toNat) (fun u σ H5 => ∃ (v7 : Option V) (g : Int), σ = [some (.ref a), some (.int n), some (.ref D), some (.ref L), some (.ref F0), some (.int (0 + (k : Int))), some (.int (R k k)), v7, some (.int g), some (.int (0 + (k : Int) + 1 + (t : Int)))] ∧
          MT H H5 L rs n (mixk k R (El.numer R k) (k + 1 + t) (k + 1 + u)) ∧ El.Gcd (Made n k (k + 1 + t) (k + 1 + u) R) g ∧ B 3000 g ∧ H5 D = some (.lst ((vec n (R k)).map V.int)) ∧ H5 F0 = some (.lst ((((k, B' k, d * B' k k) :: ps).reverse.map fun p => (p.1 : Int)).map V.int)))
          ⟨_, g, rfl, mt5, gc, bg, hD5, hF5⟩ ?_ ?_
        · clear mt5 gc bg hD5 hF5
          rintro u σ H6 hu ⟨v7, g, rfl, mt6, gc, bg, hD6, hF6⟩
          have hi : k + 1 + t < n := by omega
          have hj : k + 1 + u < n := by omega
          obtain ⟨pi, hpi1, hpi2⟩ := mt6.row (k + 1 + t) hi
          have ei : (0 + (k : Int) + 1 + (t : Int)).toNat = k + 1 + t := by omega
          have ej : (0 + (k : Int) + 1 + (u : Int)).toNat = k + 1 + u := by omega
          have ixi : atI (rs.map V.ref) (0 + (k : Int) + 1 + (t : Int)) = some (.ref pi) := at_pos (by omega) (by rw [ei, List.getElem?_map, hpi1]; rfl)
          refine ⟨_, rfl, _, rfl, _, rfl, L, _, _, _, rfl, rfl, SqL.of mt6.at_, ixi, _, rfl, pi, _, _, _, rfl, rfl, SqL.of hpi2, at_pos (by omega) (by rw [ej]; exact vecV_at hj), _, _, rfl, rfl, ?_⟩
          rw [mixk_at]
          refine ⟨wmul (bR k k (Nat.le_refl k) (Nat.le_refl k)) (bR _ _ (by omega) (by omega)) (by decide) (by decide) (by decide), ?_⟩
          refine ⟨_, rfl, _, rfl, D, _, _, _, rfl, rfl, SqL.of hD6, at_pos (by omega) (by rw [ei]; exact vecV_at hi), _, rfl, _, rfl, D, _, _, _, rfl, rfl, SqL.of hD6, at_pos (by omega) (by rw [ej]; exact vecV_at hj), _, _, rfl, rfl, wmul (bR k _ (Nat.le_refl k) (by omega)) (bR k _ (Nat.le_refl k) (by omega)) (by decide) (by decide) (by decide), _, _, rfl, rfl, ?_⟩
          refine ⟨_, rfl, _, rfl, L, _, _, _, rfl, rfl, SqL.of mt6.at_, ixi, _, rfl, pi, _, _, k + 1 + u, rfl, rfl, hpi2, by rw [vec_lenV]; unfold ixN; rw [if_pos (by omega), if_pos (by omega)]; congr 1, ?_⟩
          have mpi := List.mem_of_getElem? hpi1
          have st := (mt6.set (v := El.numer R k (k + 1 + t) (k + 1 + u)) hi hj hpi1).congr fun x y _ _ => mixk_put R (El.numer R k) (by omega) (by omega) x y
          have hD7 : upd H6 pi (.lst (((vec n (mixk k R (El.numer R k) (k + 1 + t) (k + 1 + u) (k + 1 + t))).map V.int).set (k + 1 + u) (.int (El.numer R k (k + 1 + t) (k + 1 + u))))) D = some (.lst ((vec n (R k)).map V.int)) := by
            rw [upd_ne (fun z => dpR (by rw [z]; exact mpi))]
            exact hD6
          have hF7 : upd H6 pi (.lst (((vec n (mixk k R (El.numer R k) (k + 1 + t) (k + 1 + u) (k + 1 + t))).map V.int).set (k + 1 + u) (.int (El.numer R k (k + 1 + t) (k + 1 + u))))) F0 = some (.lst ((((k, B' k, d * B' k k) :: ps).reverse.map fun p => (p.1 : Int)).map V.int)) := by
            rw [upd_ne (fun z => apR (by rw [z]; exact mpi))]
            exact hF6
          have hv7 : ((vec n (mixk k R (El.numer R k) (k + 1 + t) (k + 1 + (u + 1)) (k + 1 + t))).map V.int)[k + 1 + u]? = some (.int (El.numer R k (k + 1 + t) (k + 1 + u))) := by
            rw [vecV_at hj]
            unfold mixk
            rw [if_pos (by omega)]
          obtain ⟨pi', hpi1', hpi2'⟩ := st.row (k + 1 + t) hi
          rw [hpi1] at hpi1'
          cases hpi1'
          have hst := st
          have gc2 : El.Gcd (Made n k (k + 1 + t) (k + 1 + (u + 1)) R) (gI g (El.numer R k (k + 1 + t) (k + 1 + u))) := gc.more fun y => made_put (by omega) (by omega) hi hj y
          have bg2 : B 3000 (gI g (El.numer R k (k + 1 + t) (k + 1 + u))) := by
            by_cases z : El.numer R k (k + 1 + t) (k + 1 + u) = 0
            · rw [z]
              show (((Nat.gcd g.natAbs (0 : Int).natAbs : Nat) : Int)).natAbs < _
              rw [show (0 : Int).natAbs = 0 from rfl, Nat.gcd_zero_right]
              exact bg
            · have h1 : Nat.gcd g.natAbs (El.numer R k (k + 1 + t) (k + 1 + u)).natAbs ≤ (El.numer R k (k + 1 + t) (k + 1 + u)).natAbs := Nat.le_of_dvd (by omega) (Nat.gcd_dvd_right _ _)
              have h2 := (bN (k + 1 + t) (k + 1 + u) (by omega) (by omega)).mono (show 2001 ≤ 3000 by decide)
              exact Nat.lt_of_le_of_lt h1 h2
          refine ⟨_, rfl, rfl, _, rfl, ?_⟩
          by_cases g1 : g = 1
          · refine ifF (ne_F g1) ⟨_, g, rfl, hst, ?_, ?_, hD7, hF7⟩
            · have e : gI g (El.numer R k (k + 1 + t) (k + 1 + u)) = g := by rw [g1]; exact gI_unit _
              rw [e] at gc2
              exact gc2
            · exact bg
          · refine ifT (ne_T g1) ⟨_, rfl, _, rfl, _, rfl, L, _, _, _, rfl, rfl, SqL.of hst.at_, ixi, _, rfl, pi, _, _, _, rfl, rfl, SqL.of hpi2', at_pos (by omega) (by rw [ej]; exact hv7), g, _, rfl, (bN _ _ (by omega) (by omega)).mono (by decide), _, _, rfl, hst, gc2, bg2, hD7, hF7⟩
        · rintro σ H6 ⟨v7, g, rfl, mt6, gc, bg, hD6, hF6⟩
          have en : k + 1 + ((n : Int) - (0 + (k : Int) + 1)).toNat = n := by omega
          rw [en] at mt6 gc
          exact ⟨_, _, g, rfl, mt6.congr (mixk_row _ _ _ _ _), gc.cong made_row, bg, hD6, hF6⟩
      · rintro σ H5 ⟨v7, v9, g, rfl, mt5, gc, bg, hD5, hF5⟩
        have en : k + 1 + ((n : Int) - (0 + (k : Int) + 1)).toNat = n := by omega
        rw [en] at mt5 gc
        have gcN : El.Gcd (El.Nums n k R) g := gc.cong made_n
        have mt5' := mt5.congr (mixk_n _ _ _ _ _)
        obtain ⟨tie', bnd'⟩ := El.Tie.next (run.inv jo.whole.sym) hkB tie out g gcN
        have fin : ∀ H9, MT H H9 L rs n (El.next k R g) → H9 F0 = some (.lst ((((k, B' k, d * B' k k) :: ps).reverse.map fun p => (p.1 : Int)).map V.int)) → ∀ v7 v8 v9 : Option V, ∃ (v2 v5 v6 v7' v8' v9' : Option V) (R' : Nat → El.Row) (S : List Nat) (d : Int) (B' : Nat → El.Row) (ps : List El.Pv), [some (V.ref a), some (.int n), some (.ref D), some (.ref L), some (.ref F0), some (.int (0 + (k : Int))), some (.int (R k k)), v7, v8, v9] = [some (.ref a), some (.int n), v2, some (.ref L), some (.ref F0), v5, v6, v7', v8', v9'] ∧ MT H H9 L rs n R' ∧
            H9 F0 = some (.lst ((ps.reverse.map fun p => (p.1 : Int)).map V.int)) ∧ El.Run M (k + 1) S d B' ps ∧ El.Tie (k + 1) R' B' ∧ El.Out n R' ∧ ∀ i j, k + 1 ≤ i → k + 1 ≤ j → B w (R' i j) := fun H9 mt9 hF9 v7 v8 v9 => by
          refine ⟨_, _, _, v7, v8, v9, El.next k R g, _, _, _, _, rfl, mt9, hF9, .pivot run hkB, tie', El.next_out out, fun i j hi hj => ?_⟩
          by_cases c : i < n ∧ j < n
          · have b1 := bnd' i j (by omega) (by omega)
            have b2 := (run_bound jo.whole jo.bd1 jo.abs jo.bB (.pivot run hkB) (show k + 1 < n by omega)).1 i j
            exact Nat.lt_of_le_of_lt b1 b2
          · rw [El.next_out out i j (by omega)]
            exact Nat.two_pow_pos w
        refine ⟨_, rfl, _, _, rfl, rfl, _, rfl, ?_⟩
        by_cases g1 : 1 < g
        · refine ifT (decide_eq_true g1) ?_
          have en2 : (El.next k R g) = fun a b => if k < a ∧ k < b then (fun a b => El.numer R k a b / g) a b else (fun a b => if k < a ∧ k < b then El.numer R k a b else R a b) a b := by
            funext x y
            unfold El.next
            rw [if_pos g1]
            by_cases c : k < x ∧ k < y
            · rw [if_pos c, if_pos c]
            · rw [if_neg c, if_neg c]
              show R x y = if k < x ∧ k < y then El.numer R k x y else R x y
              rw [if_neg c]
          clear gc mt5
          refine ⟨_, rfl, _, _, rfl, rfl, _, rfl, _, _, rfl, ⟨by omega, by omega, by omega, by omega⟩, ?_⟩
          refine for_range (lo := 0 + (k : Int) + 1) (n := ((n : Int) - (0 + (k : Int) + 1)).toNat) (fun t σ H5 => ∃ (v7 v9 : Option V), σ = [some (.ref a), some (.int n), some (.ref D), some (.ref L), some (.ref F0), some (.int (0 + (k : Int))), some (.int (R k k)), v7, some (.int g), v9] ∧
            MT H H5 L rs n (mixk k (fun a b => if k < a ∧ k < b then El.numer R k a b else R a b) (fun a b => El.numer R k a b / g) (k + 1 + t) (k + 1)) ∧ H5 F0 = some (.lst ((((k, B' k, d * B' k k) :: ps).reverse.map fun p => (p.1 : Int)).map V.int)))
            ⟨_, _, rfl, by rw [Nat.add_zero, mixk_0]; exact mt5', hF5⟩ ?_ ?_
          · clear mt5' hF5
            rintro t σ H5 ht ⟨v7, v9, rfl, mt5, hF5⟩
            refine ⟨_, rfl, _, _, rfl, rfl, _, rfl, _, _, rfl, ⟨by omega, by omega, by omega, by omega⟩, ?_⟩
            refine for_range (lo := 0 + (k : Int) + 1) (n := ((n : Int) - (0 + (k : Int) + 1)).toNat) (fun u σ H5 => ∃ (v7 : Option V), σ = [some (.ref a), some (.int n), some (.ref D), some (.ref L), some (.ref F0), some (.int (0 + (k : Int))), some (.int (R k k)), v7, some (.int g), some (.int (0 + (k : Int) + 1 + (t : Int)))] ∧
              MT H H5 L rs n (mixk k (fun a b => if k < a ∧ k < b then El.numer R k a b else R a b) (fun a b => El.numer R k a b / g) (k + 1 + t) (k + 1 + u)) ∧ H5 F0 = some (.lst ((((k, B' k, d * B' k k) :: ps).reverse.map fun p => (p.1 : Int)).map V.int)))
              ⟨_, rfl, mt5, hF5⟩ ?_ ?_
            · clear mt5 hF5
              rintro u σ H6 hu ⟨v7, rfl, mt6, hF6⟩
              have hi : k + 1 + t < n := by omega
              have hj : k + 1 + u < n := by omega
              obtain ⟨pi, hpi1, hpi2⟩ := mt6.row (k + 1 + t) hi
              have ei : (0 + (k : Int) + 1 + (t : Int)).toNat = k + 1 + t := by omega
              have ej : (0 + (k : Int) + 1 + (u : Int)).toNat = k + 1 + u := by omega
              have ixi : atI (rs.map V.ref) (0 + (k : Int) + 1 + (t : Int)) = some (.ref pi) := at_pos (by omega) (by rw [ei, List.getElem?_map, hpi1]; rfl)
              refine ⟨_, rfl, _, rfl, L, _, _, _, rfl, rfl, SqL.of mt6.at_, ixi, _, rfl, pi, _, _, _, rfl, rfl, SqL.of hpi2, at_pos (by omega) (by rw [ej]; exact vecV_at hj), _, rfl, _, _, rfl, rfl, wdiv (by omega) (bg.mono (by decide)) (by decide) (show 9000 ≤ 9000 by decide), ?_⟩
              refine ⟨_, rfl, _, rfl, L, _, _, _, rfl, rfl, SqL.of mt6.at_, ixi, _, rfl, pi, _, _, k + 1 + u, rfl, rfl, hpi2, by rw [vec_lenV]; unfold ixN; rw [if_pos (by omega), if_pos (by omega)]; congr 1, ?_⟩
              rw [mixk_at, if_pos (by omega)]
              have mpi := List.mem_of_getElem? hpi1
              have st := (mt6.set (v := El.numer R k (k + 1 + t) (k + 1 + u) / g) hi hj hpi1).congr fun x y _ _ => mixk_put _ (fun a b => El.numer R k a b / g) (by omega) (by omega) x y
              refine ⟨_, rfl, st, ?_⟩
              rw [upd_ne (fun z => apR (by rw [z]; exact mpi))]
              exact hF6
            · rintro σ H6 ⟨v7, rfl, mt6, hF6⟩
              rw [en] at mt6
              exact ⟨_, _, rfl, mt6.congr (mixk_row _ _ _ _ _), hF6⟩
          · rintro σ H6 ⟨v7, v9, rfl, mt6, hF6⟩
            rw [en] at mt6
            exact fin H6 ((mt6.congr (mixk_n _ _ _ _ _)).congr fun x y _ _ => by rw [en2]) hF6 _ _ _
        · refine ifF (decide_eq_false g1) (fin H5 (mt5'.congr fun x y _ _ => ?_) hF5 _ _ _)
          unfold El.next
          rw [if_neg g1]
    · rintro σ H2 ⟨v2, v5, v6, v7, v8, v9, R, S, d, B', ps, rfl, mt2, hF2, run, _⟩
      exact ⟨_, rfl, q1 _ _ _ _ _ _ mt2.same run hF2⟩
end
end P01
set_option exponentiation.threshold 3000
namespace P01
open PySem PySem.Spec PyProof.Rows L2 SX EX WK
theorem iteI {a b : Int} {A B : Prop} (h1 : a = b → A) (h2 : a ≠ b → B) : if decide (V.int a = V.int b) = true then A else B := by
  by_cases c : a = b
  · exact ifT (int_eq c) (h1 c)
  · exact ifF (int_ne c) (h2 c)
theorem one_line : 1 ≤ sizeLine := line_ge (by omega)
theorem szs {zs : List Int} (h : zs.all (fun z => decide (0 < z) && decide (z.natAbs < 2 ^ 2000)) = true) : ∀ z ∈ zs, 0 < z ∧ z.natAbs < 2 ^ 2000 := fun z hz => by
  have := List.all_eq_true.mp h z hz
  rw [Bool.and_eq_true] at this
  exact ⟨of_decide_eq_true this.1, of_decide_eq_true this.2⟩
theorem none_of {H H' : Hp} {r : Addr} (s : Same H H') (h : H' r = none) : H r = none := by
  cases e : H r with
  | none => rfl
  | some o => rw [s _ _ e] at h; cases h
theorem p12 : (10 : Int) ^ (12 : Int).toNat = 1000000000000 := by decide
theorem p11 : (10 : Int) ^ (11 : Int).toNat = 100000000000 := by decide
theorem cut_tail {m a b : Nat} {y : Nat → Int} (h : m = a + b) : cutV ((vec m y).map V.int) (some (a : Int)) none = (vec b fun i => y (a + i)).map V.int := by
  subst h
  unfold cutV
  rw [vec_lenV, sIx_of rfl (by omega)]
  have e : HT.sIx (a + b) (a + b) none = a + b := rfl
  rw [e]
  refine List.ext_getElem? fun i => ?_
  by_cases hi : i < b
  · rw [vecV_at hi, List.getElem?_take, if_pos (by omega), List.getElem?_drop, vecV_at (by omega)]
  · rw [List.getElem?_eq_none (by rw [List.length_take, List.length_drop, vec_lenV]; omega), List.getElem?_eq_none (by rw [vec_lenV]; omega)]
theorem cut_head {m a : Nat} {y : Nat → Int} {z : Int} (e : z = (a : Int)) (h : a ≤ m) : cutV ((vec m y).map V.int) none (some z) = (vec a y).map V.int := by
  unfold cutV
  rw [vec_lenV, sIx_of e h]
  have e0 : HT.sIx m 0 none = 0 := rfl
  rw [e0]
  refine List.ext_getElem? fun i => ?_
  by_cases hi : i < a
  · rw [vecV_at hi, List.getElem?_take, if_pos (by omega), List.drop_zero, vecV_at (by omega)]
  · rw [List.getElem?_eq_none (by rw [List.length_take, List.length_drop, vec_lenV]; omega), List.getElem?_eq_none (by rw [vec_lenV]; omega)]
theorem vec_cat {a b : Nat} {x y : Nat → Int} : (vec a x).map V.int ++ (vec b y).map V.int = (vec (a + b) fun i => if i < a then x i else y (i - a)).map V.int := by
  refine List.ext_getElem? fun i => ?_
  by_cases hi : i < a
  · rw [List.getElem?_append_left (by rw [vec_lenV]; exact hi), vecV_at hi, vecV_at (by omega), if_pos hi]
  · rw [List.getElem?_append_right (by rw [vec_lenV]; omega), vec_lenV]
    by_cases h2 : i < a + b
    · rw [vecV_at (by omega), vecV_at h2, if_neg hi]
    · rw [List.getElem?_eq_none (by rw [vec_lenV]; omega), List.getElem?_eq_none (by rw [vec_lenV]; omega)]
theorem dg {ns zs : List Int} {i : Nat} {z : Int} (d : Dig ns zs) (e : zs[i]? = some z) : ∃ n, (ns.map V.int)[i]? = some (.int n) ∧ 0 ≤ n ∧ n < z := by
  obtain ⟨n, h1, h2, h3⟩ := d.get e
  exact ⟨n, at_int h1, h2, h3⟩
def zsA : List Int := [7, 7, 7, 7, 7, 7, 7, 7, 7, 7, 8, 5, 10 ^ (12 : Int).toNat]
theorem zsA_ok : ∀ z ∈ zsA, 0 < z ∧ z.natAbs < 2 ^ 2000 := szs (by decide +kernel)
/-- bounds of a drawn row and its weight -/
def rb (wd : Int) : Nat := if wd = 5 then 3 else 39
def wbd (wd : Int) : Nat := if wd = 5 then 50 else 10
theorem B_rb {wd x : Int} (h1 : wd = 5 → -7 ≤ x ∧ x ≤ 7) (h2 : -500000000000 ≤ x ∧ x ≤ 500000000000) : B (rb wd) x := by
  unfold rb
  by_cases c : wd = 5
  · rw [if_pos c]
    have := h1 c
    show x.natAbs < 2 ^ 3
    omega
  · rw [if_neg c]
    show x.natAbs < 2 ^ 39
    omega
/-- a drawn row under work -/
def LineAt (H H' : Hp) (b D : Addr) (n : Nat) (y x : Nat → Int) (wd : Int) : Prop := Same H H' ∧ H D = none ∧ D ≠ b ∧ H' b = some (.lst ((vec 13 y).map V.int)) ∧ H' D = some (.lst ((vec n x).map V.int)) ∧ ∀ i, i < n → B (rb wd) (x i)
theorem wts {j : Nat} (h : j < 8) : ∃ wt : Int, ([V.int 0, V.int 1, V.int 0, V.int 2, V.int 3, V.int 0, V.int 7, V.int 1000] : List V)[j]? = some (.int wt) ∧ 0 ≤ wt ∧ wt ≤ 1000 := by
  have : j = 0 ∨ j = 1 ∨ j = 2 ∨ j = 3 ∨ j = 4 ∨ j = 5 ∨ j = 6 ∨ j = 7 := by omega
  rcases this with e | e | e | e | e | e | e | e <;> (subst e; exact ⟨_, rfl, by decide, by decide⟩)
section
variable {P : Program} {w : World} {K : PySem.W.Frag} {mg : Str → Option Value} {base : Heap} {f : Addr} {fd : FuncData} {cF cR : Addr}
def spPart : Sp := fun vs H Q _ => ∃ (c e wd : Int) (n k : Nat), vs = [.int c, .int (n : Int), .int (k : Int), .int e, .int wd] ∧ n ≤ 10 ∧ k ≤ 10 ∧
  ∀ (p r : Addr) (x : Nat → Int) (wt : Int) (H' : Hp), H p = none → H r = none → Same H H' → H' p = some (.lst [.ref r, .int wt]) → H' r = some (.lst ((vec n x).map V.int)) → 0 ≤ wt → (wd ≠ 5 → wt ≤ 1000) → B (wbd wd) wt → (∀ i, i < n → B (rb wd) (x i)) → Q (.ref p) H'
abbrev s__law_draw_part : Stmt := top 44
abbrev N__law_draw_part : List Str := ["cell", "size", "k", "echelon", "wide", "row", "line", "weight", "j"]
theorem sc__law_draw_part : FnScope N__law_draw_part ["cell", "size", "k", "echelon", "wide"] (defScope s__law_draw_part) := ⟨rfl, rfl, rfl, by decide +kernel, rfl, by decide +kernel, by decide +kernel⟩
theorem ok__law_draw_part (F : Fun K "_law_draw_part" "_law_draw_part" s__law_draw_part f fd) (T : Txt mg) (C__law_digits : Cal P w K mg base 1 "_law_digits" ["cell", "sizes"] (spDigits K)) : FnOk P w K mg base CX0 2 f fd ["cell", "size", "k", "echelon", "wide"] spPart := by
  refine F.ok sc__law_draw_part (fun vs H Q E h => ?_) (fun cdv A outer s H vs Q E hr h => ?_)
  · obtain ⟨c, e, wd, n, k, rfl, _⟩ := h
    rfl
  obtain ⟨c, e, wd, n, k, rfl, hn, hk, q⟩ := h
  refine ⟨_, (pss_cons (ps_set (i := 5) sc__law_draw_part.nd rfl (Or.inr rfl) (pe_cal C__law_digits (hr.mono (by omega)) rfl (pa_cons (pv 0) (pa_cons (pe_op op_cat (pe_op op_rep (pe_lst (pa_cons pe_int pa_nil)) pe_int) (pe_lst (pa_cons pe_int (pa_cons pe_int (pa_cons (pe_op op_pow pe_int pe_int) pa_nil))))) pa_nil))))
  (pss_cons (ps_setLc (i := 6) (own := [("j", 8)]) (g := gName 8) (tt := tYes) (by rfl) sc__law_draw_part.nd rfl rfl (sw_true rfl rfl rfl (by decide +kernel)) (pi_range1 (by rfl) T.b_range (pa_cons (pv 1) pa_nil)) (blkOk_by (N := N__law_draw_part) (sc := defScope s__law_draw_part) (by decide +kernel)) (fun _ _ _ _ _ => (pg_name (i := 8) sc__law_draw_part.nd rfl (Or.inl rfl))) (fun _ _ _ _ _ => pts_nil) (fun _ _ _ _ _ => (pe_op op_sub (pe_ix (ix_listK (K := K) rfl) (pv 5) (pv 8) (fun _ _ => rfl)) pe_int)))
  (C8.pss_cut (ps_if (pt_cmpR op_eq (pv 4) pe_int (nomark _)) (pss_one (ps_setLc (i := 6) (own := [("j", 8)]) (g := gName 8) (tt := tYes) (by rfl) sc__law_draw_part.nd rfl rfl (sw_true rfl rfl rfl (by decide +kernel)) (pi_range1 (by rfl) T.b_range (pa_cons (pv 1) pa_nil)) (blkOk_by (N := N__law_draw_part) (sc := defScope s__law_draw_part) (by decide +kernel)) (fun _ _ _ _ _ => (pg_name (i := 8) sc__law_draw_part.nd rfl (Or.inl rfl))) (fun _ _ _ _ _ => pts_nil) (fun _ _ _ _ _ => (pe_op op_add (pe_op op_mulW (pe_op op_sub (pe_ix (ix_listK (K := K) rfl) (pv 5) (pv 8) (fun _ _ => rfl)) pe_int) pe_int) (pv 8))))) pss_nil)
  (C8.pss_cut (ps_if (pt_cmpR op_eq (pv 4) pe_int (nomark _)) (pss_one (ps_setLc (i := 6) (own := [("j", 8)]) (g := gName 8) (tt := tYes) (by rfl) sc__law_draw_part.nd rfl rfl (sw_true rfl rfl rfl (by decide +kernel)) (pi_range1 (by rfl) T.b_range (pa_cons (pv 1) pa_nil)) (blkOk_by (N := N__law_draw_part) (sc := defScope s__law_draw_part) (by decide +kernel)) (fun _ _ _ _ _ => (pg_name (i := 8) sc__law_draw_part.nd rfl (Or.inl rfl))) (fun _ _ _ _ _ => pts_nil) (fun _ _ _ _ _ => (pe_op op_mulW (pe_op op_sub (pe_ix (ix_listK (K := K) rfl) (pv 5) (pv 8) (fun _ _ => rfl)) pe_int) (pe_callTy call_int1 (by rfl) T.b_int (by decide +kernel) (pa_cons (pe_cmpR op_gt (pe_ix (ix_listK (K := K) rfl) (pv 5) (pv 8) (fun _ _ => rfl)) pe_int (nomark _)) pa_nil)))))) pss_nil)
  (C8.pss_cut (ps_if (PW.pt (pw_and (pt_cmpR op_eq (pv 4) pe_int (nomark _)) (pw_and1 (pt_cmpR op_gt (pv 1) pe_int (nomark _))))) (pss_one (ps_asg (pe_op op_sub (pe_ix ix_list (pv 6) pe_int (fun _ _ => rfl)) (pe_ix ix_list (pv 6) (pe_op op_fdivW (pv 1) pe_int) (fun _ _ => rfl))) (pg_sub (pv 6) (pe_op op_sub (pv 1) pe_int) set_list))) pss_nil)
  (C8.pss_cut (ps_if (pt_cmpR op_eq (pv 4) pe_int (nomark _)) (pss_one (ps_setLc (i := 6) (own := [("j", 8)]) (g := gName 8) (tt := tYes) (by rfl) sc__law_draw_part.nd rfl rfl (sw_true rfl rfl rfl (by decide +kernel)) (pi_range1 (by rfl) T.b_range (pa_cons (pv 1) pa_nil)) (blkOk_by (N := N__law_draw_part) (sc := defScope s__law_draw_part) (by decide +kernel)) (fun _ _ _ _ _ => (pg_name (i := 8) sc__law_draw_part.nd rfl (Or.inl rfl))) (fun _ _ _ _ _ => pts_nil) (fun _ _ _ _ _ => (pe_op op_add (pe_op op_mulW (pe_op op_sub (pe_ix (ix_listK (K := K) rfl) (pv 5) (pv 8) (fun _ _ => rfl)) pe_int) (pe_op op_pow pe_int pe_int)) (pe_ix (ix_listK (K := K) rfl) (pv 5) (pe_op op_sub pe_int (pv 8)) (fun _ _ => rfl)))))) pss_nil)
  (C8.pss_cut (ps_if (PW.pt (pw_and (pt_cmpR op_eq (pv 3) pe_int (nomark _)) (pw_and1 (pt_cmpR op_lt (pv 2) (pv 1) (nomark _))))) (pss_one (ps_set (i := 6) sc__law_draw_part.nd rfl (Or.inl rfl) (pe_op op_cat (pe_op op_cat (pe_lc (own := [("j", 8)]) (g := gName 8) (tt := tYes) (by rfl) sc__law_draw_part.nd (pi_range1 (by rfl) T.b_range (pa_cons (pv 2) pa_nil)) (blkOk_by (N := N__law_draw_part) (sc := defScope s__law_draw_part) (by decide +kernel)) (fun _ _ _ _ _ => (pg_name (i := 8) sc__law_draw_part.nd rfl (Or.inl rfl))) (fun _ _ _ _ _ => pts_nil) (fun _ _ _ _ _ => pe_int)) (pe_lst (pa_cons (pe_op op_add pe_int (pe_ix ix_list (pv 5) pe_int (fun _ _ => rfl))) pa_nil))) (pe_slice sl_list (pv 6) (po_some (pe_op op_add (pv 2) pe_int)) po_none)))) pss_nil)
  (pss_cons (ps_set (i := 7) sc__law_draw_part.nd rfl (Or.inl rfl) (pe_ix ix_list (pe_lst (pa_cons pe_int (pa_cons pe_int (pa_cons pe_int (pa_cons pe_int (pa_cons pe_int (pa_cons pe_int (pa_cons pe_int (pa_cons pe_int pa_nil))))))))) (pe_ix ix_list (pv 5) pe_int (fun _ _ => rfl)) (fun _ _ => rfl)))
  (C8.pss_cut (ps_if (pt_cmpR op_eq (pv 4) pe_int (nomark _)) (pss_one (ps_set (i := 7) sc__law_draw_part.nd rfl (Or.inl rfl) (pe_op op_mulW (pv 7) (pe_op op_add pe_int (pe_ix ix_list (pv 5) pe_int (fun _ _ => rfl)))))) pss_nil)
  (pss_one (ps_ret (pe_lst (pa_cons (pv 6) (pa_cons (pv 7) pa_nil)))))))))))))), ?_⟩
  refine ⟨_, rfl, one_line, fun l1 hl1 => ⟨l1, 10, _, rfl, rfl, upd_same, by decide, by decide, line_ge (by decide), fun l2 hl2 => ?_⟩⟩
  refine ⟨_, _, rfl, rfl, ⟨by decide, by decide, by decide⟩, three_line, fun l3 hl3 => ?_⟩
  refine ⟨l2, l3, _, _, rfl, rfl, same_new hl3 _ _ _ upd_same, upd_same, line_ge (by decide), fun l4 hl4 => ?_⟩
  have s4 := fun o => (same_new hl1 (.lst [V.int 7])).trans ((same_new hl2 (.lst (List.replicate (10 : Int).toNat [V.int 7]).flatten)).trans ((same_new hl3 (.lst [V.int 8, V.int 5, V.int (10 ^ (12 : Int).toNat)])).trans (same_new hl4 o)))
  refine ⟨c, l4, zsA, rfl, SqL.of (by rw [upd_same]; rfl), by decide, zsA_ok, fun b ns hb hd => ?_⟩
  have hl : ns.length = 13 := by rw [hd.len]; rfl
  obtain ⟨y, hy⟩ : ∃ y : Nat → Int, y = fun i => ns.getD i 0 := ⟨_, rfl⟩
  have ev : ns = vec 13 y := by rw [hy]; exact vec_of hl
  have yz : ∀ (i : Nat) (z : Int), zsA[i]? = some z → 0 ≤ y i ∧ y i < z := fun i z h => by
    obtain ⟨x, h1, h2, h3⟩ := hd.get h
    rw [hy]
    show 0 ≤ ns.getD i 0 ∧ ns.getD i 0 < z
    rw [List.getD_eq_getElem?_getD, h1]
    exact ⟨h2, h3⟩
  have y7 : ∀ i, i < 10 → 0 ≤ y i ∧ y i < 7 := fun i hi => yz i 7 ((by decide : ∀ j, j < 10 → zsA[j]? = some (7 : Int)) i hi)
  have y10 := yz 10 8 rfl
  have y11 := yz 11 5 rfl
  have y12 := yz 12 (10 ^ (12 : Int).toNat) rfl
  rw [p12] at y12
  generalize h5 : upd _ b _ = H2
  have s2 : Same H H2 := by rw [← h5]; exact (s4 _).trans (same_new hb _)
  have hb2 : H2 b = some (.lst ((vec 13 y).map V.int)) := by rw [← h5, upd_same, ev]
  clear h5 hb s4 hl1 hl2 hl3 hl4 hy ev yz hd
  refine ⟨_, rfl, (n : Int), rfl, by omega, by omega, fun D hD => ?_⟩
  refine lc_m (walk_range (lo := 0) (n := n)) RI (stb_RI (K := K)) (List.range n) (by rw [List.length_range]) (by rw [List.length_range]; omega) hD (fun _ _ => trivial) (fun _ _ _ _ => ys_fn) (fun j => y j - 3) (fun c i x H3 H4 hc s3 s4 yl A B hA => ?_) (fun H3 l s3 hl3 rs => ?_)
  · obtain ⟨hc1, rfl⟩ := in_range hc
    rw [yl.2]
    exact ⟨rfl, lc_yes ⟨_, rfl, _, rfl, b, _, _, _, rfl, rfl, SqL.of (s4 _ _ hb2), ixv (by omega), _, _, rfl, rfl, hA _ _ (fun _ _ h => h) rfl⟩⟩
  have la : LineAt H H3 b D n y (fun j => y j - 3) wd := ⟨s2.trans s3, none_of s2 hD, fun z => (by rw [z, hb2] at hD; cases hD), s3 _ _ hb2, by rw [hl3, rs.ints]; rfl, fun i hi => (show B (rb wd) (y i - 3) from B_rb (fun _ => by have := y7 i (by omega); omega) (by have := y7 i (by omega); omega))⟩
  have lb : wd ≠ 1 → wd ≠ 2 → ∀ i, i < n → -3 ≤ (fun j => y j - 3) i ∧ (fun j => y j - 3) i ≤ 3 := fun _ _ i hi => by have := y7 i (by omega); show -3 ≤ y i - 3 ∧ y i - 3 ≤ 3; omega
  clear rs hl3 l s3 hD hb2 s2
  generalize (fun j => y j - 3) = x0 at la lb
  refine ⟨fun σ' H' => ∃ D x, σ' = [some (.int c), some (.int (n : Int)), some (.int (k : Int)), some (.int e), some (.int wd), some (.ref b), some (.ref D), none, none] ∧ LineAt H H' b D n y x wd ∧ (wd ≠ 1 → wd ≠ 2 → ∀ i, i < n → -3 ≤ x i ∧ x i ≤ 3), ?_, ?_⟩
  · refine ⟨_, rfl, rfl, _, rfl, iteI (fun e1 => ?_) (fun _ => ⟨D, _, rfl, la, lb⟩)⟩
    obtain ⟨s2, _, _, hb2, _, _⟩ := la
    refine ⟨_, rfl, (n : Int), rfl, by omega, by omega, fun D hD => ?_⟩
    refine lc_m (walk_range (lo := 0) (n := n)) RI (stb_RI (K := K)) (List.range n) (by rw [List.length_range]) (by rw [List.length_range]; omega) hD (fun _ _ => trivial) (fun _ _ _ _ => ys_fn) (fun j => (y j - 3) * 100003 + j) (fun c i x H3 H4 hc s3 s4 yl A B hA => ?_) (fun H3 l s3 hl3 rs => ?_)
    · obtain ⟨hc1, rfl⟩ := in_range hc
      rw [yl.2]
      refine ⟨rfl, lc_yes ⟨_, rfl, _, rfl, b, _, _, _, rfl, rfl, SqL.of (s4 _ _ hb2), ixv (by omega), _, _, rfl, rfl, _, _, rfl, rfl, wmul (m := 39) (n := 39) ?_ (by decide) (by decide) (by decide) (by decide), _, rfl, _, _, rfl, rfl, hA _ _ (fun _ _ h => h) (by rw [Int.zero_add]; rfl)⟩⟩
      have := y7 i (by omega)
      show (y i - 3).natAbs < 2 ^ 39
      omega
    · exact ⟨D, _, rfl, ⟨s2.trans s3, none_of s2 hD, fun z => (by rw [z, hb2] at hD; cases hD), s3 _ _ hb2, by rw [hl3, rs.ints]; rfl, fun i hi => (show B (rb wd) ((y i - 3) * 100003 + i) from B_rb (fun _ => by omega) (by have := y7 i (by omega); omega))⟩, fun h => absurd e1 h⟩
  clear la lb x0 D
  rintro σ H4 ⟨D, x0, rfl, la, lb⟩
  refine ⟨fun σ' H' => ∃ D x, σ' = [some (.int c), some (.int (n : Int)), some (.int (k : Int)), some (.int e), some (.int wd), some (.ref b), some (.ref D), none, none] ∧ LineAt H H' b D n y x wd ∧ (wd ≠ 1 → wd ≠ 2 → ∀ i, i < n → -3 ≤ x i ∧ x i ≤ 3), ?_, ?_⟩
  · refine ⟨_, rfl, rfl, _, rfl, iteI (fun e1 => ?_) (fun _ => ⟨D, _, rfl, la, lb⟩)⟩
    obtain ⟨s2, _, _, hb2, _, _⟩ := la
    refine ⟨_, rfl, (n : Int), rfl, by omega, by omega, fun D hD => ?_⟩
    refine lc_m (walk_range (lo := 0) (n := n)) RI (stb_RI (K := K)) (List.range n) (by rw [List.length_range]) (by rw [List.length_range]; omega) hD (fun _ _ => trivial) (fun _ _ _ _ => ys_fn) (fun j => (y j - 3) * (if decide (3 < y j) = true then 1 else 0)) (fun c i x H3 H4 hc s3 s4 yl A B hA => ?_) (fun H3 l s3 hl3 rs => ?_)
    · obtain ⟨hc1, rfl⟩ := in_range hc
      rw [yl.2]
      refine ⟨rfl, lc_yes ⟨_, rfl, _, rfl, b, _, _, _, rfl, rfl, SqL.of (s4 _ _ hb2), ixv (by omega), _, _, rfl, rfl, _, rfl, _, rfl, b, _, _, _, rfl, rfl, SqL.of (s4 _ _ hb2), ixv (by omega), _, _, rfl, rfl, .inr ⟨_, rfl, _, _, rfl, rfl, wmul (m := 39) (n := 39) ?_ ?_ (by decide) (by decide) (by decide), hA _ _ (fun _ _ h => h) rfl⟩⟩⟩
      · have := y7 i (by omega)
        show (y i - 3).natAbs < 2 ^ 39
        omega
      · split <;> decide
    · exact ⟨D, _, rfl, ⟨s2.trans s3, none_of s2 hD, fun z => (by rw [z, hb2] at hD; cases hD), s3 _ _ hb2, by rw [hl3, rs.ints]; rfl, fun i hi => (show B (rb wd) ((y i - 3) * (if decide (3 < y i) = true then 1 else 0)) from B_rb (fun _ => by omega) (by have := y7 i (by omega); split <;> omega))⟩, fun _ h => absurd e1 h⟩
  clear la lb x0 D H4
  rintro σ H4 ⟨D, x0, rfl, la, lb⟩
  refine ⟨fun σ' H' => ∃ D x, σ' = [some (.int c), some (.int (n : Int)), some (.int (k : Int)), some (.int e), some (.int wd), some (.ref b), some (.ref D), none, none] ∧ LineAt H H' b D n y x wd, ?_, ?_⟩
  · refine ⟨_, rfl, rfl, _, rfl, iteI (fun e1 => ?_) (fun _ => ifF rfl ⟨D, _, rfl, la⟩)⟩
    refine ⟨_, rfl, _, _, rfl, rfl, _, rfl, ?_⟩
    by_cases c1 : 1 < n
    · refine ifT (decide_eq_true (by omega)) ?_
      obtain ⟨s2, hD0, hDb, hb2, hD2, hx⟩ := la
      have lb := lb (by omega) (by omega)
      have e2 : ((n : Int) / 2).toNat = n / 2 := by omega
      have l0 := lb 0 (by omega)
      have l2 := lb (n / 2) (by omega)
      refine ⟨_, rfl, D, _, 0, _, rfl, rfl, SqL.of hD2, at_pos (by decide) (vecV_at (by omega)), _, rfl, _, rfl, _, _, rfl, rfl, ⟨by decide, by decide⟩, D, _, _, _, rfl, rfl, SqL.of hD2, at_pos (by omega) (by rw [e2]; exact vecV_at (by omega)), _, _, rfl, rfl, ?_⟩
      refine ⟨_, rfl, _, rfl, _, _, rfl, rfl, D, _, _, n - 1, rfl, rfl, hD2, by rw [vec_lenV]; unfold ixN; rw [if_pos (by omega), if_pos (by omega)]; congr 1; omega, ?_⟩
      refine ⟨D, _, rfl, same_at s2 hD0, hD0, hDb, by rw [upd_ne (Ne.symm hDb)]; exact hb2, by rw [upd_same, vec_set (by omega)], fun i hi => ?_⟩
      show B (rb wd) (if i = n - 1 then x0 0 - x0 (n / 2) else x0 i)
      split
      · exact B_rb (fun _ => by omega) (by omega)
      · exact hx i hi
    · exact ifF (decide_eq_false (by omega)) ⟨D, _, rfl, la⟩
  clear la lb x0 D H4
  rintro σ H4 ⟨D, x0, rfl, la⟩
  refine ⟨fun σ' H' => ∃ D x, σ' = [some (.int c), some (.int (n : Int)), some (.int (k : Int)), some (.int e), some (.int wd), some (.ref b), some (.ref D), none, none] ∧ LineAt H H' b D n y x wd, ?_, ?_⟩
  · refine ⟨_, rfl, rfl, _, rfl, iteI (fun e1 => ?_) (fun _ => ⟨D, _, rfl, la⟩)⟩
    obtain ⟨s2, _, _, hb2, _, _⟩ := la
    refine ⟨_, rfl, (n : Int), rfl, by omega, by omega, fun D hD => ?_⟩
    refine lc_m (walk_range (lo := 0) (n := n)) RI (stb_RI (K := K)) (List.range n) (by rw [List.length_range]) (by rw [List.length_range]; omega) hD (fun _ _ => trivial) (fun _ _ _ _ => ys_fn) (fun j => (y j - 3) * 100000000000 + y (9 - j)) (fun c i x H3 H4 hc s3 s4 yl A B hA => ?_) (fun H3 l s3 hl3 rs => ?_)
    · obtain ⟨hc1, rfl⟩ := in_range hc
      rw [yl.2]
      refine ⟨rfl, lc_yes ⟨_, rfl, _, rfl, b, _, _, _, rfl, rfl, SqL.of (s4 _ _ hb2), ixv (by omega), _, _, rfl, rfl, _, _, rfl, rfl, ⟨by decide, by decide, by decide⟩, _, _, rfl, rfl, wmul (m := 39) (n := 39) ?_ (by decide) (by decide) (by decide) (by decide), _, rfl, _, rfl, _, _, rfl, rfl, b, _, _, _, rfl, rfl, SqL.of (s4 _ _ hb2), at_pos (by omega) (by rw [show ((9 : Int) - (0 + (i : Int))).toNat = 9 - i by omega]; exact vecV_at (by omega)), _, _, rfl, rfl, hA _ _ (fun _ _ h => h) rfl⟩⟩
      have := y7 i (by omega)
      show (y i - 3).natAbs < 2 ^ 39
      omega
    · exact ⟨D, _, rfl, s2.trans s3, none_of s2 hD, fun z => (by rw [z, hb2] at hD; cases hD), s3 _ _ hb2, by rw [hl3, rs.ints]; rfl, fun i hi => (show B (rb wd) ((y i - 3) * 100000000000 + y (9 - i)) from B_rb (fun _ => by omega) (by have := y7 i (by omega); have := y7 (9 - i) (by omega); omega))⟩
  clear la x0 D H4
  rintro σ H4 ⟨D, x0, rfl, la⟩
  refine ⟨fun σ' H' => ∃ D x, σ' = [some (.int c), some (.int (n : Int)), some (.int (k : Int)), some (.int e), some (.int wd), some (.ref b), some (.ref D), none, none] ∧ LineAt H H' b D n y x wd, ?_, ?_⟩
  · refine ⟨_, rfl, rfl, _, rfl, iteI (fun e1 => ?_) (fun _ => ifF rfl ⟨D, _, rfl, la⟩)⟩
    refine ⟨_, rfl, _, rfl, _, _, rfl, rfl, _, rfl, ?_⟩
    by_cases c1 : k < n
    · refine ifT (decide_eq_true (by omega)) ?_
      obtain ⟨s2, hD0, hDb, hb2, hD2, hx⟩ := la
      refine ⟨_, rfl, (k : Int), rfl, by omega, by omega, fun D1 hD1 => ?_⟩
      refine lc_m (walk_range (lo := 0) (n := k)) RI (stb_RI (K := K)) (List.range k) (by rw [List.length_range]) (by rw [List.length_range]; omega) hD1 (fun _ _ => trivial) (fun _ _ _ _ => ys_fn) (fun _ => (0 : Int)) (fun c i x H3 H4 hc s3 s4 yl A B hA => ?_) (fun H3 l s3 hl3 rs => ?_)
      · rw [yl.2]
        exact ⟨rfl, lc_yes (hA _ _ (fun _ _ h => h) rfl)⟩
      · refine ⟨_, rfl, b, _, 11, _, rfl, rfl, SqL.of (s3 _ _ hb2), at_pos (by decide) (vecV_at (by decide)), _, _, rfl, rfl, one_line, fun l5 hl5 => ?_⟩
        have ez : l = (vec k fun _ => (0 : Int)).map V.int := rs.ints
        subst ez
        have n5 := same_new hl5 (.lst [V.int (1 + y 11)])
        refine ⟨D1, l5, _, _, rfl, rfl, n5 _ _ hl3, upd_same, ?_, fun l6 hl6 => ?_⟩
        · exact line_ge (by rw [vec_lenV]; show k + 1 ≤ 100000; omega)
        have s6 := s3.trans (n5.trans (same_new hl6 (.lst (((vec k fun _ => (0 : Int)).map V.int) ++ [V.int (1 + y 11)]))))
        refine ⟨_, rfl, _, rfl, _, _, rfl, rfl, _, rfl, D, _, rfl, SqL.of (s6 _ _ hD2), fun l7 hl7 => ?_⟩
        have ec : cutV ((vec n x0).map V.int) (some ((k : Int) + 1)) none = (vec (n - (k + 1)) fun i => x0 (k + 1 + i)).map V.int := by
          have := cut_tail (m := n) (a := k + 1) (b := n - (k + 1)) (y := x0) (by omega)
          rw [Int.natCast_add] at this
          exact this
        rw [ec]
        have n7 := same_new hl7 (.lst ((vec (n - (k + 1)) fun i => x0 (k + 1 + i)).map V.int))
        refine ⟨l6, l7, ((vec k fun _ => (0 : Int)).map V.int) ++ [V.int (1 + y 11)], _, rfl, rfl, n7 _ _ upd_same, upd_same, ?_, fun l8 hl8 => ?_⟩
        · exact line_ge (by rw [List.length_append, vec_lenV, vec_lenV]; show k + 1 + (n - (k + 1)) ≤ 100000; omega)
        have n8 := same_new hl8 (.lst ((((vec k fun _ => (0 : Int)).map V.int) ++ [V.int (1 + y 11)]) ++ ((vec (n - (k + 1)) fun i => x0 (k + 1 + i)).map V.int)))
        have sA := s6.trans (n7.trans n8)
        refine ⟨l8, fun i => if i < k then 0 else if i = k then 1 + y 11 else x0 i, rfl, s2.trans sA, none_of s2 (none_of (s6.trans n7) hl8), fun z => ?_, sA _ _ hb2, ?_, fun i hi => ?_⟩
        · have := none_of (s6.trans n7) hl8
          rw [z, hb2] at this
          cases this
        · rw [upd_same, show [V.int (1 + y 11)] = (vec 1 fun _ => 1 + y 11).map V.int from rfl, vec_cat, vec_cat, show k + 1 + (n - (k + 1)) = n by omega]
          congr 3
          refine vec_congr fun i hi => ?_
          by_cases i1 : i < k
          · rw [if_pos (by omega), if_pos i1, if_pos i1]
          · by_cases i2 : i = k
            · rw [if_pos (by omega), if_neg i1, if_neg i1, if_pos i2]
            · rw [if_neg (by omega), if_neg i1, if_neg i2, show k + 1 + (i - (k + 1)) = i by omega]
        · show B (rb wd) (if i < k then 0 else if i = k then 1 + y 11 else x0 i)
          split
          · exact B_rb (fun _ => by decide) (by decide)
          · split
            · exact B_rb (fun _ => by omega) (by omega)
            · exact hx i hi
    · exact ifF (decide_eq_false (by omega)) ⟨D, _, rfl, la⟩
  clear la x0 D H4
  rintro σ H4 ⟨D, x0, rfl, s2, hD0, hDb, hb2, hD2, hx⟩
  refine ⟨line_ge (by decide), fun l9 hl9 => ?_⟩
  have s9 := same_new hl9 (.lst [V.int 0, V.int 1, V.int 0, V.int 2, V.int 3, V.int 0, V.int 7, V.int 1000])
  obtain ⟨wt, hwt, hwt0, hwt1⟩ := wts (j := (y 10).toNat) (by omega)
  refine ⟨_, rfl, b, _, 10, _, rfl, rfl, SqL.of (s9 _ _ hb2), at_pos (by decide) (vecV_at (by decide)), l9, _, _, _, rfl, rfl, SqL.of upd_same, at_pos (by exact y10.1) hwt, ?_⟩
  have s3 := s2.trans s9
  have hb3 := s9 _ _ hb2
  have hD3 := s9 _ _ hD2
  clear s9 s2 hb2 hD2
  generalize upd H4 l9 _ = H5 at *
  refine ⟨fun σ' H' => ∃ wt, σ' = [some (.int c), some (.int (n : Int)), some (.int (k : Int)), some (.int e), some (.int wd), some (.ref b), some (.ref D), some (.int wt), none] ∧ H' = H5 ∧ 0 ≤ wt ∧ (wd ≠ 5 → wt ≤ 1000) ∧ B (wbd wd) wt, ?_, ?_⟩
  · refine ⟨_, rfl, rfl, _, rfl, iteI (fun e1 => ?_) (fun e1 => ⟨wt, rfl, rfl, hwt0, fun _ => hwt1, ?_⟩)⟩
    · have p1 : 0 ≤ wt * (1 + y 12) := Int.mul_nonneg hwt0 (by omega)
      have p2 : wt * (1 + y 12) ≤ 1000 * 1000000000000 := Int.mul_le_mul hwt1 (by omega) (by omega) (by decide)
      refine ⟨_, rfl, _, rfl, b, _, 12, _, rfl, rfl, SqL.of hb3, at_pos (by decide) (vecV_at (by decide)), _, _, rfl, rfl, _, _, rfl, rfl, wmul (m := 60) (n := 60) ?_ ?_ (by decide) (by decide) (by decide), _, rfl, rfl, p1, fun h => absurd e1 h, ?_⟩
      · show wt.natAbs < 2 ^ 60
        omega
      · show (1 + y 12).natAbs < 2 ^ 60
        omega
      · unfold wbd
        rw [if_pos e1]
        show (wt * (1 + y 12)).natAbs < 2 ^ 50
        omega
    · unfold wbd
      rw [if_neg e1]
      show wt.natAbs < 2 ^ 10
      omega
  rintro σ H6 ⟨wt, rfl, rfl, hw0, hw1, hw2⟩
  refine ⟨_, rfl, _, rfl, two_line, fun p hp => q p D x0 wt _ (none_of s3 hp) hD0 (s3.trans (same_new hp _)) upd_same ((same_new hp _) _ _ hD3) hw0 hw1 hw2 hx⟩
end
end P01
namespace P01
open PySem PySem.Spec PyProof.Rows L2 SX EX WK
/-- a weighted row -/
abbrev Pr := (Nat → Int) × Int
def PrL (H : Hp) (a : Addr) (n : Nat) (ps : List Pr) : Prop := ∃ vs : List V, H a = some (.lst vs) ∧ vs.length = ps.length ∧ ∀ (i : Nat) (p : Pr), ps[i]? = some p → ∃ q r : Addr, vs[i]? = some (.ref q) ∧ H q = some (.lst [.ref r, .int p.2]) ∧ H r = some (.lst ((vec n p.1).map V.int))
theorem PrL.same {H H' : Hp} {a : Addr} {n : Nat} {ps : List Pr} (s : Same H H') (h : PrL H a n ps) : PrL H' a n ps := by
  obtain ⟨vs, h1, h2, h3⟩ := h
  refine ⟨vs, s _ _ h1, h2, fun i p hp => ?_⟩
  obtain ⟨q, r, e1, e2, e3⟩ := h3 i p hp
  exact ⟨q, r, e1, s _ _ e2, s _ _ e3⟩
def wsm (ps : List Pr) (i j : Nat) : Int := Ls ps fun p => p.2 * p.1 i * p.1 j
theorem wsm_sym (ps : List Pr) (i j : Nat) : wsm ps i j = wsm ps j i := Ls_congr fun p _ => by rw [Int.mul_right_comm]
theorem wsm_snoc {ps : List Pr} {k : Nat} {p : Pr} (h : ps[k]? = some p) (i j : Nat) : wsm (ps.take (k + 1)) i j = wsm (ps.take k) i j + p.2 * p.1 i * p.1 j := by
  unfold wsm
  rw [take_one h, Ls_snoc]
/-- between two states: the rows below i are done, of the row i the first j -/
def mix (f g : Nat → Nat → Int) (i j : Nat) : Nat → Nat → Int := fun a b => if a < i ∨ (a = i ∧ b < j) then g a b else f a b
theorem mix_put (f g : Nat → Nat → Int) (i j : Nat) : ∀ a b, put (mix f g i j) i j (g i j) a b = mix f g i (j + 1) a b := fun a b => by
  unfold put mix
  by_cases h : a = i ∧ b = j
  · rw [if_pos h, if_pos (.inr ⟨h.1, by omega⟩), h.1, h.2]
  · rw [if_neg h]
    by_cases h2 : a < i ∨ (a = i ∧ b < j)
    · rw [if_pos h2, if_pos (by omega)]
    · rw [if_neg h2, if_neg (by omega)]
theorem mix_at (f g : Nat → Nat → Int) (i j : Nat) : mix f g i j i j = f i j := by
  unfold mix
  rw [if_neg (by omega)]
theorem mix_row (f g : Nat → Nat → Int) (n i : Nat) : ∀ a b, a < n → b < n → mix f g i n a b = mix f g (i + 1) 0 a b := fun a b ha hb => by
  unfold mix
  by_cases h : a < i + 1
  · rw [if_pos (by omega), if_pos (by omega)]
  · rw [if_neg (by omega), if_neg (by omega)]
theorem ix_set {n j : Nat} {x : Nat → Int} {z : Int} (e : z = (j : Int)) (h : j < n) : ixN ((vec n x).map V.int).length z = some j := by
  rw [vec_lenV]
  unfold ixN
  rw [if_pos (by omega), if_pos (by omega)]
  congr 1
  omega
section
variable {P : Program} {w : World} {K : PySem.W.Frag} {mg : Str → Option Value} {base : Heap} {f : Addr} {fd : FuncData} {cF cR : Addr}
def spWeighed : Sp := fun vs H Q _ => ∃ (a : Addr) (n k1 k2 : Nat) (ps : List Pr), vs = [.int n, .ref a] ∧ PrL H a n ps ∧ n ≤ 10 ∧ ps.length ≤ 100 ∧ (∀ p ∈ ps, B k2 p.2 ∧ ∀ j, j < n → B k1 (p.1 j)) ∧ 0 < k1 ∧ 0 < k2 ∧ k1 ≤ 1000 ∧ k2 ≤ 1000 ∧ ∀ r rs H', MT H H' r rs n (wsm ps) → H r = none → Q (.ref r) H'
abbrev s__law_weighed : Stmt := top 45
abbrev N__law_weighed : List Str := ["size", "drawn", "i", "j", "table", "part"]
theorem sc__law_weighed : FnScope N__law_weighed ["size", "drawn"] (defScope s__law_weighed) := ⟨rfl, rfl, rfl, by decide +kernel, rfl, by decide +kernel, by decide +kernel⟩
theorem ok__law_weighed (F : Fun K "_law_weighed" "_law_weighed" s__law_weighed f fd) (T : Txt mg) : FnOk P w K mg base CX0 1 f fd ["size", "drawn"] spWeighed := by
  refine F.ok sc__law_weighed (fun vs H Q E h => ?_) (fun cdv A outer s H vs Q E hr h => ?_)
  · obtain ⟨a, n, k1, k2, ps, rfl, _⟩ := h
    rfl
  obtain ⟨a, n, k1, k2, ps, rfl, hps, hn, hpl, hB, k10, k20, k11, k21, q⟩ := h
  refine ⟨_, (pss_cons (ps_setLc (i := 4) (own := [("i", 2)]) (g := gName 2) (tt := tYes) (by rfl) sc__law_weighed.nd rfl rfl (sw_true rfl rfl rfl (by decide +kernel)) (pi_range1 (by rfl) T.b_range (pa_cons (pv 0) pa_nil)) (blkOk_by (N := N__law_weighed) (sc := defScope s__law_weighed) (by decide +kernel)) (fun _ _ _ _ _ => (pg_name (i := 2) sc__law_weighed.nd rfl (Or.inl rfl))) (fun _ _ _ _ _ => pts_nil) (fun _ _ _ _ _ => (pe_lc (own := [("j", 3)]) (g := gName 3) (tt := tYes) (by rfl) sc__law_weighed.nd (pi_range1 (by rfl) T.b_range (pa_cons (pv 0) pa_nil)) (blk_nest (N := N__law_weighed) (sc0 := defScope s__law_weighed) rfl (by decide +kernel)) (fun _ _ _ _ _ => (pg_name (i := 3) sc__law_weighed.nd rfl (Or.inl rfl))) (fun _ _ _ _ _ => pts_nil) (fun _ _ _ _ _ => pe_int))))
  (pss_cons (ps_for PassesOwn.never rfl (pi_list (pv 1)) (pg_name (i := 5) sc__law_weighed.nd rfl (Or.inl rfl)) (pss_one (ps_for PassesOwn.never rfl (pi_range1 (by rfl) T.b_range (pa_cons (pv 0) pa_nil)) (pg_name (i := 2) sc__law_weighed.nd rfl (Or.inl rfl)) (pss_one (ps_for PassesOwn.never rfl (pi_range1 (by rfl) T.b_range (pa_cons (pv 0) pa_nil)) (pg_name (i := 3) sc__law_weighed.nd rfl (Or.inl rfl)) (pss_one (ps_asg (pe_op op_add (pe_ix ix_list /-?-/ (pe_ix ix_list (pv 4) (pv 2) (fun _ _ => rfl)) (pv 3) (fun _ _ => rfl)) (pe_op op_mulW (pe_op op_mulW (pe_ix ix_list /-?-/ (pv 5) pe_int (fun _ _ => rfl)) (pe_ix ix_list /-?-/ (pe_ix ix_list /-?-/ (pv 5) pe_int (fun _ _ => rfl)) (pv 2) (fun _ _ => rfl))) (pe_ix ix_list /-?-/ (pe_ix ix_list /-?-/ (pv 5) pe_int (fun _ _ => rfl)) (pv 3) (fun _ _ => rfl)))) (pg_sub (pe_ix ix_list (pv 4) (pv 2) (fun _ _ => rfl)) (pv 3) set_list))))))))
  (pss_one (ps_ret (pv 4))))), ?_⟩
  obtain ⟨vs, ha, hl, hrow⟩ := hps
  refine ⟨_, rfl, (n : Int), rfl, by omega, by omega, fun D hD => ?_⟩
  refine lc_it (walk_range (lo := 0) (n := n)) (fun i H' => ∃ rs, MG H H' D rs n i (fun _ _ => 0)) ⟨[], MG.start hD⟩ (fun _ _ _ _ => trivial) (fun i x H1 H2 hi ⟨rs, z⟩ yl => ?_) (fun H1 ⟨rs, z⟩ => ?_)
  · obtain ⟨rfl, rfl⟩ := yl
    refine ⟨rfl, lc_yes ⟨_, rfl, (n : Int), rfl, by omega, by omega, fun D2 hD2 => ?_⟩⟩
    refine lc_m (walk_range (lo := 0) (n := n)) RI (stb_RI (K := K)) (List.range n) (by rw [List.length_range]) (by rw [List.length_range]; omega) hD2 (fun _ _ => trivial) (fun _ _ _ _ => ys_fn) (fun _ => (0 : Int)) (fun c j x2 H3 H4 hc s3 s4 y A B hA => ?_) (fun H3 l s3 hl3 rs3 => ?_)
    · exact ⟨rfl, lc_yes (hA _ _ (fun _ _ h => h) rfl)⟩
    · refine ⟨rs.map V.ref, s3 _ _ z.at_, ?_, rs ++ [D2], z.snoc hD s3 hD2 (by rw [hl3, rs3.ints]; rfl)⟩
      rw [List.length_map, z.len]
      exact Nat.lt_of_lt_of_le (by omega : i < 1001) (line_ge (by decide))
  · have mt := z.mt
    clear z
    refine ⟨_, rfl, a, rfl, ⟨_, SqL.of (mt.same _ _ ha)⟩, for_list (K := K) (a := a) (xs := vs) (fun k σ H' => ∃ v2 v3 v5 : Option V, σ = [some (.int n), some (.ref a), v2, v3, some (.ref D), v5] ∧ MT H H' D rs n (wsm (ps.take k))) ⟨none, none, none, rfl, mt⟩ (fun k σ H' _ ⟨_, _, _, _, s⟩ => SqL.of (s.same _ _ ha)) ?_ ?_⟩
    · rintro k x σ H2 hx ⟨v2, v3, v5, rfl, mt2⟩
      obtain ⟨p, hp⟩ : ∃ p, ps[k]? = some p := ⟨_, List.getElem?_eq_getElem (by have := (List.getElem?_eq_some_iff.mp hx).1; omega)⟩
      obtain ⟨r1, r2, hr1, hr2, hr3⟩ := hrow k p hp
      rw [hx] at hr1
      cases hr1
      have m := List.mem_of_getElem? hp
      obtain ⟨b2, b1⟩ := hB p m
      refine ⟨_, rfl, (n : Int), rfl, by omega, by omega, for_range (lo := 0) (n := n) (fun r σ H' => ∃ v2 v3 : Option V, σ = [some (.int n), some (.ref a), v2, v3, some (.ref D), some (.ref r1)] ∧ MT H H' D rs n (mix (wsm (ps.take k)) (wsm (ps.take (k + 1))) r 0)) ⟨v2, v3, rfl, mt2.congr fun a b _ _ => by unfold mix; rw [if_neg (by omega)]⟩ ?_ ?_⟩
      · rintro r σ H3 hr ⟨v2, v3, rfl, mt3⟩
        refine ⟨_, rfl, (n : Int), rfl, by omega, by omega, for_range (lo := 0) (n := n) (fun c σ H' => ∃ v3 : Option V, σ = [some (.int n), some (.ref a), some (.int (0 + (r : Int))), v3, some (.ref D), some (.ref r1)] ∧ MT H H' D rs n (mix (wsm (ps.take k)) (wsm (ps.take (k + 1))) r c)) ⟨v3, rfl, mt3⟩ ?_ ?_⟩
        · rintro c σ H4 hc ⟨v3, rfl, mt4⟩
          have hri : r < n := by omega
          have hci : c < n := by omega
          obtain ⟨pr, hpr1, hpr2⟩ := mt4.row r hri
          have er : (0 + (r : Int)).toNat = r := by omega
          have ix : atI (rs.map V.ref) (0 + (r : Int)) = some (.ref pr) := at_pos (by omega) (by rw [er, List.getElem?_map, hpr1]; rfl)
          have t1 := SqL.of (K := K) (mt4.same _ _ hr2)
          have t2 := SqL.of (K := K) (mt4.same _ _ hr3)
          refine ⟨_, rfl, _, rfl, D, _, _, _, rfl, rfl, SqL.of mt4.at_, ix, _, rfl, pr, _, _, _, rfl, rfl, SqL.of hpr2, ixv hci, ?_⟩
          refine ⟨_, rfl, r1, _, 0 + 1, _, rfl, rfl, t1, at_pos (by decide) rfl, _, rfl, r1, _, 0, _, rfl, rfl, t1, at_pos (by decide) rfl, _, rfl, r2, _, _, _, rfl, rfl, t2, ixv hri, _, _, rfl, rfl, wmul b2 (b1 r hri) k20 k10 (by omega), ?_⟩
          refine ⟨_, rfl, r1, _, 0, _, rfl, rfl, t1, at_pos (by decide) rfl, _, rfl, r2, _, _, _, rfl, rfl, t2, ixv hci, _, _, rfl, rfl, wmul (B.mul b2 (b1 r hri)) (b1 c hci) (by omega) k10 (by omega), _, _, rfl, rfl, ?_⟩
          refine ⟨_, rfl, _, rfl, D, _, _, _, rfl, rfl, SqL.of mt4.at_, ix, _, rfl, pr, _, _, c, rfl, rfl, hpr2, ix_set (by omega) hci, some (.int (0 + (c : Int))), rfl, ?_⟩
          have st := mt4.set (v := mix (wsm (ps.take k)) (wsm (ps.take (k + 1))) r c r c + p.2 * p.1 r * p.1 c) hri hci hpr1
          refine st.congr fun x y _ _ => ?_
          rw [mix_at, ← wsm_snoc hp]
          exact mix_put _ _ _ _ _ _
        · rintro σ H4 ⟨v3, rfl, mt4⟩
          exact ⟨some (.int (0 + (r : Int))), v3, rfl, mt4.congr (mix_row _ _ _ _)⟩
      · rintro σ H3 ⟨v2, v3, rfl, mt3⟩
        refine ⟨v2, v3, some (.ref r1), rfl, mt3.congr fun x y hx hy => ?_⟩
        unfold mix
        rw [if_pos (by omega)]
    · rintro σ H2 ⟨v2, v3, v5, rfl, mt2⟩
      rw [hl, List.take_length] at mt2
      exact ⟨_, rfl, q D rs H2 mt2 hD⟩
end
end P01
namespace P01
open PySem PySem.Spec PyProof.Rows L2 SX EX WK
theorem MT.base {H H0 H1 : Hp} {a : Addr} {rs : List Addr} {n : Nat} {f : Nat → Nat → Int} (h : MT H0 H1 a rs n f) (s : Same H H0) : MT H H1 a rs n f := ⟨s.trans h.same, h.at_, h.len, h.nd, h.na, fun r hr => none_of s (h.fr r hr), h.row⟩
def zsB : List Int := [7, 7, 7, 7, 7, 7, 7, 7, 7, 7, 9]
theorem zsB_ok : ∀ z ∈ zsB, 0 < z ∧ z.natAbs < 2 ^ 2000 := szs (by decide +kernel)
/-- a drawn row of small digits -/
def Dg (y : Nat → Int) : Prop := (∀ i, i < 10 → 0 ≤ y i ∧ y i < 7) ∧ 0 ≤ y 10 ∧ y 10 < 9
def RD (D : Addr) : Hp → V → Unit → Prop := fun H v _ => ∃ (p : Addr) (y : Nat → Int), v = .ref p ∧ p ≠ D ∧ H p = some (.lst ((vec 11 y).map V.int)) ∧ Dg y
theorem stb_RD {D : Addr} : StbD D (RD D) := fun _ _ _ _ _ e ⟨p, y, h1, h2, h3, h4⟩ => ⟨p, y, h1, h2, e _ _ h2 h3, h4⟩
/-- drawn rows -/
def RowsD (H : Hp) (a : Addr) (n : Nat) : Prop := ∃ vs : List V, H a = some (.lst vs) ∧ vs.length = n ∧ ∀ i, i < n → ∃ (p : Addr) (y : Nat → Int), vs[i]? = some (.ref p) ∧ H p = some (.lst ((vec 11 y).map V.int)) ∧ Dg y
theorem RowsD.same {H H' : Hp} {a : Addr} {n : Nat} (s : Same H H') (h : RowsD H a n) : RowsD H' a n := by
  obtain ⟨vs, h1, h2, h3⟩ := h
  refine ⟨vs, s _ _ h1, h2, fun i hi => ?_⟩
  obtain ⟨p, y, e1, e2, e3⟩ := h3 i hi
  exact ⟨p, y, e1, s _ _ e2, e3⟩
theorem sts {j : Nat} (h : j < 9) : ∃ st : Int, ([V.int 0, V.int 2, V.int 3, V.int 0, V.int 2, V.int 1, V.int 3, V.int 2, V.int 3] : List V)[j]? = some (.int st) ∧ 0 ≤ st ∧ st ≤ 3 := by
  have : j = 0 ∨ j = 1 ∨ j = 2 ∨ j = 3 ∨ j = 4 ∨ j = 5 ∨ j = 6 ∨ j = 7 ∨ j = 8 := by omega
  rcases this with e | e | e | e | e | e | e | e | e <;> (subst e; exact ⟨_, rfl, by decide, by decide⟩)
theorem dgs {j : Nat} (h : j < 4) : ∃ st : Int, ([V.int 0, V.int 0, V.int 5, V.int 40] : List V)[j]? = some (.int st) ∧ 0 ≤ st ∧ st ≤ 40 := by
  have : j = 0 ∨ j = 1 ∨ j = 2 ∨ j = 3 := by omega
  rcases this with e | e | e | e <;> (subst e; exact ⟨_, rfl, by decide, by decide⟩)
/-- any symmetric table of numbers below 2 ^ k -/
structure SymB (k : Nat) (f : Nat → Nat → Int) : Prop where
  sym : ∀ i j, f i j = f j i
  bd : ∀ i j, B k (f i j)
theorem SymB.put2 {k : Nat} {f : Nat → Nat → Int} {i j : Nat} {v : Int} (h : SymB k f) (hv : B k v) : SymB k (put (put f i j v) j i v) := by
  refine ⟨fun a b => ?_, fun a b => ?_⟩
  · unfold put
    by_cases c1 : a = j ∧ b = i
    · rw [if_pos c1]
      by_cases c2 : b = j ∧ a = i
      · rw [if_pos c2]
      · rw [if_neg c2, if_pos ⟨c1.2, c1.1⟩]
    · rw [if_neg c1]
      by_cases c2 : a = i ∧ b = j
      · rw [if_pos c2, if_pos ⟨c2.2, c2.1⟩]
      · rw [if_neg c2, if_neg (fun z => c2 ⟨z.2, z.1⟩), if_neg (fun z => c1 ⟨z.2, z.1⟩)]
        exact h.sym a b
  · unfold put
    split
    · exact hv
    · split
      · exact hv
      · exact h.bd a b
theorem b01 {c : Bool} {x : Int} (h : -3 ≤ x ∧ x ≤ 3) : -3 ≤ x * (if c = true then 1 else 0) ∧ x * (if c = true then 1 else 0) ≤ 3 := by
  cases c <;> simp <;> omega
def vint : V → Int
  | .int z => z
  | _ => 0
theorem ints_of {P : Int → Prop} {l : List V} {n : Nat} (hl : l.length = n) (h : ∀ v ∈ l, ∃ z, v = .int z ∧ P z) : ∃ st : Nat → Int, l = (vec n st).map V.int ∧ ∀ i, i < n → P (st i) := by
  refine ⟨fun i => vint (l.getD i .non), List.ext_getElem? fun i => ?_, fun i hi => ?_⟩
  · by_cases hi : i < n
    · have e := List.getElem?_eq_getElem (l := l) (i := i) (by omega)
      obtain ⟨z, hz, _⟩ := h _ (List.getElem_mem (by omega : i < l.length))
      rw [vecV_at hi, List.getD_eq_getElem?_getD, e, hz]
      rfl
    · rw [List.getElem?_eq_none (by omega), List.getElem?_eq_none (by rw [vec_lenV]; omega)]
  · have e := List.getElem?_eq_getElem (l := l) (i := i) (by omega)
    obtain ⟨z, hz, hp⟩ := h _ (List.getElem_mem (by omega : i < l.length))
    show P (vint (l.getD i .non))
    rw [List.getD_eq_getElem?_getD, e, hz]
    exact hp
def RS : Hp → V → Unit → Prop := fun _ v _ => ∃ z, v = .int z ∧ 0 ≤ z ∧ z ≤ 3
theorem stb_RS {K : PySem.W.Frag} : Stb K RS := fun _ _ _ _ _ h => h
section
variable {P : Program} {w : World} {K : PySem.W.Frag} {mg : Str → Option Value} {base : Heap} {f : Addr} {fd : FuncData} {cF cR : Addr}
def spPlain (K : PySem.W.Frag) : Sp := fun vs H Q _ => ∃ (a : Addr) (ns : List Int) (at0 n : Nat) (nl : Int), vs = [.ref a, .int (at0 : Int), .int (n : Int), .int nl] ∧ SqL K H a (ns.map V.int) ∧ at0 ≤ 500 ∧ n ≤ 10 ∧ ∀ r rs g H', MT H H' r rs n g → H r = none → SymB 10 g → Q (.ref r) H'
abbrev s__law_draw_plain : Stmt := top 46
abbrev N__law_draw_plain : List Str := ["script", "at", "size", "nulls", "rows", "state", "i", "j", "table", "number", "k"]
theorem sc__law_draw_plain : FnScope N__law_draw_plain ["script", "at", "size", "nulls"] (defScope s__law_draw_plain) := ⟨rfl, rfl, rfl, by decide +kernel, rfl, by decide +kernel, by decide +kernel⟩
theorem ok__law_draw_plain (F : Fun K "_law_draw_plain" "_law_draw_plain" s__law_draw_plain f fd) (T : Txt mg) (C__law_digits : Cal P w K mg base 1 "_law_digits" ["cell", "sizes"] (spDigits K)) (C__law_cell : Cal P w K mg base 1 "_law_cell" ["script", "k"] (spCell K)) : FnOk P w K mg base CX0 2 f fd ["script", "at", "size", "nulls"] (spPlain K) := by
  refine F.ok sc__law_draw_plain (fun vs H Q E h => ?_) (fun cdv A outer s H vs Q E hr h => ?_)
  · obtain ⟨a, ns, at0, n, nl, rfl, _⟩ := h
    rfl
  obtain ⟨a, ns, at0, n, nl, rfl, ha, hat, hn, q⟩ := h
  refine ⟨_, (pss_cons (ps_set (i := 4) sc__law_draw_plain.nd rfl (Or.inr rfl) (pe_lc (own := [("k", 10)]) (g := gName 10) (tt := tYes) (by rfl) sc__law_draw_plain.nd (pi_range1 (by rfl) T.b_range (pa_cons (pv 2) pa_nil)) (blkOk_by (N := N__law_draw_plain) (sc := defScope s__law_draw_plain) (by decide +kernel)) (fun _ _ _ _ _ => (pg_name (i := 10) sc__law_draw_plain.nd rfl (Or.inl rfl))) (fun _ _ _ _ _ => pts_nil) (fun _ _ _ _ _ => (pe_cal C__law_digits (hr.mono (by omega)) rfl (pa_cons (pe_cal C__law_cell (hr.mono (by omega)) rfl (pa_cons (pv 0) (pa_cons (pe_op op_add (pv 1) (pv 10)) pa_nil))) (pa_cons (pe_op op_cat (pe_op op_rep (pe_lst (pa_cons pe_int pa_nil)) pe_int) (pe_lst (pa_cons pe_int pa_nil))) pa_nil))))))
  (pss_cons (ps_setLc (i := 5) (own := [("k", 10)]) (g := gName 10) (tt := tYes) (by rfl) sc__law_draw_plain.nd rfl rfl (sw_true rfl rfl rfl (by decide +kernel)) (pi_range1 (by rfl) T.b_range (pa_cons (pv 2) pa_nil)) (blkOk_by (N := N__law_draw_plain) (sc := defScope s__law_draw_plain) (by decide +kernel)) (fun _ _ _ _ _ => (pg_name (i := 10) sc__law_draw_plain.nd rfl (Or.inl rfl))) (fun _ _ _ _ _ => pts_nil) (fun _ _ _ _ _ => pe_int))
  (C8.pss_cut (ps_if (pt_cmpR op_eq (pv 3) pe_int (nomark _)) (pss_one (ps_setLc (i := 5) (own := [("k", 10)]) (g := gName 10) (tt := tYes) (by rfl) sc__law_draw_plain.nd rfl rfl (sw_true rfl rfl rfl (by decide +kernel)) (pi_range1 (by rfl) T.b_range (pa_cons (pv 2) pa_nil)) (blkOk_by (N := N__law_draw_plain) (sc := defScope s__law_draw_plain) (by decide +kernel)) (fun _ _ _ _ _ => (pg_name (i := 10) sc__law_draw_plain.nd rfl (Or.inl rfl))) (fun _ _ _ _ _ => pts_nil) (fun _ _ _ _ _ => (pe_ix (ix_listK (K := K) rfl) (pe_lst (pa_cons pe_int (pa_cons pe_int (pa_cons pe_int (pa_cons pe_int (pa_cons pe_int (pa_cons pe_int (pa_cons pe_int (pa_cons pe_int (pa_cons pe_int pa_nil)))))))))) (pe_ix (ix_listK (K := K) rfl) /-?-/ (pe_ix (ix_listK (K := K) rfl) (pv 4) (pv 10) (fun _ _ => rfl)) pe_int (fun _ _ => rfl)) (fun _ _ => rfl))))) pss_nil)
  (pss_cons (ps_setLc (i := 8) (own := [("i", 6)]) (g := gName 6) (tt := tYes) (by rfl) sc__law_draw_plain.nd rfl rfl (sw_true rfl rfl rfl (by decide +kernel)) (pi_range1 (by rfl) T.b_range (pa_cons (pv 2) pa_nil)) (blkOk_by (N := N__law_draw_plain) (sc := defScope s__law_draw_plain) (by decide +kernel)) (fun _ _ _ _ _ => (pg_name (i := 6) sc__law_draw_plain.nd rfl (Or.inl rfl))) (fun _ _ _ _ _ => pts_nil) (fun _ _ _ _ _ => (pe_lc (own := [("j", 7)]) (g := gName 7) (tt := tYes) (by rfl) sc__law_draw_plain.nd (pi_range1 (by rfl) T.b_range (pa_cons (pv 2) pa_nil)) (blk_nest (N := N__law_draw_plain) (sc0 := defScope s__law_draw_plain) rfl (by decide +kernel)) (fun _ _ _ _ _ => (pg_name (i := 7) sc__law_draw_plain.nd rfl (Or.inl rfl))) (fun _ _ _ _ _ => pts_nil) (fun _ _ _ _ _ => pe_int))))
  (pss_cons (ps_for PassesOwn.never rfl (pi_range1 (by rfl) T.b_range (pa_cons (pv 2) pa_nil)) (pg_name (i := 6) sc__law_draw_plain.nd rfl (Or.inl rfl)) (pss_one (ps_for PassesOwn.never rfl (pi_range2 (by rfl) T.b_range (pa_cons (pv 6) (pa_cons (pv 2) pa_nil))) (pg_name (i := 7) sc__law_draw_plain.nd rfl (Or.inl rfl)) (pss_cons (ps_set (i := 9) sc__law_draw_plain.nd rfl (Or.inl rfl) (pe_op op_mulW (pe_op op_mulW (pe_op op_sub (pe_ix ix_list /-?-/ (pe_ix ix_list (pv 4) (pv 6) (fun _ _ => rfl)) (pv 7) (fun _ _ => rfl)) pe_int) (pe_callTy call_int1 (by rfl) T.b_int (by decide +kernel) (pa_cons (pe_cmpR op_gt (pe_ix ix_list (pv 5) (pv 6) (fun _ _ => rfl)) pe_int (nomark _)) pa_nil))) (pe_callTy call_int1 (by rfl) T.b_int (by decide +kernel) (pa_cons (pe_cmpR op_gt (pe_ix ix_list (pv 5) (pv 7) (fun _ _ => rfl)) pe_int (nomark _)) pa_nil))))
  (C8.pss_cut (ps_if (PW.pt (pw_and (pt_cmpR op_eq (pv 6) (pv 7) (nomark _)) (pw_and1 (pt_cmpR op_eq (pv 3) pe_int (nomark _))))) (pss_one (ps_set (i := 9) sc__law_draw_plain.nd rfl (Or.inl rfl) (pe_ix ix_list (pe_lst (pa_cons pe_int (pa_cons pe_int (pa_cons pe_int (pa_cons pe_int pa_nil))))) (pe_ix ix_list (pv 5) (pv 6) (fun _ _ => rfl)) (fun _ _ => rfl)))) pss_nil)
  (pss_cons (ps_asg (pv 9) (pg_sub (pe_ix ix_list (pv 8) (pv 6) (fun _ _ => rfl)) (pv 7) set_list))
  (pss_one (ps_asg (pv 9) (pg_sub (pe_ix ix_list (pv 8) (pv 7) (fun _ _ => rfl)) (pv 6) set_list)))))))))
  (pss_one (ps_ret (pv 8)))))))), ?_⟩
  refine ⟨_, rfl, (n : Int), rfl, by omega, by omega, fun R hR => ?_⟩
  refine lc_gm (walk_range (lo := 0) (n := n)) (RD R) stb_RD (List.range n) (by rw [List.length_range]) (by rw [List.length_range]; omega) hR (fun _ _ => trivial) (fun _ _ _ _ => ys_fn) (fun _ => ()) (fun c i x H1 H2 hc s1 s2 yl hdl A B hA => ?_) (fun H1 l s1 hl1 rz => ?_)
  · obtain ⟨hc1, rfl⟩ := in_range hc
    rw [yl.2]
    refine ⟨rfl, lc_yes ⟨_, rfl, _, rfl, _, rfl, _, _, rfl, rfl, a, ns, _, rfl, s2.seq ha, by omega, by omega, fun cell => ?_⟩⟩
    refine ⟨one_line, fun l1 hl1 => ⟨l1, 10, _, rfl, rfl, upd_same, by decide, by decide, line_ge (by decide), fun l2 hl2 => ?_⟩⟩
    refine ⟨one_line, fun l3 hl3 => ?_⟩
    refine ⟨l2, l3, _, _, rfl, rfl, same_new hl3 _ _ _ upd_same, upd_same, line_ge (by decide), fun l4 hl4 => ?_⟩
    refine ⟨cell, l4, zsB, rfl, SqL.of (by rw [upd_same]; rfl), by decide, zsB_ok, fun b ns hb hd => ?_⟩
    refine hA _ _ ?_ ⟨b, fun i => ns.getD i 0, rfl, ?_, ?_, ?_, ?_⟩
    · exact (same_new hl1 _).trans ((same_new hl2 _).trans ((same_new hl3 _).trans ((same_new hl4 _).trans (same_new hb _))))
    · intro z
      obtain ⟨l, hl⟩ := hdl
      have := none_of ((same_new hl1 _).trans ((same_new hl2 _).trans ((same_new hl3 _).trans (same_new hl4 _)))) hb
      rw [z, hl] at this
      cases this
    · rw [upd_same, ← vec_of (show ns.length = 11 by rw [hd.len]; rfl)]
    · intro i hi
      obtain ⟨x, h1, h2, h3⟩ := hd.get ((by decide : ∀ j, j < 10 → zsB[j]? = some (7 : Int)) i hi)
      show 0 ≤ ns.getD i 0 ∧ ns.getD i 0 < 7
      rw [List.getD_eq_getElem?_getD, h1]
      exact ⟨h2, h3⟩
    · obtain ⟨x, h1, h2, h3⟩ := hd.get (show zsB[10]? = some (9 : Int) from rfl)
      show 0 ≤ ns.getD 10 0 ∧ ns.getD 10 0 < 9
      rw [List.getD_eq_getElem?_getD, h1]
      exact ⟨h2, h3⟩
  have rd : RowsD H1 R n := by
    refine ⟨l, hl1, by rw [rz.1, List.length_map, List.length_range], fun i hi => ?_⟩
    have hi2 : i < l.length := by rw [rz.1, List.length_map, List.length_range]; exact hi
    obtain ⟨p, y, e1, e2, e3, e4⟩ := rz.2 i _ () (List.getElem?_eq_getElem hi2) (by rw [List.getElem?_map, List.getElem?_range hi]; rfl)
    exact ⟨p, y, by rw [List.getElem?_eq_getElem hi2, e1], e3, e4⟩
  clear rz hl1
  refine ⟨_, rfl, (n : Int), rfl, by omega, by omega, fun D hD => ?_⟩
  refine lc_m (walk_range (lo := 0) (n := n)) RI (stb_RI (K := K)) (List.range n) (by rw [List.length_range]) (by rw [List.length_range]; omega) hD (fun _ _ => trivial) (fun _ _ _ _ => ys_fn) (fun _ => (2 : Int)) (fun c i x H3 H4 hc s3 s4 yl A B hA => ?_) (fun H3 l s3 hl3 rs => ?_)
  · exact ⟨rfl, lc_yes (hA _ _ (fun _ _ h => h) rfl)⟩
  refine ⟨fun σ' H' => ∃ D st, σ' = [some (.ref a), some (.int at0), some (.int n), some (.int nl), some (.ref R), some (.ref D), none, none, none, none, none] ∧ Same H H' ∧ RowsD H' R n ∧ H' D = some (.lst ((vec n st).map V.int)) ∧ ∀ i, i < n → 0 ≤ st i ∧ st i ≤ 3, ?_, ?_⟩
  · refine ⟨_, rfl, rfl, _, rfl, iteI (fun e1 => ?_) (fun _ => ⟨D, fun _ => 2, rfl, s1.trans s3, rd.same s3, by rw [hl3, rs.ints]; rfl, fun _ _ => (show (0 : Int) ≤ 2 ∧ (2 : Int) ≤ 3 from by decide)⟩)⟩
    refine ⟨_, rfl, (n : Int), rfl, by omega, by omega, fun D2 hD2 => ?_⟩
    refine lc_m (walk_range (lo := 0) (n := n)) RS (stb_RS (K := K)) (List.range n) (by rw [List.length_range]) (by rw [List.length_range]; omega) hD2 (fun _ _ => trivial) (fun _ _ _ _ => ys_fn) (fun _ => ()) (fun c i x H4 H5 hc s4 s5 yl A B hA => ?_) (fun H4 l s4 hl4 rz => ?_)
    · obtain ⟨hc1, rfl⟩ := in_range hc
      rw [yl.2]
      obtain ⟨vs, e1, e2, e3⟩ := (rd.same s3).same s5
      obtain ⟨p, y, e4, e5, e6⟩ := e3 i hc1
      refine ⟨rfl, lc_yes ⟨line_ge (by decide), fun l9 hl9 => ?_⟩⟩
      have s9 := same_new hl9 (.lst [V.int 0, V.int 2, V.int 3, V.int 0, V.int 2, V.int 1, V.int 3, V.int 2, V.int 3])
      obtain ⟨st, g1, g2, g3⟩ := sts (j := (y 10).toNat) (by have := e6.2; omega)
      exact ⟨_, rfl, _, rfl, R, _, _, _, rfl, rfl, SqL.of (s9 _ _ e1), at_pos (by omega) (by rw [show (0 + (i : Int)).toNat = i by omega]; exact e4), p, _, 10, _, rfl, rfl, SqL.of (s9 _ _ e5), at_pos (by decide) (vecV_at (by decide)), l9, _, _, _, rfl, rfl, SqL.of upd_same, at_pos e6.2.1 g1, hA _ _ s9 ⟨st, rfl, g2, g3⟩⟩
    · have e2 : l.length = n := by rw [rz.1, List.length_map, List.length_range]
      obtain ⟨st, e3, e4⟩ := ints_of (P := fun z => 0 ≤ z ∧ z ≤ 3) e2 fun v hv => by
        obtain ⟨i, hi, rfl⟩ := List.getElem_of_mem hv
        exact rz.2 i _ () (List.getElem?_eq_getElem hi) (by rw [List.getElem?_map, List.getElem?_range (by omega)]; rfl)
      exact ⟨D2, st, rfl, s1.trans (s3.trans s4), (rd.same s3).same s4, by rw [hl4, ← e3], e4⟩
  clear rs hl3 s3 rd s1 hD l D
  rintro σ H4 ⟨D, st, rfl, s1, rd, hD, hst⟩
  refine ⟨_, rfl, (n : Int), rfl, by omega, by omega, fun L hL => ?_⟩
  refine lc_it (walk_range (lo := 0) (n := n)) (fun i H' => ∃ rs, MG H4 H' L rs n i (fun _ _ => 0)) ⟨[], MG.start hL⟩ (fun _ _ _ _ => trivial) (fun i x H1 H2 hi ⟨rs, z⟩ yl => ?_) (fun H5 ⟨rs, z⟩ => ?_)
  · obtain ⟨rfl, rfl⟩ := yl
    refine ⟨rfl, lc_yes ⟨_, rfl, (n : Int), rfl, by omega, by omega, fun D2 hD2 => ?_⟩⟩
    refine lc_m (walk_range (lo := 0) (n := n)) RI (stb_RI (K := K)) (List.range n) (by rw [List.length_range]) (by rw [List.length_range]; omega) hD2 (fun _ _ => trivial) (fun _ _ _ _ => ys_fn) (fun _ => (0 : Int)) (fun c j x2 H3 H4 hc s3 s4 y A B hA => ?_) (fun H3 l s3 hl3 rs3 => ?_)
    · exact ⟨rfl, lc_yes (hA _ _ (fun _ _ h => h) rfl)⟩
    · refine ⟨rs.map V.ref, s3 _ _ z.at_, ?_, rs ++ [D2], z.snoc hL s3 hD2 (by rw [hl3, rs3.ints]; rfl)⟩
      rw [List.length_map, z.len]
      exact Nat.lt_of_lt_of_le (by omega : i < 1001) (line_ge (by decide))
  have mt := z.mt
  clear z
  refine ⟨_, rfl, (n : Int), rfl, by omega, by omega, ?_⟩
  refine for_range (lo := 0) (n := n) (fun i σ H6 => ∃ (v6 v7 v9 : Option V) (g : Nat → Nat → Int), σ = [some (.ref a), some (.int at0), some (.int n), some (.int nl), some (.ref R), some (.ref D), v6, v7, some (.ref L), v9, none] ∧ MT H4 H6 L rs n g ∧ SymB 10 g) ⟨none, none, none, _, rfl, mt, ⟨fun _ _ => rfl, fun _ _ => by show (0 : Int).natAbs < 2 ^ 10; decide⟩⟩ ?_ ?_
  · rintro i σ H6 hi ⟨v6, v7, v9, g, rfl, mt6, sg⟩
    refine ⟨_, rfl, _, rfl, _, _, rfl, ⟨by omega, by omega, by omega, by omega⟩, ?_⟩
    refine for_range (lo := 0 + (i : Int)) (n := ((n : Int) - (0 + (i : Int))).toNat) (fun j σ H6 => ∃ (v7 v9 : Option V) (g : Nat → Nat → Int), σ = [some (.ref a), some (.int at0), some (.int n), some (.int nl), some (.ref R), some (.ref D), some (.int (0 + (i : Int))), v7, some (.ref L), v9, none] ∧ MT H4 H6 L rs n g ∧ SymB 10 g) ⟨_, _, g, rfl, mt6, sg⟩ ?_ ?_
    · clear mt6 sg g
      rintro j σ H7 hj ⟨v7, v9, g, rfl, mt7, sg⟩
      have hij : i + j < n := by omega
      have ei : (0 + (i : Int)).toNat = i := by omega
      have ej : (0 + (i : Int) + (j : Int)).toNat = i + j := by omega
      obtain ⟨vs, e1, e2, e3⟩ := rd.same mt7.same
      obtain ⟨p, y, e4, e5, e6⟩ := e3 i hi
      have hD7 := mt7.same _ _ hD
      have y7 := e6.1 (i + j) (by omega)
      refine ⟨_, rfl, _, rfl, R, _, _, _, rfl, rfl, SqL.of e1, at_pos (by omega) (by rw [ei]; exact e4), _, rfl, p, _, _, _, rfl, rfl, SqL.of e5, at_pos (by omega) (by rw [ej]; exact vecV_at (by omega)), _, _, rfl, rfl, ?_⟩
      have k1 := b01 (c := decide (0 < st i)) (x := y (i + j) - 3) (by omega)
      have k2 := b01 (c := decide (0 < st (i + j))) k1
      refine ⟨_, rfl, _, rfl, D, _, _, _, rfl, rfl, SqL.of hD7, at_pos (by omega) (by rw [ei]; exact vecV_at hi), _, _, rfl, rfl, .inr ⟨_, rfl, _, _, rfl, rfl, wmul (m := 10) (n := 10) (by show (y (i + j) - 3).natAbs < 2 ^ 10; omega) (by split <;> decide) (by decide) (by decide) (by decide), ?_⟩⟩
      refine ⟨_, rfl, _, rfl, D, _, _, _, rfl, rfl, SqL.of hD7, at_pos (by omega) (by rw [ej]; exact vecV_at hij), _, _, rfl, rfl, .inr ⟨_, rfl, _, _, rfl, rfl, wmul (m := 10) (n := 10) (by show ((y (i + j) - 3) * (if decide (0 < st i) = true then 1 else 0)).natAbs < 2 ^ 10; omega) (by split <;> decide) (by decide) (by decide) (by decide), ?_⟩⟩
      refine ⟨fun σ' H' => ∃ v : Int, σ' = [some (.ref a), some (.int at0), some (.int n), some (.int nl), some (.ref R), some (.ref D), some (.int (0 + (i : Int))), some (.int (0 + (i : Int) + (j : Int))), some (.ref L), some (.int v), none] ∧ MT H4 H' L rs n g ∧ B 10 v, ?_, ?_⟩
      · refine ⟨_, rfl, _, rfl, rfl, _, rfl, iteI (fun c1 => ?_) (fun _ => ifF rfl ⟨_, rfl, mt7, ?_⟩)⟩
        · refine ⟨_, rfl, rfl, _, rfl, iteI (fun c2 => ?_) (fun _ => ⟨_, rfl, mt7, ?_⟩)⟩
          · refine ⟨line_ge (by decide), fun l9 hl9 => ?_⟩
            have s9 := same_new hl9 (.lst [V.int 0, V.int 0, V.int 5, V.int 40])
            have hs := hst i hi
            obtain ⟨v, g1, g2, g3⟩ := dgs (j := (st i).toNat) (by omega)
            refine ⟨_, rfl, _, rfl, D, _, _, _, rfl, rfl, SqL.of (s9 _ _ hD7), at_pos (by omega) (by rw [ei]; exact vecV_at hi), l9, _, _, _, rfl, rfl, SqL.of upd_same, at_pos hs.1 g1, v, rfl, mt7.keep s9, ?_⟩
            show v.natAbs < 2 ^ 10
            omega
          · show Int.natAbs _ < 2 ^ 10
            omega
        · show Int.natAbs _ < 2 ^ 10
          omega
      clear k1 k2 hD7 e1 e3 e4 e5 y7 mt7
      rintro σ H8 ⟨v, rfl, mt8, bv⟩
      obtain ⟨pi, hpi1, hpi2⟩ := mt8.row i hi
      refine ⟨_, rfl, _, rfl, _, rfl, L, _, _, _, rfl, rfl, SqL.of mt8.at_, at_pos (by omega) (by rw [ei, List.getElem?_map, hpi1]; rfl), _, rfl, pi, _, _, i + j, rfl, rfl, hpi2, ix_set (by omega) hij, ?_⟩
      have mt9 := mt8.set (v := v) hi hij hpi1
      clear mt8 hpi2
      obtain ⟨pj, hpj1, hpj2⟩ := mt9.row (i + j) hij
      refine ⟨_, rfl, _, rfl, _, rfl, L, _, _, _, rfl, rfl, SqL.of mt9.at_, at_pos (by omega) (by rw [ej, List.getElem?_map, hpj1]; rfl), _, rfl, pj, _, _, i, rfl, rfl, hpj2, ix_set (by omega) hi, ?_⟩
      exact ⟨_, _, _, rfl, mt9.set (v := v) hij hi hpj1, sg.put2 bv⟩
    · rintro σ H7 ⟨v7, v9, g, rfl, mt7, sg⟩
      exact ⟨_, _, _, g, rfl, mt7, sg⟩
  · rintro σ H6 ⟨v6, v7, v9, g, rfl, mt6, sg⟩
    exact ⟨_, rfl, q L rs g H6 (mt6.base s1) (none_of s1 hL) sg⟩
end
end P01
namespace P01
open PySem PySem.Spec PyProof.Rows L2 SX EX WK
/-- drawn parts: distinct new lists [row, weight] -/
structure DT (H H' : Hp) (D : Addr) (qs : List Addr) (n : Nat) (ps : List Pr) : Prop where
  same : Same H H'
  at_ : H' D = some (.lst (qs.map V.ref))
  len : qs.length = ps.length
  nd : qs.Nodup
  fr : ∀ q ∈ qs, H q = none
  row : ∀ (i : Nat) (p : Pr), ps[i]? = some p → ∃ q r : Addr, qs[i]? = some q ∧ H' q = some (.lst [.ref r, .int p.2]) ∧ H' r = some (.lst ((vec n p.1).map V.int))
theorem ref_int {qs : List Addr} {r : Addr} {z : Int} (h : qs.map V.ref = [V.ref r, V.int z]) : False := by
  match qs, h with
  | [], h => cases h
  | [_], h => cases h
  | _ :: _ :: _, h => cases h
theorem int_ref {ns : List Int} {r : Addr} {z : Int} (h : ns.map V.int = [V.ref r, V.int z]) : False := by
  match ns, h with
  | [], h => cases h
  | _ :: _, h => cases h
theorem DT.keep {H H' H2 : Hp} {D : Addr} {qs : List Addr} {n : Nat} {ps : List Pr} (h : DT H H' D qs n ps) (s : Same H' H2) : DT H H2 D qs n ps := by
  refine ⟨h.same.trans s, s _ _ h.at_, h.len, h.nd, h.fr, fun i p hp => ?_⟩
  obtain ⟨q, r, e1, e2, e3⟩ := h.row i p hp
  exact ⟨q, r, e1, s _ _ e2, s _ _ e3⟩
theorem DT.prl {H H' : Hp} {D : Addr} {qs : List Addr} {n : Nat} {ps : List Pr} (h : DT H H' D qs n ps) : PrL H' D n ps := by
  refine ⟨_, h.at_, by rw [List.length_map, h.len], fun i p hp => ?_⟩
  obtain ⟨q, r, e1, e2, e3⟩ := h.row i p hp
  exact ⟨q, r, by rw [List.getElem?_map, e1]; rfl, e2, e3⟩
theorem DT.has {H H' : Hp} {D : Addr} {qs : List Addr} {n : Nat} {ps : List Pr} (h : DT H H' D qs n ps) {i : Nat} {q : Addr} (hq : qs[i]? = some q) : ∃ (p : Pr) (r : Addr), ps[i]? = some p ∧ H' q = some (.lst [.ref r, .int p.2]) ∧ H' r = some (.lst ((vec n p.1).map V.int)) := by
  have hi : i < ps.length := by
    have := (List.getElem?_eq_some_iff.mp hq).1
    rw [← h.len]
    exact this
  obtain ⟨q', r, e1, e2, e3⟩ := h.row i _ (List.getElem?_eq_getElem hi)
  rw [hq] at e1
  cases e1
  exact ⟨_, r, List.getElem?_eq_getElem hi, e2, e3⟩
theorem DT.set {H H' : Hp} {D : Addr} {qs : List Addr} {n : Nat} {ps : List Pr} (h : DT H H' D qs n ps) {i : Nat} {q r : Addr} {p : Pr} (hq : qs[i]? = some q) (hp : ps[i]? = some p) (e2 : H' q = some (.lst [.ref r, .int p.2])) (w : Int) : DT H (upd H' q (.lst [.ref r, .int w])) D qs n (ps.set i (p.1, w)) := by
  have mq := List.mem_of_getElem? hq
  refine ⟨same_at h.same (h.fr q mq), ?_, by rw [List.length_set, h.len], h.nd, h.fr, fun j p' hp' => ?_⟩
  · rw [upd_ne (fun z => ?_)]
    · exact h.at_
    · rw [← z, h.at_] at e2
      exact ref_int (HO.lst.inj (Option.some.inj e2))
  · by_cases e : j = i
    · subst e
      rw [List.getElem?_set_self (by have := (List.getElem?_eq_some_iff.mp hp).1; exact this)] at hp'
      cases hp'
      obtain ⟨q', r', f1, f2, f3⟩ := h.row j p hp
      rw [hq] at f1
      cases f1
      rw [e2] at f2
      cases f2
      refine ⟨q, r, hq, upd_same, ?_⟩
      rw [upd_ne (fun z => ?_)]
      · exact f3
      · rw [z, e2] at f3
        exact int_ref (HO.lst.inj (Option.some.inj f3)).symm
    · rw [List.getElem?_set_ne (Ne.symm e)] at hp'
      obtain ⟨q', r', f1, f2, f3⟩ := h.row j p' hp'
      refine ⟨q', r', f1, ?_, ?_⟩
      · rw [upd_ne (fun z => ?_)]
        · exact f2
        · rw [z] at f1
          exact e ((List.getElem?_inj (by have := (List.getElem?_eq_some_iff.mp f1).1; exact this) h.nd).mp (f1.trans hq.symm))
      · rw [upd_ne (fun z => ?_)]
        · exact f3
        · rw [z, e2] at f3
          exact int_ref (HO.lst.inj (Option.some.inj f3)).symm
theorem DT.start {H : Hp} {D : Addr} {n : Nat} (h : H D = none) : DT H (upd H D (.lst [])) D [] n [] := ⟨new_same h _, upd_same, rfl, List.nodup_nil, by simp, by simp⟩
theorem DT.snoc {H H1 H2 : Hp} {D q r : Addr} {qs : List Addr} {n : Nat} {ps : List Pr} {p : Pr} (h : DT H H1 D qs n ps) (h0 : H D = none) (s : Same H1 H2) (hq : H1 q = none) (e2 : H2 q = some (.lst [.ref r, .int p.2])) (e3 : H2 r = some (.lst ((vec n p.1).map V.int))) (hrD : r ≠ D) : DT H (upd H2 D (.lst (qs.map V.ref ++ [.ref q]))) D (qs ++ [q]) n (ps ++ [p]) := by
  have hqD : q ≠ D := fun z => by rw [z, h.at_] at hq; cases hq
  have mem : ∀ q' ∈ qs, q' ≠ D ∧ q' ≠ q := fun q' hq' => by
    obtain ⟨i, hi⟩ := List.getElem?_of_mem hq'
    obtain ⟨p', r', _, f2, _⟩ := h.has hi
    refine ⟨fun z => ?_, fun z => ?_⟩
    · rw [z, h.at_] at f2
      exact ref_int (HO.lst.inj (Option.some.inj f2))
    · rw [z, hq] at f2
      cases f2
  refine ⟨same_at (h.same.trans s) h0, ?_, by rw [List.length_append, List.length_append, h.len]; rfl, ?_, fun q' hq' => ?_, fun j p' hp' => ?_⟩
  · rw [upd_same, List.map_append]
    rfl
  · refine List.nodup_append.mpr ⟨h.nd, by simp, fun x hx y hy z => ?_⟩
    rw [List.mem_singleton] at hy
    exact (mem x hx).2 (z.trans hy)
  · rcases List.mem_append.mp hq' with m | m
    · exact h.fr q' m
    · rw [List.mem_singleton.mp m]
      exact none_of h.same hq
  · by_cases e : j < ps.length
    · rw [List.getElem?_append_left e] at hp'
      obtain ⟨q', r', f1, f2, f3⟩ := h.row j p' hp'
      refine ⟨q', r', by rw [List.getElem?_append_left (by rw [h.len]; exact e)]; exact f1, ?_, ?_⟩
      · rw [upd_ne (mem q' (List.mem_of_getElem? f1)).1]
        exact s _ _ f2
      · rw [upd_ne (fun z => ?_)]
        · exact s _ _ f3
        · rw [z, h.at_] at f3
          have e4 := HO.lst.inj (Option.some.inj f3)
          have m := List.mem_map_of_mem (f := V.ref) (List.mem_of_getElem? f1)
          rw [e4] at m
          obtain ⟨x, _, hx⟩ := List.mem_map.mp m
          cases hx
    · rw [List.getElem?_append_right (by omega)] at hp'
      have ej : j - ps.length = 0 := by
        have := (List.getElem?_eq_some_iff.mp hp').1
        simp at this
        omega
      rw [ej] at hp'
      cases hp'
      refine ⟨q, r, by rw [List.getElem?_append_right (by rw [h.len]; omega), h.len, ej]; rfl, ?_, ?_⟩
      · rw [upd_ne hqD]
        exact e2
      · rw [upd_ne hrD]
        exact e3
theorem DT.base {H0 H H' : Hp} {D : Addr} {qs : List Addr} {n : Nat} {ps : List Pr} (h : DT H H' D qs n ps) (s : Same H0 H) : DT H0 H' D qs n ps := ⟨s.trans h.same, h.at_, h.len, h.nd, fun q hq => none_of s (h.fr q hq), h.row⟩
/-- the sizes of a drawn part -/
def PB (e : Nat) (wd : Int) (n : Nat) (p : Pr) : Prop := (∀ i, i < n → B (rb wd) (p.1 i)) ∧ B (wbd wd + e) p.2
theorem PB.up {wd : Int} {n : Nat} {p : Pr} (h : PB 0 wd n p) : PB 1 wd n p := ⟨h.1, h.2.mono (by omega)⟩
theorem PB.set {e : Nat} {wd : Int} {n : Nat} {ps : List Pr} (h : ∀ p ∈ ps, PB e wd n p) {i : Nat} {p : Pr} (hp : ps[i]? = some p) {w : Int} (hw : B (wbd wd + e) w) : ∀ p' ∈ ps.set i (p.1, w), PB e wd n p' := fun p' hp' => by
  rcases List.mem_or_eq_of_mem_set hp' with m | m
  · exact h p' m
  · rw [m]
    exact ⟨(h p (List.mem_of_getElem? hp)).1, hw⟩
/-- a table cut off outside its size -/
def cutT (n : Nat) (f : Nat → Nat → Int) : Nat → Nat → Int := fun i j => if i < n ∧ j < n then f i j else 0
theorem cutT_in {n : Nat} {f : Nat → Nat → Int} {i j : Nat} (hi : i < n) (hj : j < n) : f i j = cutT n f i j := by
  unfold cutT
  rw [if_pos ⟨hi, hj⟩]
theorem SymB.cut {k n : Nat} {f : Nat → Nat → Int} (h1 : ∀ i j, i < n → j < n → f i j = f j i) (h2 : ∀ i j, i < n → j < n → B k (f i j)) : SymB k (cutT n f) := by
  refine ⟨fun i j => ?_, fun i j => ?_⟩
  · unfold cutT
    by_cases c : i < n ∧ j < n
    · rw [if_pos c, if_pos ⟨c.2, c.1⟩, h1 i j c.1 c.2]
    · rw [if_neg c, if_neg (fun z => c ⟨z.2, z.1⟩)]
  · unfold cutT
    by_cases c : i < n ∧ j < n
    · rw [if_pos c]
      exact h2 i j c.1 c.2
    · rw [if_neg c]
      exact Nat.two_pow_pos k
theorem SymB.mono {k l : Nat} {f : Nat → Nat → Int} (h : SymB k f) (hl : k ≤ l) : SymB l f := ⟨h.sym, fun i j => (h.bd i j).mono hl⟩
theorem wsm_B {wd : Int} {n : Nat} {ps : List Pr} (h : ∀ p ∈ ps, PB 1 wd n p) (hl : ps.length ≤ 10) (i j : Nat) (hi : i < n) (hj : j < n) : B 93 (wsm ps i j) := by
  refine B.mono (BLs (k := wbd wd + 1 + rb wd + rb wd) (c := 4) (fun p hp => ?_) (by omega)) ?_
  · obtain ⟨h1, h2⟩ := h p hp
    exact B.mul (B.mul h2 (h1 i hi)) (h1 j hj)
  · unfold wbd rb
    split <;> decide
theorem ams {j : Nat} (h : j < 5) : ∃ am : Int, ([V.int 1, V.int (-1), V.int 2, V.int (-3), V.int 1000] : List V)[j]? = some (.int am) ∧ B 10 am := by
  have : j = 0 ∨ j = 1 ∨ j = 2 ∨ j = 3 ∨ j = 4 := by omega
  rcases this with e | e | e | e | e <;> (subst e; exact ⟨_, rfl, by decide⟩)
section
variable {P : Program} {w : World} {K : PySem.W.Frag} {mg : Str → Option Value} {base : Heap} {f : Addr} {fd : FuncData} {cF cR : Addr}
def spDrawT (K : PySem.W.Frag) : Sp := fun vs H Q _ => ∃ (a rw : Addr) (ns : List Int) (at0 n : Nat) (kind wd : Int) (y : Nat → Int), vs = [.ref a, .int (at0 : Int), .int (n : Int), .int kind, .int wd, .ref rw] ∧ SqL K H a (ns.map V.int) ∧ at0 ≤ 400 ∧ n ≤ 10 ∧ H rw = some (.lst ((vec 7 y).map V.int)) ∧
  (0 ≤ y 0 ∧ 0 ≤ y 1 ∧ 0 ≤ y 2 ∧ 0 ≤ y 3 ∧ y 3 < 5) ∧ ∀ r rs g H', MT H H' r rs n g → H r = none → SymB 95 g → Q (.ref r) H'
abbrev s__law_draw_table : Stmt := top 47
abbrev N__law_draw_table : List Str := ["script", "at", "size", "kind", "wide", "row", "one", "two", "amount", "many", "echelon", "drawn", "table", "left", "right", "i", "j", "k", "part"]
theorem sc__law_draw_table : FnScope N__law_draw_table ["script", "at", "size", "kind", "wide", "row"] (defScope s__law_draw_table) := ⟨rfl, rfl, rfl, by decide +kernel, rfl, by decide +kernel, by decide +kernel⟩
theorem ok__law_draw_table (F : Fun K "_law_draw_table" "_law_draw_table" s__law_draw_table f fd) (T : Txt mg) (C__law_cell : Cal P w K mg base 1 "_law_cell" ["script", "k"] (spCell K)) (C__law_draw_part : Cal P w K mg base 2 "_law_draw_part" ["cell", "size", "k", "echelon", "wide"] spPart) (C__law_draw_plain : Cal P w K mg base 2 "_law_draw_plain" ["script", "at", "size", "nulls"] (spPlain K)) (C__law_weighed : Cal P w K mg base 1 "_law_weighed" ["size", "drawn"] spWeighed) : FnOk P w K mg base CX0 3 f fd ["script", "at", "size", "kind", "wide", "row"] (spDrawT K) := by
  refine F.ok sc__law_draw_table (fun vs H Q E h => ?_) (fun cdv A outer s H vs Q E hr h => ?_)
  · obtain ⟨a, rw, ns, at0, n, kind, wd, y, rfl, _⟩ := h
    rfl
  obtain ⟨a, rw0, ns, at0, n, kind, wd, y, rfl, ha, hat, hn, hrw, ⟨y0, y1, y2, y3, y35⟩, q⟩ := h
  refine ⟨_, (pss_cons (ps_if (pt_cmpR op_in_seq (pv 3) (pe_tup (pa_cons pe_int (pa_cons pe_int pa_nil))) (by rfl)) (pss_one (ps_ret (pe_cal C__law_draw_plain (hr.mono (by omega)) rfl (pa_cons (pv 0) (pa_cons (pv 1) (pa_cons (pv 2) (pa_cons (pe_op op_sub (pv 3) pe_int) pa_nil))))))) pss_nil)
  (pss_cons (ps_set (i := 6) sc__law_draw_table.nd rfl (Or.inl rfl) (pe_op op_mod (pe_callTy call_int1 (by rfl) T.b_int (by decide +kernel) (pa_cons (pe_ix ix_list (pv 5) pe_int (fun _ _ => rfl)) pa_nil)) (pe_callB (call_max2 rfl) (by rfl) T.b_max (by decide +kernel) (pa_cons pe_int (pa_cons (pv 2) pa_nil)))))
  (pss_cons (ps_set (i := 7) sc__law_draw_table.nd rfl (Or.inl rfl) (pe_op op_mod (pe_callTy call_int1 (by rfl) T.b_int (by decide +kernel) (pa_cons (pe_ix ix_list (pv 5) pe_int (fun _ _ => rfl)) pa_nil)) (pe_callB (call_max2 rfl) (by rfl) T.b_max (by decide +kernel) (pa_cons pe_int (pa_cons (pv 2) pa_nil)))))
  (pss_cons (ps_set (i := 8) sc__law_draw_table.nd rfl (Or.inl rfl) (pe_ix ix_list (pe_lst (pa_cons pe_int (pa_cons (pe_un un_neg pe_int) (pa_cons pe_int (pa_cons (pe_un un_neg pe_int) (pa_cons pe_int pa_nil)))))) (pe_ix ix_list (pv 5) pe_int (fun _ _ => rfl)) (fun _ _ => rfl)))
  (pss_cons (ps_set (i := 9) sc__law_draw_table.nd rfl (Or.inl rfl) (pv 2))
  (C8.pss_cut (ps_if (pt_cmpR op_in_seq (pv 3) (pe_tup (pa_cons pe_int (pa_cons pe_int (pa_cons pe_int pa_nil)))) (by rfl)) (pss_one (ps_set (i := 9) sc__law_draw_table.nd rfl (Or.inl rfl) (pe_op op_mulW (pe_callB (call_min2 rfl) (by rfl) T.b_min (by decide +kernel) (pa_cons pe_int (pa_cons (pe_op op_add pe_int (pe_op op_mod (pe_callTy call_int1 (by rfl) T.b_int (by decide +kernel) (pa_cons (pe_ix ix_list (pv 5) pe_int (fun _ _ => rfl)) pa_nil)) (pe_op op_add (pv 2) pe_int))) pa_nil))) (pe_callTy call_int1 (by rfl) T.b_int (by decide +kernel) (pa_cons (pe_cmpR op_ne (pe_ix ix_list (pv 5) pe_int (fun _ _ => rfl)) pe_int (nomark _)) pa_nil))))) pss_nil)
  (pss_cons (ps_set (i := 10) sc__law_draw_table.nd rfl (Or.inr rfl) (pe_callTy call_int1 (by rfl) T.b_int (by decide +kernel) (pa_cons (pe_cmpR op_in_seq (pv 3) (pe_tup (pa_cons pe_int (pa_cons pe_int (pa_cons pe_int (pa_cons pe_int pa_nil))))) (by rfl)) pa_nil)))
  (pss_cons (ps_setLc (i := 11) (own := [("k", 17)]) (g := gName 17) (tt := tYes) (by rfl) sc__law_draw_table.nd rfl rfl (sw_true rfl rfl rfl (by decide +kernel)) (pi_range1 (by rfl) T.b_range (pa_cons (pv 9) pa_nil)) (blkOk_by (N := N__law_draw_table) (sc := defScope s__law_draw_table) (by decide +kernel)) (fun _ _ _ _ _ => (pg_name (i := 17) sc__law_draw_table.nd rfl (Or.inl rfl))) (fun _ _ _ _ _ => pts_nil) (fun _ _ _ _ _ => (pe_cal C__law_draw_part (hr.mono (by omega)) rfl (pa_cons (pe_cal C__law_cell (hr.mono (by omega)) rfl (pa_cons (pv 0) (pa_cons (pe_op op_add (pv 1) (pv 17)) pa_nil))) (pa_cons (pv 2) (pa_cons (pv 17) (pa_cons (pv 10) (pa_cons (pv 4) pa_nil))))))))
  (C8.pss_cut (ps_if (pt_cmpR op_in_seq (pv 3) (pe_tup (pa_cons pe_int (pa_cons pe_int (pa_cons pe_int (pa_cons pe_int pa_nil))))) (by rfl)) (pss_one (ps_setLc (i := 11) (own := [("part", 18)]) (g := gName 18) (tt := tYes) (by rfl) sc__law_draw_table.nd rfl rfl (sw_true rfl rfl rfl (by decide +kernel)) (pi_list (pv 11)) (blkOk_by (N := N__law_draw_table) (sc := defScope s__law_draw_table) (by decide +kernel)) (fun _ _ _ _ _ => (pg_name (i := 18) sc__law_draw_table.nd rfl (Or.inl rfl))) (fun _ _ _ _ _ => pts_nil) (fun _ _ _ _ _ => (pe_lst (pa_cons (pe_ix (ix_listK (K := K) rfl) /-?-/ (pv 18) pe_int (fun _ _ => rfl)) (pa_cons (pe_callB (call_max2 rfl) (by rfl) T.b_max (by decide +kernel) (pa_cons pe_int (pa_cons (pe_ix (ix_listK (K := K) rfl) /-?-/ (pv 18) pe_int (fun _ _ => rfl)) pa_nil))) pa_nil)))))) pss_nil)
  (C8.pss_cut (ps_if (PW.pt (pw_and (pt_cmpR op_eq (pv 3) pe_int (nomark _)) (pw_and1 (pt_cmpR op_gt (pv 2) pe_int (nomark _))))) (pss_one (ps_asg (pe_op op_sub (pe_un un_neg pe_int) (pe_ix ix_list /-?-/ (pe_ix ix_list (pv 11) (pv 6) (fun _ _ => rfl)) pe_int (fun _ _ => rfl))) (pg_sub (pe_ix ix_list (pv 11) (pv 6) (fun _ _ => rfl)) pe_int set_list))) pss_nil)
  (C8.pss_cut (ps_if (PW.pt (pw_and (pt_cmpR op_eq (pv 3) pe_int (nomark _)) (pw_and1 (pt_cmpR op_gt (pv 9) pe_int (nomark _))))) (pss_one (ps_asg (pe_un un_neg (pe_ix ix_list /-?-/ (pe_ix ix_list (pv 11) (pe_op op_sub (pv 9) pe_int) (fun _ _ => rfl)) pe_int (fun _ _ => rfl))) (pg_sub (pe_ix ix_list (pv 11) (pe_op op_sub (pv 9) pe_int) (fun _ _ => rfl)) pe_int set_list))) pss_nil)
  (C8.pss_cut (ps_if (PW.pt (pw_and (pt_cmpR op_eq (pv 3) pe_int (nomark _)) (pw_and1 (pt_cmpR op_ne (pv 6) (pv 7) (nomark _))))) (pss_one (ps_asg pe_int (pg_sub (pe_ix ix_list (pv 11) (pe_callB (call_min2 rfl) (by rfl) T.b_min (by decide +kernel) (pa_cons (pv 6) (pa_cons (pv 7) pa_nil))) (fun _ _ => rfl)) pe_int set_list))) pss_nil)
  (pss_cons (ps_set (i := 12) sc__law_draw_table.nd rfl (Or.inl rfl) (pe_cal C__law_weighed (hr.mono (by omega)) rfl (pa_cons (pv 2) (pa_cons (pv 11) pa_nil))))
  (C8.pss_cut (ps_if (PW.pt (pw_and (pt_cmpR op_eq (pv 3) pe_int (nomark _)) (pw_and1 (pt_cmpR op_ne (pv 6) (pv 7) (nomark _))))) (pss_cons (ps_set (i := 13) sc__law_draw_table.nd rfl (Or.inl rfl) (pe_ix ix_list /-?-/ (pe_ix ix_list (pv 11) (pv 6) (fun _ _ => rfl)) pe_int (fun _ _ => rfl)))
  (pss_cons (ps_set (i := 14) sc__law_draw_table.nd rfl (Or.inl rfl) (pe_ix ix_list /-?-/ (pe_ix ix_list (pv 11) (pv 7) (fun _ _ => rfl)) pe_int (fun _ _ => rfl)))
  (pss_one (ps_for PassesOwn.never rfl (pi_range1 (by rfl) T.b_range (pa_cons (pv 2) pa_nil)) (pg_name (i := 15) sc__law_draw_table.nd rfl (Or.inl rfl)) (pss_one (ps_for PassesOwn.never rfl (pi_range1 (by rfl) T.b_range (pa_cons (pv 2) pa_nil)) (pg_name (i := 16) sc__law_draw_table.nd rfl (Or.inl rfl)) (pss_one (ps_asg (pe_op op_add (pe_ix ix_list /-?-/ (pe_ix ix_list (pv 12) (pv 15) (fun _ _ => rfl)) (pv 16) (fun _ _ => rfl)) (pe_op op_mulW (pv 8) (pe_op op_add (pe_op op_mulW (pe_ix ix_list /-?-/ (pv 13) (pv 15) (fun _ _ => rfl)) (pe_ix ix_list /-?-/ (pv 14) (pv 16) (fun _ _ => rfl))) (pe_op op_mulW (pe_ix ix_list /-?-/ (pv 14) (pv 15) (fun _ _ => rfl)) (pe_ix ix_list /-?-/ (pv 13) (pv 16) (fun _ _ => rfl)))))) (pg_sub (pe_ix ix_list (pv 12) (pv 15) (fun _ _ => rfl)) (pv 16) set_list))))))))) pss_nil)
  (C8.pss_cut (ps_if (PW.pt (pw_and (pt_cmpR op_eq (pv 3) pe_int (nomark _)) (pw_and1 (pt_cmpR op_gt (pv 2) pe_int (nomark _))))) (pss_cons (ps_asg (pe_op op_add (pe_ix ix_list /-?-/ (pe_ix ix_list (pv 12) (pv 6) (fun _ _ => rfl)) (pv 7) (fun _ _ => rfl)) (pv 8)) (pg_sub (pe_ix ix_list (pv 12) (pv 6) (fun _ _ => rfl)) (pv 7) set_list))
  (pss_one (ps_asg (pe_ix ix_list /-?-/ (pe_ix ix_list (pv 12) (pv 6) (fun _ _ => rfl)) (pv 7) (fun _ _ => rfl)) (pg_sub (pe_ix ix_list (pv 12) (pv 7) (fun _ _ => rfl)) (pv 6) set_list)))) pss_nil)
  (pss_one (ps_ret (pv 12)))))))))))))))))), ?_⟩
  refine ⟨_, rfl, two_line, fun t1 ht1 => ⟨t1, _, rfl, .inr (SqT.of upd_same), rfl, rfl, _, rfl, ?_⟩⟩
  have s1 := same_new ht1 (.tup [V.int 7, V.int 8])
  cases e78 : (if false = true then !inV (V.int kind) [V.int 7, V.int 8] else inV (V.int kind) [V.int 7, V.int 8]) with
  | true =>
    refine ifT rfl ?_
    exact ⟨_, rfl, _, rfl, _, rfl, _, rfl, _, _, rfl, rfl, a, ns, at0, n, _, rfl, s1.seq ha, by omega, hn, fun r rs g H' mt hr sg => q r rs g H' (mt.base s1) (none_of s1 hr) (sg.mono (by decide))⟩
  | false =>
  refine ifF rfl ?_
  clear e78
  have hrw1 := s1 _ _ hrw
  have ex : ∃ mx : Int, mx = (if (n : Int) > 1 then (n : Int) else 1) ∧ 0 < mx ∧ (0 < n → mx = n) ∧ (n = 0 → mx = 1) := ⟨_, rfl, by split <;> omega, fun _ => by split <;> omega, fun _ => by split <;> omega⟩
  obtain ⟨mx, hmx, mx0, mxn, mx1⟩ := ex
  refine ⟨_, rfl, rw0, _, 0, _, rfl, rfl, SqL.of hrw1, at_pos (by decide) (vecV_at (by decide)), .inl ⟨_, rfl, _, rfl, _, _, rfl, ?_⟩⟩
  rw [← hmx]
  refine ⟨_, _, rfl, rfl, mx0, ?_⟩
  refine ⟨_, rfl, rw0, _, 1, _, rfl, rfl, SqL.of hrw1, at_pos (by decide) (vecV_at (by decide)), .inl ⟨_, rfl, _, rfl, _, _, rfl, ?_⟩⟩
  rw [← hmx]
  refine ⟨_, _, rfl, rfl, mx0, ?_⟩
  have o10 : 0 ≤ y 0 % mx ∧ y 0 % mx < mx := ⟨Int.emod_nonneg _ (by omega), Int.emod_lt_of_pos _ mx0⟩
  have o20 : 0 ≤ y 1 % mx ∧ y 1 % mx < mx := ⟨Int.emod_nonneg _ (by omega), Int.emod_lt_of_pos _ mx0⟩
  refine ⟨_, rfl, _, rfl, line_ge (by decide), fun l1 hl1 => ?_⟩
  have s2 := same_new hl1 (.lst [V.int 1, V.int (-1), V.int 2, V.int (-3), V.int 1000])
  obtain ⟨am, g1, bam⟩ := ams (j := (y 3).toNat) (by omega)
  refine ⟨_, rfl, rw0, _, 3, _, rfl, rfl, SqL.of (s2 _ _ hrw1), at_pos (by decide) (vecV_at (by decide)), l1, _, _, _, rfl, rfl, SqL.of upd_same, at_pos (by exact y3) g1, ?_⟩
  have s3 := s1.trans s2
  clear s1 s2 hrw1 hmx ht1 hl1
  generalize upd (upd H t1 _) l1 _ = H2 at s3
  refine ⟨_, rfl, ?_⟩
  refine ⟨fun σ' H' => ∃ m : Nat, σ' = [some (.ref a), some (.int at0), some (.int n), some (.int kind), some (.int wd), some (.ref rw0), some (.int (y 0 % mx)), some (.int (y 1 % mx)), some (.int am), some (.int (m : Int)), none, none, none, none, none, none, none, none, none] ∧ Same H H' ∧ m ≤ 10 ∧ (kind = 4 ∨ kind = 5 → m = n), ?_, ?_⟩
  · refine ⟨_, rfl, three_line, fun t1 ht1 => ⟨t1, _, rfl, .inr (SqT.of upd_same), rfl, rfl, _, rfl, ?_⟩⟩
    have s4 := s3.trans (same_new ht1 (.tup [V.int 2, V.int 6, V.int 9]))
    have e1 : (if false = true then !inV (V.int kind) [V.int 2, V.int 6, V.int 9] else inV (V.int kind) [V.int 2, V.int 6, V.int 9]) = decide (kind ∈ [2, 6, 9]) := by
      rw [if_neg Bool.false_ne_true]
      exact inV_ints kind [2, 6, 9]
    rw [e1]
    by_cases c : kind ∈ [2, 6, 9]
    · refine ifT (decide_eq_true c) ?_
      have k45 : ¬ (kind = 4 ∨ kind = 5) := fun z => by
        simp only [List.mem_cons, List.not_mem_nil, or_false] at c
        omega
      have hrw4 := s4 _ _ hrw
      have md1 := Int.emod_nonneg (y 2) (show (n : Int) + 1 ≠ 0 by omega)
      refine ⟨_, rfl, rw0, _, 2, _, rfl, rfl, SqL.of hrw4, at_pos (by decide) (vecV_at (by decide)), .inl ⟨_, rfl, _, rfl, _, _, rfl, rfl, _, _, rfl, rfl, by omega, _, _, rfl, rfl, _, _, rfl, ?_⟩⟩
      have ex : ∃ X : Int, X = (if 1 + y (Int.toNat 2) % ((n : Int) + 1) < 10 then 1 + y (Int.toNat 2) % ((n : Int) + 1) else 10) ∧ 0 ≤ X ∧ X ≤ 10 := ⟨_, rfl, by
        have : 0 ≤ y (Int.toNat 2) % ((n : Int) + 1) := md1
        split <;> omega, by split <;> omega⟩
      obtain ⟨X, hX, X0, X1⟩ := ex
      rw [← hX]
      refine ⟨_, rfl, rw0, _, 2, _, rfl, rfl, SqL.of hrw4, at_pos (by decide) (vecV_at (by decide)), rfl, .inr ⟨_, rfl, _, _, rfl, rfl, wmul (m := 10) (n := 10) (by show X.natAbs < 2 ^ 10; omega) (by split <;> decide) (by decide) (by decide) (by decide), ?_⟩⟩
      have ex : ∃ Z : Int, Z = X * (if (!decide (V.int (y (Int.toNat 2)) = V.int 7)) = true then 1 else 0) ∧ 0 ≤ Z ∧ Z ≤ 10 := ⟨_, rfl, by split <;> omega, by split <;> omega⟩
      obtain ⟨Z, hZ, Z0, Z1⟩ := ex
      refine ⟨Z.toNat, ?_, s4, by omega, fun z => absurd z k45⟩
      rw [show ((Z.toNat : Nat) : Int) = Z by omega, hZ]
      rfl
    · exact ifF (decide_eq_false c) ⟨n, rfl, s4, hn, fun _ => rfl⟩
  rintro σ H3 ⟨m, rfl, s4, hm, hmn⟩
  generalize y 0 % mx = o1 at *
  generalize y 1 % mx = o2 at *
  refine ⟨_, rfl, line_ge (by decide), fun t1 ht1 => ⟨t1, _, rfl, .inr (SqT.of upd_same), rfl, rfl, .inr ⟨_, rfl, ?_⟩⟩⟩
  have s5 := s4.trans (same_new ht1 (.tup [V.int 0, V.int 1, V.int 4, V.int 5]))
  generalize (if (if false = true then !inV (V.int kind) [V.int 0, V.int 1, V.int 4, V.int 5] else inV (V.int kind) [V.int 0, V.int 1, V.int 4, V.int 5]) = true then (1 : Int) else 0) = ec
  clear s3 s4 ht1
  generalize upd H3 t1 _ = H4 at s5
  refine ⟨_, rfl, (m : Int), rfl, by omega, by omega, fun D hD => ?_⟩
  refine lc_it (walk_range (lo := 0) (n := m)) (fun i H' => ∃ qs ps, DT H4 H' D qs n ps ∧ ps.length = i ∧ ∀ p ∈ ps, PB 0 wd n p) ⟨[], [], DT.start hD, rfl, by simp⟩ (fun _ _ _ _ => trivial) (fun i x H1 H2 hi ⟨qs, ps, dt, hpl, pb⟩ yl => ?_) (fun H5 ⟨qs, ps, dt, hpl, pb⟩ => ?_)
  · obtain ⟨rfl, rfl⟩ := yl
    refine ⟨rfl, lc_yes ⟨_, rfl, _, rfl, _, rfl, _, _, rfl, rfl, a, ns, _, rfl, (s5.trans dt.same).seq ha, by omega, by omega, fun cell => ?_⟩⟩
    refine ⟨_, rfl, _, rfl, _, rfl, _, rfl, cell, ec, wd, n, i, (by show [V.int cell, V.int (n : Int), V.int (0 + (i : Int)), V.int ec, V.int wd] = _; rw [Int.zero_add]), hn, by omega, fun p r x wt H6 hp hr s6 e2 e3 w0 w1 wB xB => ?_⟩
    refine ⟨qs.map V.ref, s6 _ _ dt.at_, ?_, qs ++ [p], ps ++ [(x, wt)], dt.snoc (p := (x, wt)) hD s6 hp e2 e3 (fun z => by rw [z, dt.at_] at hr; cases hr), by rw [List.length_append, hpl]; rfl, fun p' hp' => ?_⟩
    · rw [List.length_map, dt.len, hpl]
      exact Nat.lt_of_lt_of_le (by omega : i < 1001) (line_ge (by decide))
    · rcases List.mem_append.mp hp' with mm | mm
      · exact pb p' mm
      · rw [List.mem_singleton.mp mm]
        exact ⟨xB, wB⟩
  replace dt := dt.base s5
  clear s5
  have oneB : 1 ≤ wbd wd := by unfold wbd; split <;> decide
  refine ⟨fun σ' H' => ∃ (D : Addr) (qs : List Addr) (ps : List Pr), σ' = [some (.ref a), some (.int at0), some (.int n), some (.int kind), some (.int wd), some (.ref rw0), some (.int o1), some (.int o2), some (.int am), some (.int (m : Int)), some (.int ec), some (.ref D), none, none, none, none, none, none, none] ∧ DT H H' D qs n ps ∧ ps.length = m ∧ ∀ p ∈ ps, PB 0 wd n p, ?_, ?_⟩
  · refine ⟨_, rfl, line_ge (by decide), fun t1 ht1 => ⟨t1, _, rfl, .inr (SqT.of upd_same), rfl, rfl, _, rfl, ?_⟩⟩
    have dt2 := dt.keep (same_new ht1 (.tup [V.int 1, V.int 2, V.int 6, V.int 9]))
    cases e78 : (if false = true then !inV (V.int kind) [V.int 1, V.int 2, V.int 6, V.int 9] else inV (V.int kind) [V.int 1, V.int 2, V.int 6, V.int 9]) with
    | false => exact ifF rfl ⟨D, qs, ps, rfl, dt2, hpl, pb⟩
    | true =>
      refine ifT rfl ?_
      clear e78 dt
      generalize upd H5 t1 _ = H6 at dt2
      refine ⟨_, rfl, D, rfl, ⟨_, SqL.of dt2.at_⟩, fun D2 hD2 => ?_⟩
      refine lc_list (K := K) (a := D) (xs := qs.map V.ref) (fun i H' => ∃ qs' ps', DT H6 H' D2 qs' n ps' ∧ ps'.length = i ∧ ∀ p ∈ ps', PB 0 wd n p) ⟨[], [], DT.start hD2, rfl, by simp⟩ (fun i H' _ ⟨_, _, z, _⟩ => SqL.of (z.same _ _ dt2.at_)) (fun i x H7 hx ⟨qs', ps', dt3, hpl3, pb3⟩ => ?_) (fun H7 ⟨qs', ps', dt3, hpl3, pb3⟩ => ?_)
      · obtain ⟨q0, hq0, rfl⟩ : ∃ q0, qs[i]? = some q0 ∧ x = .ref q0 := by
          rw [List.getElem?_map] at hx
          cases e : qs[i]? with
          | none => rw [e] at hx; cases hx
          | some q0 => rw [e] at hx; exact ⟨q0, rfl, (Option.some.inj hx).symm⟩
        obtain ⟨p, r, e1, e2, e3⟩ := dt2.has hq0
        have hi : i < m := by
          have := (List.getElem?_eq_some_iff.mp e1).1
          omega
        have e2' := dt3.same _ _ e2
        have e3' := dt3.same _ _ e3
        have hp := pb p (List.mem_of_getElem? e1)
        refine ⟨rfl, lc_yes ⟨_, rfl, q0, _, 0, _, rfl, rfl, SqL.of e2', at_pos (by decide) rfl, _, rfl, q0, _, 0 + 1, _, rfl, rfl, SqL.of e2', at_pos (by decide) rfl, _, _, rfl, two_line, fun q1 hq1 => ?_⟩⟩
        have ex : ∃ v : Int, v = (if p.2 > 1 then p.2 else 1) ∧ B (wbd wd + 0) v := ⟨_, rfl, by
          split
          · exact hp.2
          · exact B.one.mono (by omega)⟩
        obtain ⟨v, hv, bv⟩ := ex
        refine ⟨_, (same_new hq1 _) _ _ dt3.at_, ?_, qs' ++ [q1], ps' ++ [(p.1, v)], dt3.snoc (p := (p.1, v)) (r := r) hD2 (same_new hq1 _) hq1 (by rw [upd_same, hv]) ((same_new hq1 _) _ _ e3') (fun z => (by rw [z, hD2] at e3; cases e3)), by rw [List.length_append, hpl3]; rfl, fun p' hp' => ?_⟩
        · rw [List.length_map, dt3.len, hpl3]
          exact Nat.lt_of_lt_of_le (by omega : i < 1001) (line_ge (by decide))
        · rcases List.mem_append.mp hp' with mm | mm
          · exact pb3 p' mm
          · rw [List.mem_singleton.mp mm]
            exact ⟨hp.1, bv⟩
      · rw [List.length_map, dt2.len, hpl] at hpl3
        exact ⟨D2, qs', ps', rfl, dt3.base dt2.same, hpl3, pb3⟩
  clear dt hpl pb
  rintro σ H5 ⟨D, qs, ps, rfl, dt, hpl, pb⟩
  refine ⟨fun σ' H' => ∃ (D : Addr) (qs : List Addr) (ps : List Pr), σ' = [some (.ref a), some (.int at0), some (.int n), some (.int kind), some (.int wd), some (.ref rw0), some (.int o1), some (.int o2), some (.int am), some (.int (m : Int)), some (.int ec), some (.ref D), none, none, none, none, none, none, none] ∧ DT H H' D qs n ps ∧ ps.length = m ∧ ∀ p ∈ ps, PB 1 wd n p, ?_, ?_⟩
  · refine ⟨_, rfl, rfl, _, rfl, iteI (fun k4 => ?_) (fun _ => ifF rfl ⟨D, qs, ps, rfl, dt, hpl, fun p hp => (pb p hp).up⟩)⟩
    refine ⟨_, rfl, _, _, rfl, rfl, _, rfl, ?_⟩
    by_cases c1 : 0 < n
    · refine ifT (decide_eq_true (by omega)) ?_
      have hm2 := hmn (.inl k4)
      have hmx := mxn c1
      obtain ⟨q0, hq0⟩ : ∃ q0, qs[o1.toNat]? = some q0 := ⟨_, List.getElem?_eq_getElem (by rw [dt.len]; omega)⟩
      obtain ⟨p, r, e1, e2, e3⟩ := dt.has hq0
      have ix : atI (qs.map V.ref) o1 = some (.ref q0) := at_pos o10.1 (by rw [List.getElem?_map, hq0]; rfl)
      refine ⟨_, rfl, _, rfl, _, rfl, D, _, _, _, rfl, rfl, SqL.of dt.at_, ix, q0, _, 1, _, rfl, rfl, SqL.of e2, at_pos (by decide) rfl, _, _, rfl, rfl, ?_⟩
      refine ⟨_, rfl, _, rfl, D, _, _, _, rfl, rfl, SqL.of dt.at_, ix, q0, _, _, 1, rfl, rfl, e2, rfl, D, qs, ps.set o1.toNat (p.1, -1 - p.2), rfl, dt.set hq0 e1 e2 _, by rw [List.length_set]; exact hpl, PB.set (fun p hp => (pb p hp).up) e1 ?_⟩
      have bp : p.2.natAbs < 2 ^ (wbd wd) := (pb p (List.mem_of_getElem? e1)).2
      show (-1 - p.2).natAbs < 2 ^ (wbd wd + 1)
      rw [Nat.pow_succ]
      omega
    · exact ifF (decide_eq_false (by omega)) ⟨D, qs, ps, rfl, dt, hpl, fun p hp => (pb p hp).up⟩
  clear dt hpl pb
  rintro σ H5 ⟨D, qs, ps, rfl, dt, hpl, pb⟩
  refine ⟨fun σ' H' => ∃ (D : Addr) (qs : List Addr) (ps : List Pr), σ' = [some (.ref a), some (.int at0), some (.int n), some (.int kind), some (.int wd), some (.ref rw0), some (.int o1), some (.int o2), some (.int am), some (.int (m : Int)), some (.int ec), some (.ref D), none, none, none, none, none, none, none] ∧ DT H H' D qs n ps ∧ ps.length = m ∧ ∀ p ∈ ps, PB 1 wd n p, ?_, ?_⟩
  · refine ⟨_, rfl, rfl, _, rfl, iteI (fun k4 => ?_) (fun _ => ifF rfl ⟨D, qs, ps, rfl, dt, hpl, pb⟩)⟩
    refine ⟨_, rfl, _, _, rfl, rfl, _, rfl, ?_⟩
    by_cases c1 : 0 < m
    · refine ifT (decide_eq_true (by omega)) ?_
      obtain ⟨q0, hq0⟩ : ∃ q0, qs[m - 1]? = some q0 := ⟨_, List.getElem?_eq_getElem (by rw [dt.len]; omega)⟩
      obtain ⟨p, r, e1, e2, e3⟩ := dt.has hq0
      have ix : atI (qs.map V.ref) ((m : Int) - 1) = some (.ref q0) := at_pos (by omega) (by rw [show ((m : Int) - 1).toNat = m - 1 by omega, List.getElem?_map, hq0]; rfl)
      refine ⟨_, rfl, _, rfl, _, _, rfl, rfl, D, _, _, _, rfl, rfl, SqL.of dt.at_, ix, q0, _, 1, _, rfl, rfl, SqL.of e2, at_pos (by decide) rfl, _, rfl, ?_⟩
      refine ⟨_, rfl, _, rfl, _, _, rfl, rfl, D, _, _, _, rfl, rfl, SqL.of dt.at_, ix, q0, _, _, 1, rfl, rfl, e2, rfl, D, qs, ps.set (m - 1) (p.1, -p.2), rfl, dt.set hq0 e1 e2 _, by rw [List.length_set]; exact hpl, PB.set pb e1 ?_⟩
      have bp := (pb p (List.mem_of_getElem? e1)).2
      show (-p.2).natAbs < _
      rw [Int.natAbs_neg]
      exact bp
    · exact ifF (decide_eq_false (by omega)) ⟨D, qs, ps, rfl, dt, hpl, pb⟩
  clear dt hpl pb
  rintro σ H5 ⟨D, qs, ps, rfl, dt, hpl, pb⟩
  refine ⟨fun σ' H' => ∃ (D : Addr) (qs : List Addr) (ps : List Pr), σ' = [some (.ref a), some (.int at0), some (.int n), some (.int kind), some (.int wd), some (.ref rw0), some (.int o1), some (.int o2), some (.int am), some (.int (m : Int)), some (.int ec), some (.ref D), none, none, none, none, none, none, none] ∧ DT H H' D qs n ps ∧ ps.length = m ∧ ∀ p ∈ ps, PB 1 wd n p, ?_, ?_⟩
  · refine ⟨_, rfl, rfl, _, rfl, iteI (fun k5 => ?_) (fun _ => ifF rfl ⟨D, qs, ps, rfl, dt, hpl, pb⟩)⟩
    refine ⟨_, rfl, _, rfl, rfl, _, rfl, ?_⟩
    by_cases c1 : o1 = o2
    · exact ifF (ne_F c1) ⟨D, qs, ps, rfl, dt, hpl, pb⟩
    refine ifT (ne_T c1) ?_
    have hm2 := hmn (.inr k5)
    have n0 : 0 < n := by
      rcases Nat.eq_zero_or_pos n with z | z
      · have := mx1 z
        omega
      · exact z
    have hmx := mxn n0
    have ex : ∃ z : Int, z = (if o2 < o1 then o2 else o1) ∧ 0 ≤ z ∧ z < n := ⟨_, rfl, by split <;> omega, by split <;> omega⟩
    obtain ⟨z, hz, z0, z1⟩ := ex
    obtain ⟨q0, hq0⟩ : ∃ q0, qs[z.toNat]? = some q0 := ⟨_, List.getElem?_eq_getElem (by rw [dt.len]; omega)⟩
    obtain ⟨p, r, e1, e2, e3⟩ := dt.has hq0
    have ix : atI (qs.map V.ref) z = some (.ref q0) := at_pos z0 (by rw [List.getElem?_map, hq0]; rfl)
    refine ⟨_, rfl, _, rfl, _, rfl, _, _, rfl, D, _, _, _, rfl, rfl, SqL.of dt.at_, by rw [← hz]; exact ix, q0, _, _, 1, rfl, rfl, e2, rfl, D, qs, ps.set z.toNat (p.1, 0), rfl, dt.set hq0 e1 e2 _, by rw [List.length_set]; exact hpl, PB.set pb e1 (Nat.two_pow_pos _)⟩
  clear dt hpl pb
  rintro σ H5 ⟨D, qs, ps, rfl, dt, hpl, pb⟩
  have rb39 : rb wd ≤ 39 := by unfold rb; split <;> decide
  have rb0 : 0 < rb wd := by unfold rb; split <;> decide
  have wb51 : wbd wd ≤ 50 := by unfold wbd; split <;> decide
  refine ⟨_, rfl, _, rfl, D, n, rb wd, wbd wd + 1, ps, rfl, dt.prl, hn, by omega, fun p hp => ⟨(pb p hp).2, (pb p hp).1⟩, rb0, by omega, by omega, by omega, fun tb rs H6 mt htb => ?_⟩
  refine ⟨fun σ' H' => ∃ (g : Nat → Nat → Int) (v13 v14 v15 v16 : Option V), σ' = [some (.ref a), some (.int at0), some (.int n), some (.int kind), some (.int wd), some (.ref rw0), some (.int o1), some (.int o2), some (.int am), some (.int (m : Int)), some (.int ec), some (.ref D), some (.ref tb), v13, v14, v15, v16, none, none] ∧ MT H5 H' tb rs n g ∧ ∀ i j, i < n → j < n → g i j = g j i ∧ B 94 (g i j), ?_, ?_⟩
  · refine ⟨_, rfl, rfl, _, rfl, iteI (fun k5 => ?_) (fun _ => ifF rfl ⟨_, _, _, _, _, rfl, mt, fun i j hi hj => ⟨wsm_sym _ _ _, (wsm_B pb (by omega) i j hi hj).mono (by decide)⟩⟩)⟩
    refine ⟨_, rfl, _, rfl, rfl, _, rfl, ?_⟩
    by_cases c1 : o1 = o2
    · exact ifF (ne_F c1) ⟨_, _, _, _, _, rfl, mt, fun i j hi hj => ⟨wsm_sym _ _ _, (wsm_B pb (by omega) i j hi hj).mono (by decide)⟩⟩
    refine ifT (ne_T c1) ?_
    have hm2 := hmn (.inr k5)
    have n0 : 0 < n := by
      rcases Nat.eq_zero_or_pos n with z | z
      · have := mx1 z
        omega
      · exact z
    have hmx := mxn n0
    have dt7 := dt.keep mt.same
    obtain ⟨q1, hq1⟩ : ∃ q0, qs[o1.toNat]? = some q0 := ⟨_, List.getElem?_eq_getElem (by rw [dt.len]; omega)⟩
    obtain ⟨q2, hq2⟩ : ∃ q0, qs[o2.toNat]? = some q0 := ⟨_, List.getElem?_eq_getElem (by rw [dt.len]; omega)⟩
    obtain ⟨p1, r1, e11, e12, e13⟩ := dt.has hq1
    obtain ⟨p2, r2, e21, e22, e23⟩ := dt.has hq2
    have b1 := fun i hi => ((pb p1 (List.mem_of_getElem? e11)).1 i hi).mono rb39
    have b2 := fun i hi => ((pb p2 (List.mem_of_getElem? e21)).1 i hi).mono rb39
    have ix1 : atI (qs.map V.ref) o1 = some (.ref q1) := at_pos o10.1 (by rw [List.getElem?_map, hq1]; rfl)
    have ix2 : atI (qs.map V.ref) o2 = some (.ref q2) := at_pos o20.1 (by rw [List.getElem?_map, hq2]; rfl)
    refine ⟨_, rfl, _, rfl, D, _, _, _, rfl, rfl, SqL.of dt7.at_, ix1, q1, _, 0, _, rfl, rfl, SqL.of (mt.same _ _ e12), at_pos (by decide) rfl, ?_⟩
    refine ⟨_, rfl, _, rfl, D, _, _, _, rfl, rfl, SqL.of dt7.at_, ix2, q2, _, 0, _, rfl, rfl, SqL.of (mt.same _ _ e22), at_pos (by decide) rfl, ?_⟩
    refine ⟨_, rfl, (n : Int), rfl, by omega, by omega, ?_⟩
    refine for_range (lo := 0) (n := n) (fun i σ H' => ∃ (v15 v16 : Option V), σ = [some (.ref a), some (.int at0), some (.int n), some (.int kind), some (.int wd), some (.ref rw0), some (.int o1), some (.int o2), some (.int am), some (.int (m : Int)), some (.int ec), some (.ref D), some (.ref tb), some (.ref r1), some (.ref r2), v15, v16, none, none] ∧ MT H5 H' tb rs n (mix (wsm ps) (fun i j => wsm ps i j + am * (p1.1 i * p2.1 j + p2.1 i * p1.1 j)) i 0)) ⟨_, _, rfl, mt.congr fun x y _ _ => by unfold mix; rw [if_neg (by omega)]⟩ ?_ ?_
    · rintro i σ H7 hi ⟨v15, v16, rfl, mt7⟩
      refine ⟨_, rfl, (n : Int), rfl, by omega, by omega, ?_⟩
      refine for_range (lo := 0) (n := n) (fun j σ H' => ∃ (v16 : Option V), σ = [some (.ref a), some (.int at0), some (.int n), some (.int kind), some (.int wd), some (.ref rw0), some (.int o1), some (.int o2), some (.int am), some (.int (m : Int)), some (.int ec), some (.ref D), some (.ref tb), some (.ref r1), some (.ref r2), some (.int (0 + (i : Int))), v16, none, none] ∧ MT H5 H' tb rs n (mix (wsm ps) (fun i j => wsm ps i j + am * (p1.1 i * p2.1 j + p2.1 i * p1.1 j)) i j)) ⟨_, rfl, mt7⟩ ?_ ?_
      · clear mt7
        rintro j σ H8 hj ⟨v16, rfl, mt8⟩
        obtain ⟨pi, hpi1, hpi2⟩ := mt8.row i hi
        have ixi : atI (rs.map V.ref) (0 + (i : Int)) = some (.ref pi) := at_pos (by omega) (by rw [show (0 + (i : Int)).toNat = i by omega, List.getElem?_map, hpi1]; rfl)
        have t1 := SqL.of (K := K) (mt8.same _ _ e13)
        have t2 := SqL.of (K := K) (mt8.same _ _ e23)
        refine ⟨_, rfl, _, rfl, tb, _, _, _, rfl, rfl, SqL.of mt8.at_, ixi, _, rfl, pi, _, _, _, rfl, rfl, SqL.of hpi2, ixv hj, ?_⟩
        refine ⟨_, rfl, _, rfl, _, rfl, r1, _, _, _, rfl, rfl, t1, ixv hi, _, rfl, _, rfl, r2, _, _, _, rfl, rfl, t2, ixv hj, _, _, rfl, rfl, wmul (b1 i hi) (b2 j hj) (by decide) (by decide) (by decide), ?_⟩
        refine ⟨_, rfl, _, rfl, r2, _, _, _, rfl, rfl, t2, ixv hi, _, rfl, _, rfl, r1, _, _, _, rfl, rfl, t1, ixv hj, _, _, rfl, rfl, wmul (b2 i hi) (b1 j hj) (by decide) (by decide) (by decide), _, _, rfl, rfl, _, _, rfl, rfl, wmul bam (B.add (B.mul (b1 i hi) (b2 j hj)) (B.mul (b2 i hi) (b1 j hj))) (by decide) (by decide) (by decide), _, _, rfl, rfl, ?_⟩
        refine ⟨_, rfl, _, rfl, tb, _, _, _, rfl, rfl, SqL.of mt8.at_, ixi, _, rfl, pi, _, _, j, rfl, rfl, hpi2, ix_set (by omega) hj, _, rfl, ?_⟩
        rw [mix_at]
        exact (mt8.set (v := wsm ps i j + am * (p1.1 i * p2.1 j + p2.1 i * p1.1 j)) hi hj hpi1).congr fun x y _ _ => mix_put _ (fun i j => wsm ps i j + am * (p1.1 i * p2.1 j + p2.1 i * p1.1 j)) _ _ _ _
      · rintro σ H8 ⟨v16, rfl, mt8⟩
        exact ⟨_, _, rfl, mt8.congr (mix_row _ _ _ _)⟩
    · rintro σ H7 ⟨v15, v16, rfl, mt7⟩
      refine ⟨fun i j => wsm ps i j + am * (p1.1 i * p2.1 j + p2.1 i * p1.1 j), _, _, _, _, rfl, mt7.congr fun x y hx _ => by unfold mix; rw [if_pos (by omega)], fun i j hi hj => ⟨?_, ?_⟩⟩
      · show wsm ps i j + am * (p1.1 i * p2.1 j + p2.1 i * p1.1 j) = wsm ps j i + am * (p1.1 j * p2.1 i + p2.1 j * p1.1 i)
        rw [wsm_sym ps i j, Int.mul_comm (p1.1 i), Int.mul_comm (p2.1 i), Int.add_comm (p2.1 j * p1.1 i)]
      · exact B.add (wsm_B pb (by omega) i j hi hj) ((B.mul bam (B.add (B.mul (b1 i hi) (b2 j hj)) (B.mul (b2 i hi) (b1 j hj)))).mono (by decide))
  clear mt
  rintro σ H7 ⟨g, v13, v14, v15, v16, rfl, mt, hg⟩
  have sg : SymB 94 (cutT n g) := SymB.cut (fun i j hi hj => (hg i j hi hj).1) fun i j hi hj => (hg i j hi hj).2
  replace mt := mt.congr fun i j hi hj => cutT_in hi hj
  generalize cutT n g = g2 at sg mt
  refine ⟨fun σ' H' => ∃ (g : Nat → Nat → Int), σ' = [some (.ref a), some (.int at0), some (.int n), some (.int kind), some (.int wd), some (.ref rw0), some (.int o1), some (.int o2), some (.int am), some (.int (m : Int)), some (.int ec), some (.ref D), some (.ref tb), v13, v14, v15, v16, none, none] ∧ MT H5 H' tb rs n g ∧ SymB 95 g, ?_, ?_⟩
  · refine ⟨_, rfl, rfl, _, rfl, iteI (fun k9 => ?_) (fun _ => ifF rfl ⟨g2, rfl, mt, sg.mono (by decide)⟩)⟩
    refine ⟨_, rfl, _, _, rfl, rfl, _, rfl, ?_⟩
    by_cases c1 : 0 < n
    · refine ifT (decide_eq_true (by omega)) ?_
      have hmx := mxn c1
      have h1 : o1.toNat < n := by omega
      have h2 : o2.toNat < n := by omega
      obtain ⟨p1, hp1, hp1'⟩ := mt.row o1.toNat h1
      have ix1 : atI (rs.map V.ref) o1 = some (.ref p1) := at_pos o10.1 (by rw [List.getElem?_map, hp1]; rfl)
      refine ⟨_, rfl, _, rfl, tb, _, _, _, rfl, rfl, SqL.of mt.at_, ix1, _, rfl, p1, _, _, _, rfl, rfl, SqL.of hp1', at_pos o20.1 (vecV_at h2), _, rfl, _, _, rfl, rfl, ?_⟩
      refine ⟨_, rfl, _, rfl, tb, _, _, _, rfl, rfl, SqL.of mt.at_, ix1, _, rfl, p1, _, _, o2.toNat, rfl, rfl, hp1', ix_set (by omega) h2, ?_⟩
      have bv : B 95 (g2 o1.toNat o2.toNat + am) := B.add (sg.bd _ _) (bam.mono (by decide))
      have mt2 := mt.set (v := g2 o1.toNat o2.toNat + am) h1 h2 hp1
      obtain ⟨p1', hq1, hq1'⟩ := mt2.row o1.toNat h1
      rw [hp1] at hq1
      cases hq1
      obtain ⟨p2, hp2, hp2'⟩ := mt2.row o2.toNat h2
      have ix2 : atI (rs.map V.ref) o2 = some (.ref p2) := at_pos o20.1 (by rw [List.getElem?_map, hp2]; rfl)
      refine ⟨_, rfl, _, rfl, tb, _, _, _, rfl, rfl, SqL.of mt2.at_, ix1, _, rfl, p1, _, _, _, rfl, rfl, SqL.of hq1', at_pos o20.1 (vecV_at h2), ?_⟩
      refine ⟨_, rfl, _, rfl, tb, _, _, _, rfl, rfl, SqL.of mt2.at_, ix2, _, rfl, p2, _, _, o1.toNat, rfl, rfl, hp2', ix_set (by omega) h1, _, rfl, mt2.set h2 h1 hp2, ?_⟩
      have e : put g2 o1.toNat o2.toNat (g2 o1.toNat o2.toNat + am) o1.toNat o2.toNat = g2 o1.toNat o2.toNat + am := by unfold put; rw [if_pos ⟨rfl, rfl⟩]
      rw [e]
      exact (sg.mono (by decide)).put2 bv
    · exact ifF (decide_eq_false (by omega)) ⟨g2, rfl, mt, sg.mono (by decide)⟩
  rintro σ H8 ⟨g, rfl, mt8, sg8⟩
  exact ⟨_, rfl, q tb rs g H8 (mt8.base dt.same) (none_of dt.same htb) sg8⟩
end
end P01
namespace P01
open PySem PySem.Spec PyProof.Rows L2 SX EX WK
theorem lcm_eq {L b : Int} (hL : 0 < L) (hb : 0 < b) : L / gI L b * b = ((Nat.lcm L.natAbs b.natAbs : Nat) : Int) := by
  have g0 := gI_pos (b := b) hL
  obtain ⟨l, hl⟩ := (gI_dvd1 : gI L b ∣ L)
  have e1 : L / gI L b = l := Int.ediv_eq_of_eq_mul_right (by omega) hl
  have l0 : 0 < l := by
    rw [hl] at hL
    exact Int.pos_of_mul_pos_right hL g0
  rw [e1]
  have hg : gI L b = ((Nat.gcd L.natAbs b.natAbs : Nat) : Int) := rfl
  have h2 := Nat.gcd_mul_lcm L.natAbs b.natAbs
  have h3 : gI L b * ((Nat.lcm L.natAbs b.natAbs : Nat) : Int) = L * b := by
    rw [hg, ← Int.natCast_mul, h2, Int.natCast_mul]
    have a1 : ((L.natAbs : Nat) : Int) = L := by omega
    have a2 : ((b.natAbs : Nat) : Int) = b := by omega
    rw [a1, a2]
  apply Int.eq_of_mul_eq_mul_left (show gI L b ≠ 0 by omega)
  rw [h3, ← Int.mul_assoc, ← hl]
theorem lcm_facts {L b W : Int} (hL : 0 < L) (hb : 0 < b) (hW : 0 < W) (h1 : L ∣ W) (h2 : b ∣ W) : 0 < L / gI L b * b ∧ L ∣ L / gI L b * b ∧ b ∣ L / gI L b * b ∧ L / gI L b * b ∣ W := by
  rw [lcm_eq hL hb]
  have p1 : 0 < Nat.lcm L.natAbs b.natAbs := Nat.lcm_pos (by omega) (by omega)
  refine ⟨by omega, ?_, ?_, ?_⟩
  · exact Int.natAbs_dvd_natAbs.mp (by rw [Int.natAbs_natCast]; exact Nat.dvd_lcm_left _ _)
  · exact Int.natAbs_dvd_natAbs.mp (by rw [Int.natAbs_natCast]; exact Nat.dvd_lcm_right _ _)
  · exact Int.natAbs_dvd_natAbs.mp (by rw [Int.natAbs_natCast]; exact Nat.lcm_dvd (Int.natAbs_dvd_natAbs.mpr h1) (Int.natAbs_dvd_natAbs.mpr h2))
theorem B_dvd {k : Nat} {L W : Int} (hL : 0 < L) (hW : 0 < W) (h : L ∣ W) (hB : B k W) : B k L := B.le (by omega) (Int.le_of_dvd hW h) hB
/-- reading a list or a tuple -/
theorem ixq {K : PySem.W.Frag} {k : Bool} {H : Hp} {a : Addr} {xs : List V} {z : Int} {v : V} {Q : VK} (h : WZ.Sq k K H a xs) (e : atI xs z = some v) (q : Q v H) : rIxL K (.ref a) (.int z) H Q ∨ rIxT K (.ref a) (.int z) H Q := by
  cases k with
  | true => exact .inl ⟨a, _, _, _, rfl, rfl, h, e, q⟩
  | false => exact .inr ⟨a, _, _, _, rfl, rfl, h, e, q⟩
/-- a comprehension over the list or the tuple in slot i, which stays: ints -/
theorem tLc_sqI {K : PySem.W.Frag} {k : Bool} {a : Addr} {xs : List V} {i : Nat} {g : TG} {tt : TT} {te : TE} {vs : List Nat} {σ : L2.St} {H : Hp} {Q : VK} {β : Type} (hi : σ[i]? = some (some (V.ref a))) (hx : WZ.Sq k K H a xs) (bs : List β) (hn : xs.length = bs.length) (hl : bs.length ≤ 100000) (f : β → Int)
    (hs : ∀ (i : Nat) (b : β) (x : V) (H1 : Hp), bs[i]? = some b → xs[i]? = some x → Same H H1 → ∀ (A : V → Hp → Prop) (B : Hp → Prop), (∀ H4, Same H1 H4 → A (.int (f b)) H4) →
      g x (wipe σ vs) H1 fun σ2 H2 => wipe σ2 vs = wipe σ vs ∧ tt σ2 H2 fun b H3 => if b = true then te σ2 H3 A else B H3)
    (hd : ∀ D H', Same H H' → H' D = some (.lst ((bs.map f).map V.int)) → Q (.ref D) H') : tLc (fun σ H R => iList K (tVar i) σ H R ∨ iTup K (tVar i) σ H R) g tt te vs σ H Q := by
  cases k with
  | true =>
    refine .inl ⟨_, hi, a, rfl, ⟨_, hx⟩, fun D hD => ?_⟩
    refine lc_m (walk_list (K := K) (a := a) (xs := xs)) RI (stb_RI (K := K)) bs hn (by omega) hD (fun H' s => s.seq hx) (fun _ _ _ _ => ys_at) f (fun i b x H1 H2 hb s1 s2 yl A B hA => ?_) (fun H' l s1 hl1 rs => hd D H' s1 (by rw [hl1, rs.ints]))
    exact hs i b x H2 hb yl.2 s2 A B fun H4 s4 => hA _ H4 s4 rfl
  | false =>
    refine .inr ⟨_, hi, a, rfl, ⟨_, hx⟩, fun D hD => ?_⟩
    refine lc_m (walk_tup (K := K) (a := a) (xs := xs)) RI (stb_RI (K := K)) bs hn (by omega) hD (fun H' s => Same_seqT s hx) (fun _ _ _ _ => ys_at) f (fun i b x H1 H2 hb s1 s2 yl A B hA => ?_) (fun H' l s1 hl1 rs => hd D H' s1 (by rw [hl1, rs.ints]))
    exact hs i b x H2 hb yl.2 s2 A B fun H4 s4 => hA _ H4 s4 rfl
theorem sq_len {K : PySem.W.Frag} {H : Hp} {us : List V} {qs : List Pq} {i : Nat} {x : V} (h : Rs (PqAt K) H us qs) (hx : us[i]? = some x) : ∃ q, qs[i]? = some q := by
  have := (List.getElem?_eq_some_iff.mp hx).1
  exact ⟨_, List.getElem?_eq_getElem (by rw [← h.1]; exact this)⟩
theorem psum_take {L : Int} {qs : List Pq} (i j : Nat) : psum L qs i j = S qs.length fun k => (match qs[k]? with | some q => trm L i j q | none => 0) := by
  unfold psum
  show _ = Ls (List.range qs.length) _
  unfold Ls
  congr 1
  refine List.ext_getElem? fun k => ?_
  rw [List.getElem?_map, List.getElem?_map]
  by_cases hk : k < qs.length
  · rw [List.getElem?_range hk, List.getElem?_eq_getElem hk]
    simp [hk]
  · rw [List.getElem?_eq_none (by omega), List.getElem?_eq_none (by rw [List.length_range]; omega)]
    rfl
section
variable {P : Program} {w : World} {K : PySem.W.Frag} {mg : Str → Option Value} {base : Heap} {f : Addr} {fd : FuncData} {cF cR : Addr}
def spExp (K : PySem.W.Frag) : Sp := fun vs H Q _ => ∃ (a t : Addr) (k : Bool) (n : Nat) (T : Nat → Nat → Int) (low W : Int) (us : List V) (qs : List Pq), vs = [.ref a, .int low, .ref t] ∧ LTab H a n T ∧ (∀ i j, i < n → j < n → T i j = T j i ∧ B 97 (T i j)) ∧ B 4000 low ∧ n ≤ 10 ∧ WZ.Sq k K H t us ∧ Rs (PqAt K) H us qs ∧ 0 < W ∧ B 6400 W ∧ (∀ q ∈ qs, SqOk n W q ∧ Good n q) ∧ qs.length ≤ 1000 ∧
  ∀ b H', Same H H' → (b = true ↔ ∀ i j, i < n → j < n → psum W qs i j * low = T i j * W) → Q (.bl b) H'
abbrev s__law_expands : Stmt := top 49
abbrev N__law_expands : List Str := ["table", "low", "told", "size", "shared", "one", "weights", "i", "j", "total", "k"]
theorem sc__law_expands : FnScope N__law_expands ["table", "low", "told"] (defScope s__law_expands) := ⟨rfl, rfl, rfl, by decide +kernel, rfl, by decide +kernel, by decide +kernel⟩
theorem ok__law_expands (F : Fun K "_law_expands" "_law_expands" s__law_expands f fd) (T : Txt mg) (C__law_gcd : Cal P w K mg base 1 "_law_gcd" ["one", "two"] spGcd) : FnOk P w K mg base CX0 2 f fd ["table", "low", "told"] (spExp K) := by
  refine F.ok sc__law_expands (fun vs H Q E h => ?_) (fun cdv A outer s H vs Q E hr h => ?_)
  · obtain ⟨a, t, k, n, M, low, W, us, qs, rfl, _⟩ := h
    rfl
  obtain ⟨a, t, k, n, M, low, W, us, qs, rfl, ht, hM, hlow, hn, hsq, hrs, hW, hWB, hqs, hql, q⟩ := h
  refine ⟨_, (pss_cons (ps_set (i := 3) sc__law_expands.nd rfl (Or.inl rfl) (pe_callB call_len_seq (by rfl) T.b_len PySem.boot_len (pa_cons (pv 0) pa_nil)))
  (pss_cons (ps_set (i := 4) sc__law_expands.nd rfl (Or.inr rfl) pe_int)
  (pss_cons (ps_for PassesOwn.never rfl (pi_or (pi_list (pv 2)) (pi_tup (pv 2))) (pg_name (i := 5) sc__law_expands.nd rfl (Or.inl rfl)) (pss_one (ps_set (i := 4) sc__law_expands.nd rfl (Or.inr rfl) (pe_op op_mulW (pe_op op_fdivW (pv 4) (pe_cal C__law_gcd (hr.mono (by omega)) rfl (pa_cons (pv 4) (pa_cons (pe_ix ix_or (pv 5) pe_int (fun _ _ => rfl)) pa_nil)))) (pe_ix ix_or (pv 5) pe_int (fun _ _ => rfl))))))
  (pss_cons (ps_set (i := 6) sc__law_expands.nd rfl (Or.inr rfl) (pe_lc (own := [("one", 5)]) (g := gName 5) (tt := tYes) (by rfl) sc__law_expands.nd (pi_or (pi_list (pv 2)) (pi_tup (pv 2))) (blkOk_by (N := N__law_expands) (sc := defScope s__law_expands) (by decide +kernel)) (fun _ _ _ _ _ => (pg_name (i := 5) sc__law_expands.nd rfl (Or.inl rfl))) (fun _ _ _ _ _ => pts_nil) (fun _ _ _ _ _ => (pe_op op_mulW (pe_ix (ix_orK (K := K) rfl) (pv 5) pe_int (fun _ _ => rfl)) (pe_op op_fdivW (pv 4) (pe_ix (ix_orK (K := K) rfl) (pv 5) pe_int (fun _ _ => rfl)))))))
  (pss_cons (ps_for PassesOwn.never rfl (pi_range1 (by rfl) T.b_range (pa_cons (pv 3) pa_nil)) (pg_name (i := 7) sc__law_expands.nd rfl (Or.inr rfl)) (pss_one (ps_for PassesOwn.never rfl (pi_range2 (by rfl) T.b_range (pa_cons (pv 7) (pa_cons (pv 3) pa_nil))) (pg_name (i := 8) sc__law_expands.nd rfl (Or.inr rfl)) (pss_cons (ps_set (i := 9) sc__law_expands.nd rfl (Or.inl rfl) (pe_callB (cr_sum rfl) (by rfl) T.b_sum (by decide +kernel) (pa_cons (pe_lc (own := [("k", 10)]) (g := gName 10) (tt := tYes) (by rfl) sc__law_expands.nd (pi_range1 (by rfl) T.b_range (pa_cons (pe_callB call_len_seq (by rfl) T.b_len PySem.boot_len (pa_cons (pv 2) pa_nil)) pa_nil)) (blkOk_by (N := N__law_expands) (sc := defScope s__law_expands) (by decide +kernel)) (fun _ _ _ _ _ => (pg_name (i := 10) sc__law_expands.nd rfl (Or.inl rfl))) (fun _ _ _ _ _ => pts_nil) (fun _ _ _ _ _ => (pe_op op_mulW (pe_op op_mulW (pe_ix (ix_listK (K := K) rfl) (pv 6) (pv 10) (fun _ _ => rfl)) (pe_ix (ix_orK (K := K) rfl) (pe_ix (ix_orK (K := K) rfl) (pe_ix (ix_orK (K := K) rfl) (pv 2) (pv 10) (fun _ _ => rfl)) pe_int (fun _ _ => rfl)) (pv 7) (fun _ _ => rfl))) (pe_ix (ix_orK (K := K) rfl) (pe_ix (ix_orK (K := K) rfl) (pe_ix (ix_orK (K := K) rfl) (pv 2) (pv 10) (fun _ _ => rfl)) pe_int (fun _ _ => rfl)) (pv 8) (fun _ _ => rfl))))) pa_nil)))
  (pss_one (ps_if (pt_cmpR op_ne (pe_op op_mulW (pv 9) (pv 1)) (pe_op op_mulW (pe_ix ix_list (pe_ix ix_list (pv 0) (pv 7) (fun _ _ => rfl)) (pv 8) (fun _ _ => rfl)) (pv 4)) (nomark _)) (pss_one (ps_ret pe_bl)) pss_nil))))))
  (pss_one (ps_ret pe_bl))))))), ?_⟩
  obtain ⟨vs, ha, hl, row⟩ := ht.at
  refine ⟨_, rfl, a, _, rfl, .inl (SqL.of ha), ?_⟩
  rw [hl]
  refine tFor_sq (K := K) (i := 2) (a := t) (xs := us) (k := k) rfl hsq (fun i σ H1 => ∃ (L : Int) (v5 : Option V), σ = [some (.ref a), some (.int low), some (.ref t), some (.int n), some (.int L), v5, none, none, none, none, none] ∧ Same H H1 ∧ 0 < L ∧ L ∣ W ∧ ∀ q ∈ qs.take i, q.2.1 ∣ L)
    ⟨1, none, rfl, fun _ _ h => h, by decide, Int.one_dvd _, by simp⟩ (fun _ _ _ ⟨_, _, _, s, _⟩ => s) ?_ ?_
  · rintro i x σ H1 hx ⟨L, v5, rfl, s1, L0, LW, Lq⟩
    obtain ⟨p, hp⟩ := sq_len hrs hx
    have hm := List.mem_of_getElem? hp
    obtain ⟨ok, gd⟩ := hqs p hm
    obtain ⟨dW, dB, tB, xB⟩ := ok gd
    obtain ⟨kq, lq, t1, u, rfl, h1, h2⟩ := (hrs.2 i x p hx hp).same s1
    have d0 : 0 < p.2.1 := by have := gd.2.1; omega
    obtain ⟨f1, f2, f3, f4⟩ := lcm_facts L0 d0 hW LW dW
    have g0 := gI_pos (b := p.2.1) L0
    have gB : B 6400 (gI L p.2.1) := B_dvd g0 L0 gI_dvd1 (B_dvd L0 hW LW hWB)
    refine ⟨_, rfl, _, rfl, _, rfl, ixq h1 (at_pos (by decide) rfl) ⟨L, p.2.1, rfl, dB.mono (by decide), _, _, rfl, rfl, wdiv g0 gB (by decide) (by decide), ?_⟩⟩
    refine ⟨_, rfl, ixq h1 (at_pos (by decide) rfl) ⟨_, _, rfl, rfl, wmul (B.div g0 (B_dvd L0 hW LW hWB)) dB (by decide) (by decide) (by decide), _, _, rfl, s1, f1, f4, fun q' hq' => ?_⟩⟩
    rw [take_one hp] at hq'
    rcases List.mem_append.mp hq' with m | m
    · exact Int.dvd_trans (Lq q' m) f2
    · rw [List.mem_singleton.mp m]
      exact f3
  rintro σ H1 ⟨L, v5, rfl, s1, L0, LW, Lq⟩
  rw [hrs.1, List.take_length] at Lq
  have LB := B_dvd L0 hW LW hWB
  show tSeq _ _ _ [some (.ref a), some (.int low), some (.ref t), some (.int n), some (.int L), v5, none, none, none, none, none] H1
  refine seq_asg (tLc_sqI (K := K) (i := 2) (a := t) (xs := us) (k := k) rfl (sq_same s1 hsq) qs hrs.1 (by omega) (fun p => p.1 * (L / p.2.1)) (fun i p x H2 hp hx s2 A B' hA => ?_) (fun D H2 s2 hD => ?_))
  · have hm := List.mem_of_getElem? hp
    obtain ⟨ok, gd⟩ := hqs p hm
    obtain ⟨dW, dB, tB, xB⟩ := ok gd
    obtain ⟨kq, lq, t1, u, rfl, h1, h2⟩ := (hrs.2 i x p hx hp).same (s1.trans s2)
    have d0 : 0 < p.2.1 := by have := gd.2.1; omega
    refine ⟨rfl, lc_yes ⟨_, rfl, ixq h1 (at_pos (by decide) rfl) ⟨_, rfl, _, rfl, ixq h1 (at_pos (by decide) rfl) ⟨_, _, rfl, rfl, wdiv d0 dB (by decide) (by decide), _, _, rfl, rfl, wmul tB (B.div d0 LB) (by decide) (by decide) (by decide), hA _ (fun _ _ h => h)⟩⟩⟩⟩
  have s3 := s1.trans s2
  clear s1 s2
  have key : ∀ i j, psum L qs i j * low = M i j * L ↔ psum W qs i j * low = M i j * W := fun i j => by
    have e := psum_re (W := L) (W' := W) (qs := qs) (fun q hq => ⟨by have := (hqs q hq).2.2.1; omega, Lq q hq, ((hqs q hq).1 (hqs q hq).2).1⟩) i j
    constructor
    · intro h
      apply Int.eq_of_mul_eq_mul_left (show L ≠ 0 by omega)
      grind
    · intro h
      apply Int.eq_of_mul_eq_mul_left (show W ≠ 0 by omega)
      grind
  have trB : ∀ (p : Pq), p ∈ qs → ∀ i j, i < n → j < n → B 20000 p.1 ∧ B 6400 (L / p.2.1) ∧ B 20000 (p.2.2.2 i) ∧ B 20000 (p.2.2.2 j) ∧ p.2.2.1 = n := fun p hp i j hi hj => by
    obtain ⟨ok, gd⟩ := hqs p hp
    obtain ⟨dW, dB, tB, xB⟩ := ok gd
    exact ⟨tB, B.div (by have := gd.2.1; omega) LB, xB i hi, xB j hj, gd.2.2⟩
  have psB : ∀ i j, i < n → j < n → B 66410 (psum L qs i j) := fun i j hi hj => BLs (k := 66400) (c := 10) (fun p hp => by
    obtain ⟨h1, h2, h3, h4, _⟩ := trB p hp i j hi hj
    exact (B.mul (B.mul h1 h2) (B.mul h3 h4)).mono (by decide)) (Nat.le_trans hql (by decide))
  refine ⟨_, rfl, (n : Int), rfl, by omega, by omega, ?_⟩
  refine for_range (lo := 0) (n := n) (fun i σ H' => ∃ v7 v8 v9 : Option V, σ = [some (.ref a), some (.int low), some (.ref t), some (.int n), some (.int L), v5, some (.ref D), v7, v8, v9, none] ∧ Same H H' ∧ H' D = some (.lst ((qs.map fun p => p.1 * (L / p.2.1)).map V.int)) ∧ ∀ i' j', i' < i → i' ≤ j' → j' < n → psum L qs i' j' * low = M i' j' * L) ⟨_, _, _, rfl, s3, hD, fun i' j' h => by omega⟩ ?_ ?_
  · clear hD s3
    rintro i σ H3 hi ⟨v7, v8, v9, rfl, s3, hD, done⟩
    refine ⟨_, rfl, _, rfl, _, _, rfl, ⟨by omega, by omega, by omega, by omega⟩, ?_⟩
    refine for_range (lo := 0 + (i : Int)) (n := ((n : Int) - (0 + (i : Int))).toNat) (fun u σ H' => ∃ v8 v9 : Option V, σ = [some (.ref a), some (.int low), some (.ref t), some (.int n), some (.int L), v5, some (.ref D), some (.int (0 + (i : Int))), v8, v9, none] ∧ Same H H' ∧ H' D = some (.lst ((qs.map fun p => p.1 * (L / p.2.1)).map V.int)) ∧ ∀ j', i ≤ j' → j' < i + u → psum L qs i j' * low = M i j' * L) ⟨_, _, rfl, s3, hD, fun j' h1 h2 => by omega⟩ ?_ ?_
    · clear hD s3
      rintro u σ H4 hu ⟨v8, v9, rfl, s3, hD, done2⟩
      have hj : i + u < n := by omega
      have ei : (0 + (i : Int)).toNat = i := by omega
      have ej : (0 + (i : Int) + (u : Int)).toNat = i + u := by omega
      refine ⟨_, rfl, t, _, rfl, sq_or (sq_same s3 hsq), (qs.length : Int), by rw [hrs.1], by omega, by omega, fun D2 hD2 => ?_⟩
      refine lc_m (walk_range (lo := 0) (n := qs.length)) RI (stb_RI (K := K)) (List.range qs.length) (by rw [List.length_range]) (by rw [List.length_range]; omega) hD2 (fun _ _ => trivial) (fun _ _ _ _ => ys_fn) (fun k => (match qs[k]? with | some q => trm L i (i + u) q | none => 0)) (fun c k2 x H5 H6 hc s5 s6 yl A B' hA => ?_) (fun H5 l s5 hl5 rz => ?_)
      · obtain ⟨hc1, rfl⟩ := in_range hc
        rw [yl.2]
        have e1 : qs[k2]? = some qs[k2] := List.getElem?_eq_getElem hc1
        have e2 : us[k2]? = some (us[k2]'(by rw [hrs.1]; exact hc1)) := List.getElem?_eq_getElem _
        have m2 := List.getElem_mem hc1
        obtain ⟨b1, b2, b3, b4, ln⟩ := trB _ m2 i (i + u) hi hj
        obtain ⟨kq, lq, t1, w1, ew, h1, h2⟩ := (hrs.2 k2 _ _ e2 e1).same (s3.trans s6)
        rw [ln] at h2
        have a1 : atI us (0 + (k2 : Int)) = some (.ref t1) := at_pos (by omega) (by rw [show (0 + (k2 : Int)).toNat = k2 by omega, e2, ew])
        have a2 : atI ((qs.map fun p => p.1 * (L / p.2.1)).map V.int) (0 + (k2 : Int)) = some (.int (qs[k2].1 * (L / qs[k2].2.1))) := at_pos (by omega) (by rw [show (0 + (k2 : Int)).toNat = k2 by omega, List.getElem?_map, List.getElem?_map, e1]; rfl)
        have sqk := sq_same (s3.trans s6) hsq
        refine ⟨rfl, lc_yes ⟨_, rfl, _, rfl, D, _, _, _, rfl, rfl, SqL.of (s6 _ _ hD), a2, _, rfl, _, rfl, ixq sqk a1 (ixq h1 (at_pos (by decide) rfl) ⟨_, rfl, ixq h2 (at_pos (by omega) (by rw [ei]; exact vecV_at hi)) ⟨_, _, rfl, rfl, wmul (B.mul b1 b2) b3 (by decide) (by decide) (by decide), ?_⟩⟩)⟩⟩
        refine ⟨_, rfl, _, rfl, ixq sqk a1 (ixq h1 (at_pos (by decide) rfl) ⟨_, rfl, ixq h2 (at_pos (by omega) (by rw [ej]; exact vecV_at hj)) ⟨_, _, rfl, rfl, wmul (B.mul (B.mul b1 b2) b3) b4 (by decide) (by decide) (by decide), hA _ _ (fun _ _ h => h) ?_⟩⟩)⟩
        show V.int _ = V.int _
        rw [e1]
        show _ = V.int (trm L i (i + u) qs[k2])
        unfold trm
        rw [← Int.mul_assoc (_ * _)]
      · refine ⟨D2, _, rfl, SqL.of (by rw [hl5, rz.ints]), ?_⟩
        have s7 := s3.trans s5
        obtain ⟨p, hp1, hp2⟩ := row i hi
        have es : ((List.range qs.length).map fun k => (match qs[k]? with | some q => trm L i (i + u) q | none => 0)).sum = psum L qs i (i + u) := (psum_take i (i + u)).symm
        rw [es]
        refine ⟨_, rfl, _, rfl, _, _, rfl, rfl, wmul (psB i (i + u) hi hj) hlow (by decide) (by decide) (by decide), ?_⟩
        refine ⟨_, rfl, _, rfl, a, _, _, _, rfl, rfl, SqL.of (s7 _ _ ha), at_pos (by omega) (by rw [ei]; exact hp1), _, rfl, p, _, _, _, rfl, rfl, SqL.of (s7 _ _ hp2), at_pos (by omega) (by rw [ej]; exact vecV_at hj), _, rfl, _, _, rfl, rfl, wmul (hM i (i + u) hi hj).2 LB (by decide) (by decide) (by decide), rfl, _, rfl, ?_⟩
        by_cases c : psum L qs i (i + u) * low = M i (i + u) * L
        · refine ifF (ne_F c) ⟨_, _, rfl, s7, s5 _ _ hD, fun j' h1 h2 => ?_⟩
          by_cases e : j' = i + u
          · rw [e]; exact c
          · exact done2 j' h1 (by omega)
        · exact ifT (ne_T c) (q false H5 s7 ⟨fun z => (by cases z), fun z => absurd ((key _ _).mpr (z i (i + u) hi hj)) c⟩)
    · rintro σ H4 ⟨v8, v9, rfl, s3, hD, done2⟩
      refine ⟨_, _, _, rfl, s3, hD, fun i' j' h1 h2 h3 => ?_⟩
      by_cases e : i' = i
      · rw [e] at h2 ⊢
        exact done2 j' h2 (by omega)
      · exact done i' j' (by omega) h2 h3
  · rintro σ H3 ⟨v7, v8, v9, rfl, s3, hD, done⟩
    refine q true H3 s3 ⟨fun _ i j hi hj => ?_, fun _ => rfl⟩
    rw [← key]
    by_cases c : i ≤ j
    · exact done i j hi c hj
    · rw [psum_sym, (hM i j hi hj).1]
      exact done j i hj (by omega) hi
end
end P01
namespace PySem.El
/-- the product of the pivots -/
def pprod (ps : List Pv) : Int := ps.foldr (fun p t => p.2.1 p.1 * t) 1
theorem Run.scales {A : Nat → Row} {k S d B ps} (h : Run A k S d B ps) : d ∣ pprod ps ∧ ∀ p ∈ ps, p.2.2 ∣ pprod ps := by
  induction h with
  | begin => exact ⟨Int.one_dvd _, by simp⟩
  | skip _ _ ih => exact ih
  | @pivot k S d B ps h hp ih =>
    obtain ⟨h1, h2⟩ := ih
    have e : pprod ((k, B k, d * B k k) :: ps) = B k k * pprod ps := rfl
    rw [e]
    refine ⟨⟨_, rfl⟩, fun p hp' => ?_⟩
    rcases List.mem_cons.1 hp' with e1 | m
    · subst e1
      obtain ⟨c, hc⟩ := h1
      exact ⟨c, by show B k k * pprod ps = d * B k k * c; rw [hc]; grind⟩
    · exact Int.dvd_trans (h2 p m) ⟨B k k, by rw [Int.mul_comm]⟩
/-- its bound -/
def pb (M : Int) : Nat → Int
  | 0 => 1
  | k + 1 => bnd M (k + 1) * pb M k
theorem pb_pos {M : Int} (hM : 1 ≤ M) : ∀ n, 1 ≤ pb M n
  | 0 => by simp [pb]
  | n + 1 => by
    have h1 := bnd_pos hM (n + 1)
    have h2 := pb_pos hM n
    have : 1 * 1 ≤ bnd M (n + 1) * pb M n := Int.mul_le_mul h1 h2 (by decide) (by omega)
    simpa [pb] using this
theorem Run.pprod_le {A : Nat → Row} (hA : ∀ i j, A i j = A j i) {k S d B ps} (h : Run A k S d B ps) (M : Int) (hM : 1 ≤ M) (hb : ∀ i j, -M ≤ A i j ∧ A i j ≤ M) : 1 ≤ pprod ps ∧ pprod ps ≤ pb M k := by
  induction h with
  | begin => exact ⟨by decide, Int.le_refl 1⟩
  | @skip k S d B ps h hz ih =>
    obtain ⟨h1, h2⟩ := ih
    have p1 := bnd_pos hM (k + 1)
    have p2 := pb_pos hM k
    refine ⟨h1, Int.le_trans h2 ?_⟩
    have : 1 * pb M k ≤ bnd M (k + 1) * pb M k := Int.mul_le_mul_of_nonneg_right p1 (by omega)
    simpa [pb] using this
  | @pivot k S d B ps h hp ih =>
    obtain ⟨h1, h2⟩ := ih
    have r := h.rbound hA M hM hb (Nat.le_refl k) k
    have p1 := bnd_pos hM (k + 1)
    refine ⟨?_, ?_⟩
    · have : 1 * 1 ≤ B k k * pprod ps := Int.mul_le_mul (by omega) h1 (by decide) (by omega)
      simpa [pprod] using this
    · have : B k k * pprod ps ≤ bnd M (k + 1) * pb M k := Int.mul_le_mul r.2 h2 (by omega) (by omega)
      simpa [pprod, pb] using this
theorem nums2 : (List.range 11).all (fun n => decide ((pb (2 ^ 96) n).natAbs < 2 ^ 6200)) = true := by decide +kernel
/-- rows of pivots are 0 outside -/
theorem Run.rows_out {A : Nat → Row} {n : Nat} {k S d B ps} (h : Run A k S d B ps) (hB : ∀ {k S d B ps}, Run A k S d B ps → ∀ i j, n ≤ j → B i j = 0) : ∀ p ∈ ps, ∀ j, n ≤ j → p.2.1 j = 0 := by
  induction h with
  | begin => simp
  | skip _ _ ih => exact ih
  | @pivot k S d B ps h hp ih =>
    intro p hp' j hj
    rcases List.mem_cons.1 hp' with e1 | m
    · subst e1
      exact hB h k j hj
    · exact ih p m j hj
/-- the value by another table of the same form -/
theorem Q_tie {n : Nat} {R M : Nat → Row} {x : Row} {u v : Int} (hu : 0 < u) (hv : 0 < v) (h : ∀ i j, i < n → j < n → R i j * u = M i j * v) (hq : Q n M x < 0) : Q n R x < 0 := by
  have e : u * Q n R x = v * Q n M x := by
    rw [← Q_mul, ← Q_mul]
    apply Q_congr
    intro i j hi hj
    have := h i j hi hj
    rw [Int.mul_comm u, this, Int.mul_comm v]
  have h1 : v * Q n M x < 0 := Int.mul_neg_of_pos_of_neg hv hq
  rw [← e] at h1
  rcases Int.lt_or_le (Q n R x) 0 with c | c
  · exact c
  · have := Int.mul_nonneg (Int.le_of_lt hu) c
    omega
end PySem.El
namespace P01
open PySem PySem.Spec PyProof.Rows L2 SX EX WK
/-- a told square as one of a sequence -/
def asq (n : Nat) (q : Sq3) : Pq := (q.1, q.2.1, n, q.2.2)
theorem Told.pq {K : PySem.W.Frag} {n : Nat} {H : Hp} {v : V} {q : Sq3} (h : Told K n H v q) : PqAt K H v (asq n q) := by
  obtain ⟨t, u, h1, h2, h3⟩ := h
  exact ⟨false, false, t, u, h1, h2, h3⟩
theorem Rs.pq {K : PySem.W.Frag} {n : Nat} {H : Hp} {us : List V} {qs : List Sq3} (h : Rs (Told K n) H us qs) : Rs (PqAt K) H us (qs.map (asq n)) := by
  refine ⟨by rw [h.1, List.length_map], fun i v q hv hq => ?_⟩
  rw [List.getElem?_map] at hq
  cases e : qs[i]? with
  | none => rw [e] at hq; cases hq
  | some q0 =>
    rw [e] at hq
    cases hq
    exact (h.2 i v q0 hv e).pq
theorem gf0_one {ns : List Int} (hg : 0 < gf 0 ns) : gf 0 (ns.map (· / gf 0 ns)) = 1 := by
  have h := gf_scale hg (ns := ns) (b := 0) ⟨0, by rw [Int.mul_zero]⟩ (gf_dvd (b := 0) ns).2
  rw [Int.zero_ediv] at h
  apply Int.eq_of_mul_eq_mul_left (show gf 0 ns ≠ 0 by omega)
  rw [← h, Int.mul_one]
/-- what a told square is -/
structure EOk (n w : Nat) (l : Nat) (q : Sq3) : Prop where
  top : 1 ≤ q.1
  bot : 1 ≤ q.2.1
  low : gI q.1 q.2.1 = 1
  lt : l < n
  zero : ∀ j, j < l → q.2.2 j = 0
  lead : 1 ≤ q.2.2 l
  one : gf 0 (vec n q.2.2) = 1
  tB : B 4000 q.1
  bB : B 2500 q.2.1
  xB : ∀ j, B w (q.2.2 j)
theorem vec_map {n : Nat} {x : Nat → Int} {g : Int} : (vec n x).map (· / g) = vec n fun i => x i / g := by
  unfold vec
  rw [List.map_map]
  rfl
theorem ech_ok {n w : Nat} {bd b : Int} {M : Nat → Nat → Int} (jo : JOk n w bd M) (hb : 0 < b) (hbB : B 70 b) {S : List Nat} {d : Int} {B' : Nat → Nat → Int} {ps : List El.Pv} (run : El.Run M n S d B' ps) (p : El.Pv) (hp : p ∈ ps) : EOk n w p.1 (ech n b p) := by
  obtain ⟨hlt, hpos, hrB, hs0, _⟩ := jo.piv run (Nat.le_refl n) p hp
  have pv := run.pivots jo.whole.sym bd jo.bd1 jo.abs p hp
  have hm : p.2.1 p.1 ∈ vec n p.2.1 := List.mem_map.mpr ⟨p.1, List.mem_range.mpr hlt, rfl⟩
  obtain ⟨hg0, hgle⟩ := gf_nz hm (by omega)
  have gd := (gf_dvd (b := 0) (vec n p.2.1)).2
  have w1 := jo.w1
  have gB : B w (gf 0 (vec n p.2.1)) := by
    have := hrB p.1
    have h2 : (p.2.1 p.1).natAbs < 2 ^ w := this
    show (gf 0 (vec n p.2.1)).natAbs < 2 ^ w
    omega
  have sB : B 2001 p.2.2 := by
    have a := pv.scale
    have m1 := El.bnd_mono jo.bd1 (show p.1 + 1 ≤ n by omega)
    have m0 := El.bnd_mono jo.bd1 (show p.1 ≤ n by omega)
    have p0 := El.bnd_pos jo.bd1 p.1
    have p1 := El.bnd_pos jo.bd1 (p.1 + 1)
    have c : El.bnd bd p.1 * El.bnd bd (p.1 + 1) ≤ El.bnd bd n * El.bnd bd n := Int.mul_le_mul m0 m1 (by omega) (by omega)
    exact (B.le (by omega) (Int.le_trans a c) (B.mul jo.bB jo.bB)).mono (by omega)
  have sb0 : 0 < p.2.2 * b := Int.mul_pos hs0 hb
  have gg0 : 0 < gf 0 (vec n p.2.1) * gf 0 (vec n p.2.1) := Int.mul_pos hg0 hg0
  have G0 := gI_pos (b := p.2.2 * b) gg0
  refine ⟨quot_pos G0 gI_dvd1 (by omega), quot_pos G0 gI_dvd2 (by omega), gI_one sb0, hlt, fun j hj => ?_, ?_, ?_, ?_, ?_, fun j => B.div hg0 (hrB j)⟩
  · show p.2.1 j / _ = 0
    rw [pv.zero j hj, Int.zero_ediv]
  · exact quot_pos hg0 (gd _ hm) (by omega)
  · show gf 0 (vec n fun i => p.2.1 i / gf 0 (vec n p.2.1)) = 1
    rw [← vec_map]
    exact gf0_one hg0
  · exact (B.div G0 (B.mul gB gB)).mono (by omega)
  · exact (B.div G0 (B.mul sB hbB)).mono (by decide)
/-- a common multiple of the told bottoms -/
def wprod (b : Int) (ps : List El.Pv) : Int := 21 * (b * El.pprod ps)
theorem ech_dvd {n w : Nat} {bd b : Int} {M : Nat → Nat → Int} (jo : JOk n w bd M) (hb : 0 < b) {S : List Nat} {d : Int} {B' : Nat → Nat → Int} {ps : List El.Pv} (run : El.Run M n S d B' ps) (p : El.Pv) (hp : p ∈ ps) : (ech n b p).2.1 ∣ wprod b ps := by
  obtain ⟨hlt, hpos, hrB, hs0, _⟩ := jo.piv run (Nat.le_refl n) p hp
  have hm : p.2.1 p.1 ∈ vec n p.2.1 := List.mem_map.mpr ⟨p.1, List.mem_range.mpr hlt, rfl⟩
  obtain ⟨hg0, hgle⟩ := gf_nz hm (by omega)
  have gg0 : 0 < gf 0 (vec n p.2.1) * gf 0 (vec n p.2.1) := Int.mul_pos hg0 hg0
  have e : (ech n b p).2.1 ∣ p.2.2 * b := by
    obtain ⟨c, hc⟩ := (gI_dvd2 : gI (gf 0 (vec n p.2.1) * gf 0 (vec n p.2.1)) (p.2.2 * b) ∣ p.2.2 * b)
    have g0 := gI_pos (b := p.2.2 * b) gg0
    exact ⟨gI (gf 0 (vec n p.2.1) * gf 0 (vec n p.2.1)) (p.2.2 * b), by
      show p.2.2 * b = p.2.2 * b / _ * _
      rw [Int.ediv_mul_cancel gI_dvd2]⟩
  obtain ⟨c, hc⟩ := run.scales.2 p hp
  refine Int.dvd_trans e ⟨21 * c, ?_⟩
  unfold wprod
  rw [hc]
  grind
theorem wprod_ok {n w : Nat} {bd b : Int} {M : Nat → Nat → Int} (jo : JOk n w bd M) (hpb : B 6200 (El.pb bd n)) (hb : 0 < b) (hbB : B 70 b) {S : List Nat} {d : Int} {B' : Nat → Nat → Int} {ps : List El.Pv} (run : El.Run M n S d B' ps) : 0 < wprod b ps ∧ B 6400 (wprod b ps) ∧ 3 ∣ wprod b ps ∧ 7 ∣ wprod b ps := by
  obtain ⟨h1, h2⟩ := run.pprod_le jo.whole.sym bd jo.bd1 jo.abs
  have h3 : 0 < b * El.pprod ps := Int.mul_pos hb (by omega)
  have hp : B 6200 (El.pprod ps) := B.le (by omega) h2 hpb
  refine ⟨?_, ?_, ⟨7 * (b * El.pprod ps), ?_⟩, ⟨3 * (b * El.pprod ps), ?_⟩⟩
  · unfold wprod
    omega
  · exact (B.mul (by decide : B 5 21) (B.mul hbB hp)).mono (by decide)
  · unfold wprod
    omega
  · unfold wprod
    omega
theorem Ls_rev {α : Type} (l : List α) (f : α → Int) : Ls l.reverse f = Ls l f := by
  induction l with
  | nil => rfl
  | cons a l ih => rw [List.reverse_cons, Ls_snoc, ih, Ls_cons, Int.add_comm]
theorem Ls_map {α β : Type} (l : List α) (g : α → β) (f : β → Int) : Ls (l.map g) f = Ls l fun a => f (g a) := by
  unfold Ls
  rw [List.map_map]
  rfl
theorem Ls_lsum (ps : List El.Pv) (f : El.Pv → Int) : Ls ps f = El.lsum ps f := by
  induction ps with
  | nil => rfl
  | cons p ps ih => rw [Ls_cons, ih]; rfl
/-- the told squares show the form -/
theorem ech_sum {n w : Nat} {bd b : Int} {M : Nat → Nat → Int} (jo : JOk n w bd M) (hb : 0 < b) {S : List Nat} {d : Int} {B' : Nat → Nat → Int} {ps : List El.Pv} (run : El.Run M n S d B' ps) (i j : Nat) (hj : j < n) : psum (wprod b ps) ((ps.reverse.map (ech n b)).map (asq n)) i j * b = M i j * wprod b ps := by
  unfold psum
  rw [List.map_map, Ls_map, Ls_rev, Ls_lsum]
  have h0 : ∀ p ∈ ps, 0 < gf 0 (vec n p.2.1) := fun p hp => by
    obtain ⟨hlt, hpos, _⟩ := jo.piv run (Nat.le_refl n) p hp
    exact (gf_nz (List.mem_map.mpr ⟨p.1, List.mem_range.mpr hlt, rfl⟩) (by omega)).1
  have e := run.expands jo.whole.sym (fun p hp => (jo.piv run (Nat.le_refl n) p hp).2.2.2.1) b (wprod b ps) (fun p => (ech n b p).1) (fun p => (ech n b p).2.1) (fun p => gf 0 (vec n p.2.1)) (fun p => (ech n b p).2.2)
    (fun p hp j => by
      show gf 0 (vec n p.2.1) * (p.2.1 j / gf 0 (vec n p.2.1)) = p.2.1 j
      by_cases c : j < n
      · exact Int.mul_ediv_cancel' ((gf_dvd (b := 0) (vec n p.2.1)).2 _ (List.mem_map.mpr ⟨j, List.mem_range.mpr c, rfl⟩))
      · rw [run.rows_out (fun r => run_out jo.whole r) p hp j (by omega), Int.zero_ediv, Int.mul_zero])
    (fun p hp => by
      have g0 := gI_pos (t := gf 0 (vec n p.2.1) * gf 0 (vec n p.2.1)) (b := p.2.2 * b) (Int.mul_pos (h0 p hp) (h0 p hp))
      exact cross g0 gI_dvd1 gI_dvd2)
    (fun p hp => by
      have g0 := gI_pos (t := gf 0 (vec n p.2.1) * gf 0 (vec n p.2.1)) (b := p.2.2 * b) (Int.mul_pos (h0 p hp) (h0 p hp))
      have s0 := (jo.piv run (Nat.le_refl n) p hp).2.2.2.1
      have q0 := quot_pos g0 (gI_dvd2 : gI (gf 0 (vec n p.2.1) * gf 0 (vec n p.2.1)) (p.2.2 * b) ∣ p.2.2 * b) (by have := Int.mul_pos s0 hb; omega)
      exact ⟨by show 0 < p.2.2 * b / _; omega, ech_dvd jo hb run p hp⟩) i j hj
  rw [Int.mul_comm (M i j), ← e]
  rfl
theorem ech_good {n w : Nat} {bd b : Int} {M : Nat → Nat → Int} (jo : JOk n w bd M) (hb : 0 < b) (hbB : B 70 b) {S : List Nat} {d : Int} {B' : Nat → Nat → Int} {ps : List El.Pv} (run : El.Run M n S d B' ps) : ∀ q ∈ (ps.reverse.map (ech n b)).map (asq n), SqOk n (wprod b ps) q ∧ Good n q := fun q hq => by
  obtain ⟨q1, hq1, rfl⟩ := List.mem_map.mp hq
  obtain ⟨p, hp, rfl⟩ := List.mem_map.mp hq1
  have hp' := List.mem_reverse.mp hp
  have e := ech_ok jo hb hbB run p hp'
  have w1 := jo.w1
  exact ⟨fun _ => ⟨ech_dvd jo hb run p hp', e.bB, e.tB.mono (by decide), fun j _ => (e.xB j).mono (by omega)⟩, e.top, e.bot, rfl⟩
end P01
namespace P01
open PySem PySem.Spec PyProof.Rows L2 SX EX WK
theorem JOk.badB {n w : Nat} {bd : Int} {M : Nat → Nat → Int} (h : JOk n w bd M) {k : Nat} {S : List Nat} {d : Int} {B' : Nat → Nat → Int} {ps : List El.Pv} (r : El.Run M k S d B' ps) (hk : k < n) {x : El.Row} (bad : BadAt n k B' x) (i0 : Nat) : B 9000 (seti n ps x i0) := by
  obtain ⟨f2, i1, hi1, _, _⟩ := h.bad r hk bad
  have pb := r.setl_bound (fun k => El.bnd bd (k + 1)) (fun k => El.bnd bd k * El.bnd bd (k + 1)) n (fun k => El.bnd_pos h.bd1 _) (fun p hp => { r.pivots h.whole.sym bd h.bd1 h.abs p hp with small := Nat.lt_trans (r.pivots h.whole.sym bd h.bd1 h.abs p hp).small hk }) (by omega) x (((2 ^ (w + 1) : Nat)) : Int) (by have := Nat.one_le_two_pow (n := w + 1); omega) (fun i => by have h2 : (x i).natAbs < 2 ^ (w + 1) := f2 i; omega) i0
  rw [seti_setl] at pb
  have mono := tb_mono (R := fun k => El.bnd bd (k + 1)) (n := (n : Int)) (by omega) (fun k => El.bnd_pos h.bd1 _) (show k ≤ n by omega)
  have tpos := El.tb_pos (R := fun k => El.bnd bd (k + 1)) (n := (n : Int)) (by omega) (fun k => El.bnd_pos h.bd1 _) k
  have htb := h.tbB
  have hX : ((2 ^ (w + 1) : Nat) : Int) ≤ ((2 ^ 1001 : Nat) : Int) := Int.ofNat_le.mpr (Nat.pow_le_pow_right (by decide) (by have := h.w1; omega))
  have fin : ((2 ^ (w + 1) : Nat) : Int) * El.tb (fun k => El.bnd bd (k + 1)) n k ≤ ((2 ^ 1001 : Nat) : Int) * ((2 ^ 7900 : Nat) : Int) := Int.mul_le_mul hX (by
    rw [show ((2 ^ 7900 : Nat) : Int) = (2 : Int) ^ 7900 from Int.natCast_pow 2 7900]
    omega) (by omega) (Int.natCast_nonneg _)
  rw [← Int.natCast_mul, ← Nat.pow_add] at fin
  have lt : (2 : Nat) ^ (1001 + 7900) < 2 ^ 9000 := Nat.pow_lt_pow_right (by decide) (by decide)
  show (seti n ps x i0).natAbs < 2 ^ 9000
  generalize (2 : Nat) ^ (1001 + 7900) = A at *
  generalize (2 : Nat) ^ 9000 = C at *
  omega
theorem bad_neg {n k : Nat} {B' : Nat → El.Row} {x : El.Row} (hk : k < n) (hs : ∀ i j, B' i j = B' j i) (bad : BadAt n k B' x) : El.Q n B' x < 0 := by
  rcases bad with ⟨h0, rfl⟩ | ⟨h0, p, hp, hpn, hne, _, rfl⟩
  · rw [El.Q_unit B' hk]
    exact h0
  · exact El.Q_side_neg B' hk hpn (hs k p) h0 hne (amt k p B') rfl
theorem bad_value {n w : Nat} {bd : Int} {M : Nat → Nat → Int} (jo : JOk n w bd M) {k : Nat} {S : List Nat} {d : Int} {B' : Nat → Nat → Int} {ps : List El.Pv} (run : El.Run M k S d B' ps) (hk : k < n) {x : El.Row} (bad : BadAt n k B' x) : El.Q n M (setd n ps x) < 0 ∧ ∀ i, i < n → B 9000 (setd n ps x i) := by
  obtain ⟨_, i0, hi0, hne, _⟩ := jo.bad run hk bad
  have hm : seti n ps x i0 ∈ vec n (seti n ps x) := List.mem_map.mpr ⟨i0, List.mem_range.mpr hi0, rfl⟩
  obtain ⟨hg0, _⟩ := gf_nz hm hne
  have gd := (gf_dvd (b := 0) (vec n (seti n ps x))).2
  obtain ⟨hz, f0, hf0, hs⟩ := run.settled jo.whole.sym n (by omega) x
  rw [seti_setl] at hz hs
  have inv := run.inv jo.whole.sym
  have ex : ∀ i, i < n → gf 0 (vec n (seti n ps x)) * setd n ps x i = seti n ps x i := fun i hi => Int.mul_ediv_cancel' (gd _ (List.mem_map.mpr ⟨i, List.mem_range.mpr hi, rfl⟩))
  refine ⟨?_, fun i hi => B.div hg0 (jo.badB run hk bad i)⟩
  refine run.negAt jo.whole.sym n x (setd n ps x) (fun p hp => ?_) (gf 0 (vec n (seti n ps x))) f0 hg0 hf0 (fun i hi hS => ?_) (bad_neg hk inv.sym bad)
  · have e := El.lin_mul n p.2.1 (setd n ps x) (seti n ps x) (gf 0 (vec n (seti n ps x))) fun i hi => .inr (ex i hi).symm
    rw [hz p hp] at e
    rcases Int.mul_eq_zero.mp e.symm with z | z
    · omega
    · exact z
  · rw [ex i hi]
    exact hs i hS
/-- a point is told at one place only where there is one -/
theorem bad_bd {n k : Nat} {B' : Nat → El.Row} {x : El.Row} (bad : BadAt n k B' x) : Bd n k B' := by
  rcases bad with ⟨h0, _⟩ | ⟨h0, p, hp, hpn, hne, _, _⟩
  · exact .inl h0
  · exact .inr ⟨h0, p, hp, hpn, hne⟩
theorem run_not_bd {n k : Nat} {M : Nat → El.Row} {S : List Nat} {d : Int} {B' : Nat → El.Row} {ps : List El.Pv} (run : El.Run M n S d B' ps) {S2 : List Nat} {d2 : Int} {B2 : Nat → El.Row} {ps2 : List El.Pv} (hk : k < n) (run2 : El.Run M k S2 d2 B2 ps2) (bd : Bd n k B2) : False := by
  obtain ⟨S3, d3, B3, ps3, run3, h⟩ := run.upto k hk
  obtain ⟨_, _, e, _⟩ := run3.same run2
  subst e
  rcases bd with b | ⟨b, j, _, _, hj⟩
  · rcases h with h | h
    · omega
    · have := h k
      omega
  · rcases h with h | h
    · omega
    · exact hj (h j)
section
variable {P : Program} {w : World} {K : PySem.W.Frag} {mg : Str → Option Value} {base : Heap} {f : Addr} {fd : FuncData} {cF cR : Addr}
def spShows (K : PySem.W.Frag) : Sp := fun vs H Q _ => ∃ (a t : Addr) (n : Nat) (T : Nat → Nat → Int) (low W : Int) (us : List V) (qs : List Pq), vs = [.ref a, .int low, .ref t] ∧ LTab H a n T ∧ (∀ i j, i < n → j < n → T i j = T j i ∧ B 97 (T i j)) ∧ B 4000 low ∧ n ≤ 10 ∧ SqL K H t us ∧ Rs (PqAt K) H us qs ∧ 0 < W ∧ B 6400 W ∧ (∀ q ∈ qs, SqOk n W q) ∧ qs.length ≤ 1000 ∧
  ∀ b H', Same H H' → (b = true ↔ Shows n T low W qs) → Q (.bl b) H'
abbrev s__law_shows : Stmt := top 51
abbrev N__law_shows : List Str := ["table", "low", "squares", "one"]
theorem sc__law_shows : FnScope N__law_shows ["table", "low", "squares"] (defScope s__law_shows) := ⟨rfl, rfl, rfl, by decide +kernel, rfl, by decide +kernel, by decide +kernel⟩
theorem ok__law_shows (F : Fun K "_law_shows" "_law_shows" s__law_shows f fd) (T : Txt mg) (C__law_expands : Cal P w K mg base 2 "_law_expands" ["table", "low", "told"] (spExp K)) : FnOk P w K mg base CX0 3 f fd ["table", "low", "squares"] (spShows K) := by
  refine F.ok sc__law_shows (fun vs H Q E h => ?_) (fun cdv A outer s H vs Q E hr h => ?_)
  · obtain ⟨a, t, n, M, low, W, us, qs, rfl, _⟩ := h
    rfl
  obtain ⟨a, t, n, M, low, W, us, qs, rfl, ht, hM, hlow, hn, hsq, hrs, hW, hWB, hqs, hql, q⟩ := h
  refine ⟨_, (pss_cons (ps_for PassesOwn.never rfl (pi_list (pv 2)) (pg_name (i := 3) sc__law_shows.nd rfl (Or.inl rfl)) (pss_one (ps_if (PW.pt (pw_or (pt_cmpR op_lt (pe_ix ix_or (pv 3) pe_int (fun _ _ => rfl)) pe_int (nomark _)) (pw_or (pt_cmpR op_lt (pe_ix ix_or (pv 3) pe_int (fun _ _ => rfl)) pe_int (nomark _)) (pw_or1 (pt_cmpR op_ne (pe_callB call_len_seq (by rfl) T.b_len PySem.boot_len (pa_cons (pe_ix ix_or (pv 3) pe_int (fun _ _ => rfl)) pa_nil)) (pe_callB call_len_seq (by rfl) T.b_len PySem.boot_len (pa_cons (pv 0) pa_nil)) (nomark _)))))) (pss_one (ps_ret pe_bl)) pss_nil)))
  (pss_one (ps_ret (pe_cal C__law_expands (hr.mono (by omega)) rfl (pa_cons (pv 0) (pa_cons (pv 1) (pa_cons (pv 2) pa_nil))))))), ?_⟩
  obtain ⟨vs, ha, hl, row⟩ := ht.at
  refine ⟨_, rfl, t, rfl, ⟨_, hsq⟩, for_list (K := K) (a := t) (xs := us) (fun i σ H1 => ∃ v3 : Option V, σ = [some (.ref a), some (.int low), some (.ref t), v3] ∧ H1 = H ∧ ∀ q ∈ qs.take i, Good n q) ⟨none, rfl, rfl, by simp⟩ (fun i σ H1 _ ⟨_, _, e, _⟩ => by rw [e]; exact hsq) ?_ ?_⟩
  · rintro i x σ H1 hx ⟨v3, rfl, rfl, gd⟩
    obtain ⟨p, hp⟩ := sq_len hrs hx
    have hm := List.mem_of_getElem? hp
    obtain ⟨kq, lq, t1, u, rfl, h1, h2⟩ := hrs.2 i x p hx hp
    have nope : ¬ Good n p → Q (.bl false) H1 := fun h => q false H1 (fun _ _ h => h) ⟨fun e => (by cases e), fun e => absurd (e.1 _ hm) h⟩
    refine ⟨_, rfl, ixq h1 (at_pos (by decide) rfl) ⟨_, _, rfl, rfl, _, rfl, ?_⟩⟩
    by_cases c1 : p.1 < 1
    · exact ifT (decide_eq_true c1) (ifT rfl (nope fun g => by have := g.1; omega))
    refine ifF (decide_eq_false c1) ⟨_, rfl, ixq h1 (at_pos (by decide) rfl) ⟨_, _, rfl, rfl, _, rfl, ?_⟩⟩
    by_cases c2 : p.2.1 < 1
    · exact ifT (decide_eq_true c2) (ifT rfl (nope fun g => by have := g.2.1; omega))
    refine ifF (decide_eq_false c2) ⟨_, rfl, ixq h1 (at_pos (by decide) rfl) ⟨u, _, rfl, sq_or h2, _, rfl, a, _, rfl, .inl (SqL.of ha), rfl, _, rfl, ?_⟩⟩
    rw [vec_lenV, hl]
    by_cases c3 : p.2.2.1 = n
    · refine ifF (ne_F (by rw [c3])) ⟨_, rfl, rfl, fun q' hq' => ?_⟩
      rw [take_one hp] at hq'
      rcases List.mem_append.mp hq' with m | m
      · exact gd q' m
      · rw [List.mem_singleton.mp m]
        exact ⟨by omega, by omega, c3⟩
    · exact ifT (ne_T (by omega)) (nope fun g => c3 g.2.2)
  · rintro σ H1 ⟨v3, rfl, rfl, gd⟩
    rw [hrs.1, List.take_length] at gd
    refine ⟨_, rfl, _, rfl, _, rfl, a, t, true, n, M, low, W, us, qs, rfl, ht, hM, hlow, hn, hsq, hrs, hW, hWB, fun p hp => ⟨hqs p hp, gd p hp⟩, hql, fun b H2 s2 hb => q b H2 s2 ?_⟩
    rw [hb]
    exact ⟨fun h => ⟨gd, h⟩, fun h => h.2⟩
end
end P01
namespace P01
open PySem PySem.Spec PyProof.Rows L2 SX EX WK
section
variable {P : Program} {w : World} {K : PySem.W.Frag} {mg : Str → Option Value} {base : Heap} {f : Addr} {fd : FuncData} {cF cR : Addr}
def spEchL (K : PySem.W.Frag) : Sp := fun vs H Q _ => ∃ (t r : Addr) (us : List V) (n w : Nat) (zs : List (Nat × Sq3)), vs = [.ref t, .ref r, .int n] ∧ SqT K H t us ∧ Rs (Told K n) H us (zs.map (·.2)) ∧ H r = some (.lst ((zs.map fun z => (z.1 : Int)).map V.int)) ∧ (∀ z ∈ zs, EOk n w z.1 z.2) ∧ n ≤ 10 ∧ zs.length ≤ 10 ∧ w ≤ 1000 ∧ ∀ H', Same H H' → Q (.bl true) H'
abbrev s__law_echelon : Stmt := top 48
abbrev N__law_echelon : List Str := ["told", "found", "size", "k", "one", "j"]
theorem sc__law_echelon : FnScope N__law_echelon ["told", "found", "size"] (defScope s__law_echelon) := ⟨rfl, rfl, rfl, by decide +kernel, rfl, by decide +kernel, by decide +kernel⟩
theorem ok__law_echelon (F : Fun K "_law_echelon" "_law_echelon" s__law_echelon f fd) (T : Txt mg) (C__law_whole : Cal P w K mg base 1 "_law_whole" ["value"] spLaw_whole) (C__law_gcd : Cal P w K mg base 1 "_law_gcd" ["one", "two"] spGcd) (C__law_is_point : Cal P w K mg base 2 "_law_is_point" ["value", "size"] (spIsPoint K)) (C__law_shared : Cal P w K mg base 2 "_law_shared" ["line"] (spShared K)) : FnOk P w K mg base CX0 3 f fd ["told", "found", "size"] (spEchL K) := by
  refine F.ok sc__law_echelon (fun vs H Q E h => ?_) (fun cdv A outer s H vs Q E hr h => ?_)
  · obtain ⟨t, r, us, n, w, zs, rfl, _⟩ := h
    rfl
  obtain ⟨t, r, us, n, wz, zs, rfl, ht, hrs, hr1, hz, hn, hzl, hw, q⟩ := h
  refine ⟨_, (pss_cons (ps_if (PW.pt (pw_or (pt_not (pt_val (pe_callB call_isi (by rfl) T.b_isinstance (by decide +kernel) (pa_cons (pv 0) (pa_cons (pe_bltn (v := .ty "tuple") (by rfl) T.b_tuple (by decide +kernel) rfl) pa_nil))))) (pw_or1 (pt_cmpR op_ne (pe_callB call_len_seq (by rfl) T.b_len PySem.boot_len (pa_cons (pv 0) pa_nil)) (pe_callB call_len_seq (by rfl) T.b_len PySem.boot_len (pa_cons (pv 1) pa_nil)) (nomark _))))) (pss_one (ps_ret pe_bl)) pss_nil)
  (pss_cons (ps_for PassesOwn.never rfl (pi_range1 (by rfl) T.b_range (pa_cons (pe_callB call_len_seq (by rfl) T.b_len PySem.boot_len (pa_cons (pv 1) pa_nil)) pa_nil)) (pg_name (i := 3) sc__law_echelon.nd rfl (Or.inl rfl)) (pss_cons (ps_set (i := 4) sc__law_echelon.nd rfl (Or.inr rfl) (pe_ix ix_tup (pv 0) (pv 3) (fun _ _ => rfl)))
  (pss_cons (ps_if (PW.pt (pw_or (pt_not (pt_val (pe_callB call_isi (by rfl) T.b_isinstance (by decide +kernel) (pa_cons (pv 4) (pa_cons (pe_bltn (v := .ty "tuple") (by rfl) T.b_tuple (by decide +kernel) rfl) pa_nil))))) (pw_or (pt_cmpR op_ne (pe_callB call_len_seq (by rfl) T.b_len PySem.boot_len (pa_cons (pv 4) pa_nil)) pe_int (nomark _)) (pw_or (pt_not (pt_val (pe_cal C__law_whole (hr.mono (by omega)) rfl (pa_cons (pe_ix ix_tup (pv 4) pe_int (fun _ _ => rfl)) pa_nil)))) (pw_or1 (pt_not (pt_val (pe_cal C__law_whole (hr.mono (by omega)) rfl (pa_cons (pe_ix ix_tup (pv 4) pe_int (fun _ _ => rfl)) pa_nil))))))))) (pss_one (ps_ret pe_bl)) pss_nil)
  (pss_cons (ps_if (PW.pt (pw_or (pt_cmpR op_lt (pe_ix ix_tup (pv 4) pe_int (fun _ _ => rfl)) pe_int (nomark _)) (pw_or (pt_cmpR op_lt (pe_ix ix_tup (pv 4) pe_int (fun _ _ => rfl)) pe_int (nomark _)) (pw_or (pt_cmpR op_ne (pe_cal C__law_gcd (hr.mono (by omega)) rfl (pa_cons (pe_ix ix_tup (pv 4) pe_int (fun _ _ => rfl)) (pa_cons (pe_ix ix_tup (pv 4) pe_int (fun _ _ => rfl)) pa_nil))) pe_int (nomark _)) (pw_or1 (pt_not (pt_val (pe_cal C__law_is_point (hr.mono (by omega)) rfl (pa_cons (pe_ix ix_tup (pv 4) pe_int (fun _ _ => rfl)) (pa_cons (pv 2) pa_nil)))))))))) (pss_one (ps_ret pe_bl)) pss_nil)
  (pss_one (ps_if (PW.pt (pw_or (pt_val (pe_callB (cr_any rfl) (by rfl) T.b_any (by decide +kernel) (pa_cons (pe_lc (own := [("j", 5)]) (g := gName 5) (tt := tYes) (by rfl) sc__law_echelon.nd (pi_range1 (by rfl) T.b_range (pa_cons (pe_ix ix_list (pv 1) (pv 3) (fun _ _ => rfl)) pa_nil)) (blkOk_by (N := N__law_echelon) (sc := defScope s__law_echelon) (by decide +kernel)) (fun _ _ _ _ _ => (pg_name (i := 5) sc__law_echelon.nd rfl (Or.inl rfl))) (fun _ _ _ _ _ => pts_nil) (fun _ _ _ _ _ => (pe_cmpR op_ne (pe_ix (ix_tupK (K := K) rfl) (pe_ix (ix_tupK (K := K) rfl) (pv 4) pe_int (fun _ _ => rfl)) (pv 5) (fun _ _ => rfl)) pe_int (nomark _)))) pa_nil))) (pw_or (pt_cmpR op_lt (pe_ix ix_tup (pe_ix ix_tup (pv 4) pe_int (fun _ _ => rfl)) (pe_ix ix_list (pv 1) (pv 3) (fun _ _ => rfl)) (fun _ _ => rfl)) pe_int (nomark _)) (pw_or1 (pt_cmpR op_ne (pe_cal C__law_shared (hr.mono (by omega)) rfl (pa_cons (pe_ix ix_tup (pv 4) pe_int (fun _ _ => rfl)) pa_nil)) pe_int (nomark _)))))) (pss_one (ps_ret pe_bl)) pss_nil))))))
  (pss_one (ps_ret pe_bl)))), ?_⟩
  have hlu : us.length = zs.length := by rw [hrs.1, List.length_map]
  refine ⟨_, rfl, _, _, _, _, true, rfl, .ty _, ty_tup ht, kit6, true, rfl, ifF rfl ?_⟩
  refine ⟨_, rfl, t, _, rfl, .inr ht, _, rfl, r, _, rfl, .inl (SqL.of hr1), rfl, _, rfl, ifF (ne_F (by rw [List.length_map, List.length_map, hlu])) ?_⟩
  refine ⟨_, rfl, r, _, rfl, .inl (SqL.of hr1), (zs.length : Int), by rw [List.length_map, List.length_map], by omega, by omega, ?_⟩
  refine for_range (lo := 0) (n := zs.length) (fun i σ H' => ∃ v3 v4 : Option V, σ = [some (.ref t), some (.ref r), some (.int n), v3, v4, none] ∧ Same H H') ⟨none, none, rfl, fun _ _ h => h⟩ ?_ ?_
  · rintro i σ H1 hi ⟨v3, v4, rfl, s1⟩
    have e1 : zs[i]? = some zs[i] := List.getElem?_eq_getElem hi
    have e2 : us[i]? = some (us[i]'(by omega)) := List.getElem?_eq_getElem _
    obtain ⟨t1, u, ew, h1, h2⟩ := hrs.2 i _ zs[i].2 e2 (by rw [List.getElem?_map, e1]; rfl)
    have ok := hz _ (List.getElem_mem hi)
    generalize hzi : zs[i] = z at *
    obtain ⟨l, q0⟩ := z
    have ei : (0 + (i : Int)).toNat = i := by omega
    have h1' := Same_seqT s1 h1
    have h2' : TV K H1 u n q0.2.2 := Same_seqT s1 h2
    have hf : atI ((zs.map fun z => (z.1 : Int)).map V.int) (0 + (i : Int)) = some (.int (l : Int)) := at_pos (by omega) (by rw [ei, List.getElem?_map, List.getElem?_map, e1]; rfl)
    refine ⟨_, rfl, _, rfl, t, _, _, _, rfl, rfl, Same_seqT s1 ht, at_pos (by omega) (by rw [ei, e2, ew]), ?_⟩
    refine ⟨_, rfl, _, _, _, _, true, rfl, .ty _, ty_tup h1', kit6, true, rfl, ifF rfl ?_⟩
    refine ⟨_, rfl, t1, _, rfl, .inr h1', rfl, _, rfl, ifF rfl ?_⟩
    refine ⟨_, rfl, t1, _, 0, _, rfl, rfl, h1', at_pos (by decide) rfl, _, rfl, _, rfl, ifF rfl ?_⟩
    refine ⟨_, rfl, t1, _, 1, _, rfl, rfl, h1', at_pos (by decide) rfl, _, rfl, _, rfl, ifF rfl ?_⟩
    refine ⟨_, rfl, t1, _, 0, _, rfl, rfl, h1', at_pos (by decide) rfl, _, _, rfl, rfl, _, rfl, ifF (decide_eq_false (by have := ok.top; show ¬ q0.1 < 1; simp only at this; omega)) ?_⟩
    refine ⟨_, rfl, t1, _, 1, _, rfl, rfl, h1', at_pos (by decide) rfl, _, _, rfl, rfl, _, rfl, ifF (decide_eq_false (by have := ok.bot; show ¬ q0.2.1 < 1; simp only at this; omega)) ?_⟩
    refine ⟨_, rfl, t1, _, 0, _, rfl, rfl, h1', at_pos (by decide) rfl, _, rfl, t1, _, 1, _, rfl, rfl, h1', at_pos (by decide) rfl, q0.1, q0.2.1, rfl, ok.bB.mono (by decide), rfl, _, rfl, ifF (ne_F ok.low) ?_⟩
    refine ⟨_, rfl, t1, _, 2, _, rfl, rfl, h1', at_pos (by decide) rfl, _, rfl, u, n, q0.2.2, rfl, h2', by omega, fun H2 s2 => ⟨_, rfl, ifF rfl ?_⟩⟩
    have s3 := s1.trans s2
    have h3' := Same_seqT s2 h1'
    have h4' : TV K H2 u n q0.2.2 := Same_seqT s2 h2'
    have hr3 := s3 _ _ hr1
    clear h1' h2' s2
    have hl := ok.lt
    simp only at hl
    refine ⟨_, rfl, _, rfl, r, _, _, _, rfl, rfl, SqL.of hr3, hf, (l : Int), rfl, by omega, by omega, fun D hD => ?_⟩
    refine lc_m (walk_range (lo := 0) (n := l)) RB (stb_RB (K := K)) (List.range l) (by rw [List.length_range]) (by rw [List.length_range]; omega) hD (fun _ _ => trivial) (fun _ _ _ _ => ys_fn) (fun _ => false) (fun c j x H4 H5 hc s4 s5 y A B' hA => ?_) (fun H4 l4 s4 hl4 rz => ?_)
    · obtain ⟨hc1, rfl⟩ := in_range hc
      rw [y.2]
      refine ⟨rfl, lc_yes ⟨_, rfl, t1, _, 2, _, rfl, rfl, Same_seqT s5 h3', at_pos (by decide) rfl, _, rfl, u, _, _, _, rfl, rfl, Same_seqT s5 h4', ixv (by omega), rfl, hA _ _ (fun _ _ h => h) ?_⟩⟩
      show V.bl _ = V.bl _
      rw [ne_F (ok.zero j hc1)]
    · refine ⟨D, _, rfl, SqL.of (by rw [hl4, rz.bls]), _, rfl, ?_⟩
      have e : (((List.range l).map fun _ => false).any id) = false := by
        rw [List.any_eq_false]
        intro b hb
        obtain ⟨_, _, rfl⟩ := List.mem_map.mp hb
        decide
      rw [e]
      have h5' := Same_seqT s4 h3'
      have h6' : TV K H4 u n q0.2.2 := Same_seqT s4 h4'
      refine ifF rfl ⟨_, rfl, t1, _, 2, _, rfl, rfl, h5', at_pos (by decide) rfl, _, rfl, _, rfl, r, _, _, _, rfl, rfl, SqL.of (s4 _ _ hr3), hf, u, _, _, _, rfl, rfl, h6', at_pos (by omega) (by rw [Int.toNat_natCast]; exact vecV_at hl), _, _, rfl, rfl, _, rfl, ifF (decide_eq_false (by have := ok.lead; simp only at this; omega)) ?_⟩
      refine ⟨_, rfl, t1, _, 2, _, rfl, rfl, h5', at_pos (by decide) rfl, u, n, q0.2.2, rfl, h6', by omega, fun j _ => (ok.xB j).mono (by omega), fun H6 s6 => ⟨rfl, _, rfl, ifF (ne_F ok.one) ⟨_, _, rfl, s3.trans (s4.trans s6)⟩⟩⟩
  · rintro σ H1 ⟨v3, v4, rfl, s1⟩
    exact q H1 s1
end
end P01
namespace P01
open PySem PySem.Spec PyProof.Rows L2 SX EX WK
/-- the judgement at p about the form M over b -/
def AnsAt (K : PySem.W.Frag) (H : Hp) (cR p : Addr) (n : Nat) (b : Int) (M : Nat → El.Row) : Prop :=
  (∃ (t : Addr) (us : List V) (S : List Nat) (d : Int) (B' : Nat → El.Row) (ps : List El.Pv), El.Run M n S d B' ps ∧ JAt H cR p true (.ref t) .non ∧ SqT K H t us ∧ Rs (Told K n) H us (ps.reverse.map (ech n b))) ∨
  (∃ (t z : Addr) (k : Nat) (S : List Nat) (d : Int) (B' : Nat → El.Row) (ps : List El.Pv) (x : El.Row), k < n ∧ El.Run M k S d B' ps ∧ BadAt n k B' x ∧ JAt H cR p false (.ref t) (.ref z) ∧ SqT K H t [] ∧ TV K H z n (setd n ps x))
theorem JAt.same {H H' : Hp} {C p : Addr} {h : Bool} {sq pt : V} (s : Same H H') (j : JAt H C p h sq pt) : JAt H' C p h sq pt := let ⟨dx, e⟩ := j; ⟨dx, s _ _ e⟩
theorem AnsAt.same {K : PySem.W.Frag} {H H' : Hp} {cR p : Addr} {n : Nat} {b : Int} {M : Nat → El.Row} (s : Same H H') (h : AnsAt K H cR p n b M) : AnsAt K H' cR p n b M := by
  rcases h with ⟨t, us, S, d, B', ps, h1, h2, h3, h4⟩ | ⟨t, z, k, S, d, B', ps, x, h1, h2, h3, h4, h5, h6⟩
  · exact .inl ⟨t, us, S, d, B', ps, h1, h2.same s, Same_seqT s h3, h4.tk stb_Told fun _ _ h => Same_seqT s h⟩
  · exact .inr ⟨t, z, k, S, d, B', ps, x, h1, h2, h3, h4.same s, Same_seqT s h5, Same_seqT s h6⟩
/-- the table R over low and the form M over b -/
structure RT (n w : Nat) (bd low b : Int) (M R : Nat → El.Row) : Prop where
  jo : JOk n w bd M
  w97 : 97 ≤ w
  pb : B 6200 (El.pb bd n)
  out : El.Out n R
  sym : ∀ i j, R i j = R j i
  rB : ∀ i j, B 97 (R i j)
  b0 : 0 < b
  bB : B 70 b
  l0 : 0 < low
  lB : B 80 low
  tie : ∀ i j, R i j * b = M i j * low
theorem RT.tie0 {n w : Nat} {bd low b : Int} {M R : Nat → El.Row} (h : RT n w bd low b M R) : El.Tie 0 R M := ⟨b, low, h.b0, h.l0, fun i j _ _ => by have := h.tie i j; grind⟩
section
variable {P : Program} {w : World} {K : PySem.W.Frag} {mg : Str → Option Value} {base : Heap} {f : Addr} {fd : FuncData} {cF cR : Addr}
def spJudged (K : PySem.W.Frag) (cR : Addr) : Sp := fun vs H Q _ => ∃ (p a : Addr) (n w : Nat) (bd low b : Int) (M R : Nat → El.Row), vs = [.ref p, .ref a, .int low] ∧ LTab H a n R ∧ RT n w bd low b M R ∧ AnsAt K H cR p n b M ∧ ∀ H', Same H H' → Q (.bl true) H'
abbrev s__law_judged : Stmt := top 50
abbrev N__law_judged : List Str := ["answer", "table", "low", "size", "found"]
theorem sc__law_judged : FnScope N__law_judged ["answer", "table", "low"] (defScope s__law_judged) := ⟨rfl, rfl, rfl, by decide +kernel, rfl, by decide +kernel, by decide +kernel⟩
theorem ok__law_judged (F : Fun K "_law_judged" "_law_judged" s__law_judged f fd) (T : Txt mg) (U : Gls mg cF cR) (O : Obs K cF cR) (V0 : Frm K cF cR) (C__law_leads : Cal P w K mg base 2 "_law_leads" ["table"] (spLeads K)) (C__law_is_point : Cal P w K mg base 2 "_law_is_point" ["value", "size"] (spIsPoint K)) (C__law_value : Cal P w K mg base 2 "_law_value" ["table", "one", "two"] (spLawV K)) (C__law_echelon : Cal P w K mg base 3 "_law_echelon" ["told", "found", "size"] (spEchL K)) (C__law_expands : Cal P w K mg base 2 "_law_expands" ["table", "low", "told"] (spExp K)) : FnOk P w K mg base CX0 4 f fd ["answer", "table", "low"] (spJudged K cR) := by
  refine F.ok sc__law_judged (fun vs H Q E h => ?_) (fun cdv A outer s H vs Q E hr h => ?_)
  · obtain ⟨p, a, n, w, bd, low, b, M, R, rfl, _⟩ := h
    rfl
  obtain ⟨p, a, n, w, bd, low, b, M, R, rfl, ht, rt, ans, q⟩ := h
  refine ⟨_, (pss_cons (ps_set (i := 3) sc__law_judged.nd rfl (Or.inl rfl) (pe_callB call_len_seq (by rfl) T.b_len PySem.boot_len (pa_cons (pv 1) pa_nil)))
  (pss_cons (ps_set (i := 4) sc__law_judged.nd rfl (Or.inl rfl) (pe_cal C__law_leads (hr.mono (by omega)) rfl (pa_cons (pv 1) pa_nil)))
  (pss_cons (ps_if (pt_not (pt_val (pe_callB call_isi (by rfl) T.b_isinstance (by decide +kernel) (pa_cons (pv 0) (pa_cons (pe_glob (v := .ref _) rfl U.g_Judgement rfl) pa_nil))))) (pss_one (ps_ret pe_bl)) pss_nil)
  (pss_cons (ps_if (pt_cmpR op_isN (pv 4) pe_non (nomark _)) (pss_cons (ps_if (PW.pt (pw_or (pt_cmpR op_notBl (pe_fld (pv 0) rfl) pe_bl (nomark _)) (pw_or (pt_not (pt_val (pe_callB call_isi (by rfl) T.b_isinstance (by decide +kernel) (pa_cons (pe_fld (pv 0) rfl) (pa_cons (pe_bltn (v := .ty "tuple") (by rfl) T.b_tuple (by decide +kernel) rfl) pa_nil))))) (pw_or1 (pt_cmpR op_ne (pe_callB call_len_seq (by rfl) T.b_len PySem.boot_len (pa_cons (pe_fld (pv 0) rfl) pa_nil)) pe_int (nomark _)))))) (pss_one (ps_ret pe_bl)) pss_nil)
  (pss_one (ps_ret (pe_and (pe_cal C__law_is_point (hr.mono (by omega)) rfl (pa_cons (pe_fld (pv 0) rfl) (pa_cons (pv 3) pa_nil))) (pe_one (pe_cmpR op_lt (pe_cal C__law_value (hr.mono (by omega)) rfl (pa_cons (pv 1) (pa_cons (pe_fld (pv 0) rfl) (pa_cons (pe_fld (pv 0) rfl) pa_nil)))) pe_int (nomark _))))))) pss_nil)
  (pss_cons (ps_if (PW.pt (pw_or (pt_cmpR op_notBl (pe_fld (pv 0) rfl) pe_bl (nomark _)) (pw_or (pt_cmpR op_notN (pe_fld (pv 0) rfl) pe_non (nomark _)) (pw_or1 (pt_not (pt_val (pe_cal C__law_echelon (hr.mono (by omega)) rfl (pa_cons (pe_fld (pv 0) rfl) (pa_cons (pv 4) (pa_cons (pv 3) pa_nil)))))))))) (pss_one (ps_ret pe_bl)) pss_nil)
  (pss_one (ps_ret (pe_cal C__law_expands (hr.mono (by omega)) rfl (pa_cons (pv 1) (pa_cons (pv 2) (pa_cons (pe_fld (pv 0) rfl) pa_nil))))))))))), ?_⟩
  have jo := rt.jo
  obtain ⟨vs, ha, hl, row⟩ := ht.at
  refine ⟨_, rfl, a, _, rfl, .inl (SqL.of ha), ?_⟩
  rw [hl]
  refine ⟨_, rfl, a, n, w, bd, M, R, rfl, ht, jo, rt.w97, rt.out, rt.rB, rt.tie0, fun r H1 S d B' ps s1 run hr1 => ?_, fun H1 k S d B' ps s1 hk run bdd => ?_⟩
  · rcases ans with ⟨t, us, S2, d2, B2, ps2, run2, hj, htt, hrs⟩ | ⟨t, z, k, S2, d2, B2, ps2, x, hk, run2, bad, _⟩
    · obtain ⟨rfl, rfl, rfl, rfl⟩ := run.same run2
      obtain ⟨dx, hj1⟩ := hj.same s1
      have htt1 := Same_seqT s1 htt
      have hrs1 : Rs (Told K n) H1 us (ps.reverse.map (ech n b)) := hrs.tk stb_Told fun _ _ h => Same_seqT s1 h
      refine ⟨_, rfl, _, _, _, _, true, rfl, .own _, isJudg V0 O.clR hj1, V0.kR, true, rfl, ifF rfl ?_⟩
      refine ⟨_, rfl, rfl, _, rfl, ifF (decide_eq_false (fun e => by cases e)) ?_⟩
      refine ⟨_, rfl, p, cR, dx, _, _, rfl, hj1, O.clR, O.R_holds, rfl, _, _, rfl, rfl, _, rfl, ifF rfl ?_⟩
      refine ⟨_, rfl, p, cR, dx, _, _, rfl, hj1, O.clR, O.R_point, rfl, rfl, _, rfl, ifF rfl ?_⟩
      refine ⟨_, rfl, p, cR, dx, _, _, rfl, hj1, O.clR, O.R_squares, rfl, _, rfl, _, rfl, t, r, us, n, w, ps.reverse.map (fun p => (p.1, ech n b p)), rfl, htt1, by rw [List.map_map]; exact hrs1, (by rw [show ((ps.reverse.map (fun p => (p.1, ech n b p))).map fun z => (z.1 : Int)) = ps.reverse.map fun p => (p.1 : Int) from by rw [List.map_map]; rfl]; exact hr1), fun z hz => ?_, jo.n10, ?_, jo.w1, fun H2 s2 => ⟨_, rfl, ifF rfl ?_⟩⟩
      · obtain ⟨p', hp', rfl⟩ := List.mem_map.mp hz
        exact ech_ok jo rt.b0 rt.bB run p' (List.mem_reverse.mp hp')
      · have := run.many
        rw [← run.leads, List.length_map] at this
        rw [List.length_map, List.length_reverse]
        have := jo.n10
        omega
      · have s3 := s1.trans s2
        obtain ⟨wp0, wpB, _, _⟩ := wprod_ok jo rt.pb rt.b0 rt.bB run
        have hps : ps.length ≤ 10 := by
          have := run.many
          rw [← run.leads, List.length_map] at this
          have := jo.n10
          omega
        refine ⟨_, rfl, _, rfl, _, rfl, p, cR, dx, _, _, rfl, s2 _ _ hj1, O.clR, O.R_squares, rfl, a, t, false, n, R, low, wprod b ps, us, (ps.reverse.map (ech n b)).map (asq n), rfl, ht.same s3, fun i j _ _ => ⟨rt.sym i j, rt.rB i j⟩, rt.lB.mono (by decide), jo.n10, Same_seqT s2 htt1, Rs.same (Rs.pq hrs1) s2, wp0, wpB, ech_good jo rt.b0 rt.bB run, by rw [List.length_map, List.length_map, List.length_reverse]; omega, fun bb H4 s4 hbb => ?_⟩
        have e : bb = true := hbb.mpr fun i j hi hj => by
          have e1 := ech_sum jo rt.b0 run i j hj
          have e2 := rt.tie i j
          have b0 := rt.b0
          apply Int.eq_of_mul_eq_mul_left (show b ≠ 0 by omega)
          grind
        rw [e]
        exact q H4 (s3.trans s4)
    · exact absurd (bad_bd bad) (fun h => run_not_bd run hk run2 h)
  · rcases ans with ⟨t, us, S2, d2, B2, ps2, run2, hj, htt, hrs⟩ | ⟨t, z, k2, S2, d2, B2, ps2, x, hk2, run2, bad, hj, htt, htv⟩
    · exact absurd bdd (fun h => run_not_bd run2 hk run h)
    · obtain ⟨dx, hj1⟩ := hj.same s1
      have htt1 := Same_seqT s1 htt
      have htv1 : TV K H1 z n (setd n ps2 x) := Same_seqT s1 htv
      refine ⟨_, rfl, _, _, _, _, true, rfl, .own _, isJudg V0 O.clR hj1, V0.kR, true, rfl, ifF rfl ?_⟩
      refine ⟨_, rfl, rfl, _, rfl, ifT (decide_eq_true rfl) ?_⟩
      refine ⟨_, rfl, p, cR, dx, _, _, rfl, hj1, O.clR, O.R_holds, rfl, _, _, rfl, rfl, _, rfl, ifF rfl ?_⟩
      refine ⟨_, rfl, p, cR, dx, _, _, rfl, hj1, O.clR, O.R_squares, rfl, _, _, _, _, true, rfl, .ty _, ty_tup htt1, kit6, true, rfl, ifF rfl ?_⟩
      refine ⟨_, rfl, p, cR, dx, _, _, rfl, hj1, O.clR, O.R_squares, rfl, t, _, rfl, .inr htt1, rfl, _, rfl, ifF rfl ?_⟩
      obtain ⟨neg, sB⟩ := bad_value jo run2 hk2 bad
      refine ⟨_, rfl, p, cR, dx, _, _, rfl, hj1, O.clR, O.R_point, rfl, _, rfl, z, n, _, rfl, htv1, by have := jo.n10; omega, fun H2 s2 => ⟨_, rfl, ifT rfl ?_⟩⟩
      refine ⟨_, rfl, _, rfl, p, cR, dx, _, _, rfl, s2 _ _ hj1, O.clR, O.R_point, rfl, _, rfl, p, cR, dx, _, _, rfl, s2 _ _ hj1, O.clR, O.R_point, rfl, a, z, n, R, setd n ps2 x, rfl, ht.same (s1.trans s2), Same_seqT s2 htv1, by have := jo.n10; omega, fun i j _ _ => (rt.rB i j).mono (by decide), sB, fun H4 s4 => ⟨_, _, rfl, rfl, ?_⟩⟩
      have neg2 := El.Q_tie (R := R) rt.b0 rt.l0 (fun i j _ _ => rt.tie i j) neg
      show Q (.bl (decide (El.Q n R (setd n ps2 x) < 0))) H4
      rw [decide_eq_true neg2]
      exact q H4 (s1.trans (s2.trans s4))
end
end P01
namespace P01
open PySem PySem.Spec PyProof.Rows L2 SX EX WK
def sqTd (n : Nat) (q : Sq3) : Td := .tup [.int q.1, .int q.2.1, tv n q.2.2]
theorem told_fz {K : PySem.W.Frag} {n : Nat} {H : Hp} {v : V} {q : Sq3} (h : Told K n H v q) : Fz K H v (sqTd n q) := by
  obtain ⟨t, u, rfl, h2, h3⟩ := h
  exact .tup h2 (.cons (.int _) (.cons (.int _) (.cons (.tup h3 (FzAll.of_ints _)) .nil)))
theorem rs_fz {K : PySem.W.Frag} {n : Nat} {H : Hp} {us : List V} {qs : List Sq3} (h : Rs (Told K n) H us qs) : Rs (Fz K) H us (qs.map (sqTd n)) := by
  refine ⟨by rw [h.1, List.length_map], fun i v q hv hq => ?_⟩
  rw [List.getElem?_map] at hq
  cases e : qs[i]? with
  | none => rw [e] at hq; cases hq
  | some q0 =>
    rw [e] at hq
    cases hq
    exact told_fz (h.2 i v q0 hv e)
theorem run_bd_same {n k k2 : Nat} {M : Nat → El.Row} {S S2 : List Nat} {d d2 : Int} {B' B2 : Nat → El.Row} {ps ps2 : List El.Pv} (run : El.Run M k S d B' ps) (bd : Bd n k B') (hk : k < n) (run2 : El.Run M k2 S2 d2 B2 ps2) (bd2 : Bd n k2 B2) (hk2 : k2 < n) : k = k2 := by
  have aux : ∀ {k k2 : Nat} {S S2 : List Nat} {d d2 : Int} {B' B2 : Nat → El.Row} {ps ps2 : List El.Pv}, El.Run M k S d B' ps → Bd n k B' → El.Run M k2 S2 d2 B2 ps2 → ¬ k < k2 := fun {k k2 S S2 d d2 B' B2 ps ps2} r1 b1 r2 h => by
    obtain ⟨S3, d3, B3, ps3, r3, h3⟩ := r2.upto k h
    obtain ⟨_, _, e, _⟩ := r3.same r1
    subst e
    rcases b1 with b | ⟨b, j, _, _, hj⟩
    · rcases h3 with h | h
      · omega
      · have := h k
        omega
    · rcases h3 with h | h
      · omega
      · exact hj (h j)
  have h1 := aux run bd run2
  have h2 := aux run2 bd2 run
  omega
theorem bad_same {n k : Nat} {B' : Nat → El.Row} {x y : El.Row} (h1 : BadAt n k B' x) (h2 : BadAt n k B' y) : x = y := by
  rcases h1 with ⟨a1, rfl⟩ | ⟨a1, p, hp, hpn, hne, hz, rfl⟩
  · rcases h2 with ⟨_, rfl⟩ | ⟨b1, _⟩
    · rfl
    · omega
  · rcases h2 with ⟨b1, _⟩ | ⟨b1, q, hq, hqn, hne2, hz2, rfl⟩
    · omega
    · have : p = q := by
        rcases Nat.lt_trichotomy p q with c | c | c
        · exact absurd (hz2 p hp c) hne
        · exact c
        · exact absurd (hz q hq c) hne2
      rw [this]
theorem ans_shaped {h : Bool} {t : Td} {o : Option Td} (ht : t.dep ≤ 10) (hu : ∀ u, o = some u → u.dep ≤ 10) : SeqAt.shaped (.list [.bool h, t.py, (match o with | some u => u.py | none => .none)]) = true := by
  have d1 := td_dep t
  have l1 := td_lay t
  unfold SeqAt.shaped
  rw [Bool.and_eq_true]
  constructor
  · cases o with
    | none => simp [PyData.canLay0, PyData.canLayAll0, l1]
    | some u =>
      have l2 := td_lay u
      simp [PyData.canLay0, PyData.canLayAll0, l1, l2]
  · refine decide_eq_true ?_
    cases o with
    | none =>
      simp only [PyData.depth, PyData.depthAll]
      omega
    | some u =>
      have d2 := td_dep u
      have := hu u rfl
      simp only [PyData.depth, PyData.depthAll]
      omega
theorem deps_le {ts : List Td} {m : Nat} (h : ∀ t ∈ ts, t.dep ≤ m) : Td.deps ts ≤ m := by
  induction ts with
  | nil => exact Nat.zero_le _
  | cons t ts ih =>
    have h1 := h t List.mem_cons_self
    have h2 := ih fun u hu => h u (List.mem_cons_of_mem _ hu)
    simp only [Td.deps]
    omega
theorem tv_dep {n : Nat} {x : Nat → Int} : (tv n x).dep ≤ 2 := by
  have h : Td.deps ((vec n x).map Td.int) ≤ 1 := deps_le fun t ht => by
    obtain ⟨z, _, rfl⟩ := List.mem_map.mp ht
    simp [Td.dep]
  simp only [tv, Td.dep]
  omega
theorem sq_dep {n : Nat} {q : Sq3} : (sqTd n q).dep ≤ 5 := by
  have h := tv_dep (n := n) (x := q.2.2)
  unfold sqTd
  generalize tv n q.2.2 = t at *
  simp only [Td.dep, Td.deps]
  omega
theorem sqs_dep {n : Nat} {qs : List Sq3} : (Td.tup (qs.map (sqTd n))).dep ≤ 10 := by
  have h : Td.deps (qs.map (sqTd n)) ≤ 5 := deps_le fun t ht => by
    obtain ⟨z, _, rfl⟩ := List.mem_map.mp ht
    exact sq_dep
  simp only [Td.dep]
  omega
/-- two judgements about one form have the same data -/
theorem ans_alike {K : PySem.W.Frag} {H : Hp} {cR p1 p2 : Addr} {n : Nat} {b : Int} {M : Nat → El.Row} (h1 : AnsAt K H cR p1 n b M) (h2 : AnsAt K H cR p2 n b M) :
    ∃ (hb : Bool) (s1 q1 s2 q2 : V) (t u : PyData), JAt H cR p1 hb s1 q1 ∧ JAt H cR p2 hb s2 q2 ∧ (∀ H', Same H H' → Dp K H' s1 t ∧ Dp K H' s2 t ∧ Dp K H' q1 u ∧ Dp K H' q2 u) ∧ SeqAt.shaped (.list [.bool hb, t, u]) = true := by
  rcases h1 with ⟨t, us, S, d, B', ps, run, hj, ht, hrs⟩ | ⟨t, z, k, S, d, B', ps, x, hk, run, bad, hj, ht, hz⟩
  · rcases h2 with ⟨t2, us2, S2, d2, B2, ps2, run2, hj2, ht2, hrs2⟩ | ⟨t2, z2, k2, S2, d2, B2, ps2, x2, hk2, run2, bad2, hj2, ht2, hz2⟩
    · obtain ⟨rfl, rfl, rfl, rfl⟩ := run.same run2
      refine ⟨true, _, _, _, _, (Td.tup ((ps.reverse.map (ech n b)).map (sqTd n))).py, .none, hj, hj2, fun H' s => ⟨?_, ?_, .non, .non⟩, ans_shaped (o := none) sqs_dep (fun u e => by cases e)⟩
      · exact (Fz.tup (Same_seqT s ht) (Rs.fz (rs_fz (hrs.tk stb_Told fun _ _ h => Same_seqT s h)))).dp
      · exact (Fz.tup (Same_seqT s ht2) (Rs.fz (rs_fz (hrs2.tk stb_Told fun _ _ h => Same_seqT s h)))).dp
    · exact absurd (bad_bd bad2) fun h => run_not_bd run hk2 run2 h
  · rcases h2 with ⟨t2, us2, S2, d2, B2, ps2, run2, hj2, ht2, hrs2⟩ | ⟨t2, z2, k2, S2, d2, B2, ps2, x2, hk2, run2, bad2, hj2, ht2, hz2⟩
    · exact absurd (bad_bd bad) fun h => run_not_bd run2 hk run h
    · have ek := run_bd_same run (bad_bd bad) hk run2 (bad_bd bad2) hk2
      subst ek
      obtain ⟨rfl, rfl, rfl, rfl⟩ := run.same run2
      have ex := bad_same bad bad2
      subst ex
      refine ⟨false, _, _, _, _, (Td.tup []).py, (tv n (setd n ps x)).py, hj, hj2, fun H' s => ⟨(Fz.tup (Same_seqT s ht) .nil).dp, (Fz.tup (Same_seqT s ht2) .nil).dp, (Fz.tup (Same_seqT s hz) (FzAll.of_ints _)).dp, (Fz.tup (Same_seqT s hz2) (FzAll.of_ints _)).dp⟩, ans_shaped (t := .tup []) (o := some (tv n (setd n ps x))) (by simp [Td.dep, Td.deps]) (fun u e => by cases e; exact Nat.le_trans tv_dep (by decide))⟩
theorem kitBB {K : PySem.W.Frag} : PySem.W.kitOne K (.type "bool") (.type "bool") = some true := kit_ty (by decide +kernel)
section
variable {P : Program} {w : World} {K : PySem.W.Frag} {mg : Str → Option Value} {base : Heap} {f : Addr} {fd : FuncData} {cF cR : Addr}
def spAlike (K : PySem.W.Frag) (cR : Addr) : Sp := fun vs H Q _ => ∃ (p1 p2 : Addr) (n : Nat) (b : Int) (M : Nat → El.Row), vs = [.ref p1, .ref p2] ∧ AnsAt K H cR p1 n b M ∧ AnsAt K H cR p2 n b M ∧ ∀ H', Same H H' → Q (.bl true) H'
abbrev s__law_alike : Stmt := top 55
abbrev N__law_alike : List Str := ["one", "two"]
theorem sc__law_alike : FnScope N__law_alike ["one", "two"] (defScope s__law_alike) := ⟨rfl, rfl, rfl, by decide +kernel, rfl, by decide +kernel, by decide +kernel⟩
theorem ok__law_alike (F : Fun K "_law_alike" "_law_alike" s__law_alike f fd) (T : Txt mg) (O : Obs K cF cR) : FnOk P w K mg base CX0 1 f fd ["one", "two"] (spAlike K cR) := by
  refine F.ok sc__law_alike (fun vs H Q E h => ?_) (fun cdv A outer s H vs Q E hr h => ?_)
  · obtain ⟨p1, p2, n, b, M, rfl, _⟩ := h
    rfl
  obtain ⟨p1, p2, n, b, M, rfl, a1, a2, q⟩ := h
  refine ⟨_, (pss_one (ps_ret (pe_and (pe_callB call_isi (by rfl) T.b_isinstance (by decide +kernel) (pa_cons (pe_fld (pv 0) rfl) (pa_cons (pe_bltn (v := .ty "bool") (by rfl) T.b_bool (by decide +kernel) rfl) pa_nil))) (pe_one (pe_cmpR (op_eqD hr.units) (pe_lst (pa_cons (pe_fld (pv 0) rfl) (pa_cons (pe_fld (pv 0) rfl) (pa_cons (pe_fld (pv 0) rfl) pa_nil)))) (pe_lst (pa_cons (pe_fld (pv 1) rfl) (pa_cons (pe_fld (pv 1) rfl) (pa_cons (pe_fld (pv 1) rfl) pa_nil)))) (nomark _)))))), ?_⟩
  obtain ⟨hb, s1, q1, s2, q2, t, u, ⟨dx1, j1⟩, ⟨dx2, j2⟩, dat, shp⟩ := ans_alike a1 a2
  refine ⟨_, rfl, p1, cR, dx1, _, _, rfl, j1, O.clR, O.R_holds, rfl, _, _, _, _, true, rfl, .ty _, .base (.bl hb), kitBB, true, rfl, ifT rfl ?_⟩
  refine ⟨_, rfl, p1, cR, dx1, _, _, rfl, j1, O.clR, O.R_holds, rfl, _, rfl, p1, cR, dx1, _, _, rfl, j1, O.clR, O.R_squares, rfl, _, rfl, p1, cR, dx1, _, _, rfl, j1, O.clR, O.R_point, rfl, three_line, fun l1 hl1 => ?_⟩
  have n1 := same_new hl1 (.lst [V.bl hb, s1, q1])
  refine ⟨_, rfl, p2, cR, dx2, _, _, rfl, n1 _ _ j2, O.clR, O.R_holds, rfl, _, rfl, p2, cR, dx2, _, _, rfl, n1 _ _ j2, O.clR, O.R_squares, rfl, _, rfl, p2, cR, dx2, _, _, rfl, n1 _ _ j2, O.clR, O.R_point, rfl, three_line, fun l2 hl2 => ?_⟩
  have n2 := same_new hl2 (.lst [V.bl hb, s2, q2])
  obtain ⟨d1, d2, d3, d4⟩ := dat _ (n1.trans n2)
  refine ⟨.list [.bool hb, t, u], .list [.bool hb, t, u], .lst (SqL.of (n2 _ _ upd_same)) (.cons (.bl hb) (.cons d1 (.cons d3 .nil))), .lst (SqL.of upd_same) (.cons (.bl hb) (.cons d2 (.cons d4 .nil))), shp, shp, ?_⟩
  rw [eqv_self shp]
  exact q _ (n1.trans n2)
end
end P01
namespace P01
open PySem PySem.Spec PyProof.Rows L2 SX EX WK
/-! ### papers: sequences of squares as lists of lists -/
def PqL : Hp → V → Pq → Prop := fun H v q => ∃ t u : Addr, v = .ref t ∧ H t = some (.lst [.int q.1, .int q.2.1, .ref u]) ∧ H u = some (.lst ((vec q.2.2.1 q.2.2.2).map V.int))
theorem PqL.same {H H' : Hp} {v : V} {q : Pq} (s : Same H H') (h : PqL H v q) : PqL H' v q := let ⟨t, u, e, h1, h2⟩ := h; ⟨t, u, e, s _ _ h1, s _ _ h2⟩
theorem PqL.at {K : PySem.W.Frag} {H : Hp} {v : V} {q : Pq} (h : PqL H v q) : PqAt K H v q := let ⟨t, u, e, h1, h2⟩ := h; ⟨true, true, t, u, e, SqL.of h1, SqL.of h2⟩
/-- .. apart from D -/
def PqD (D : Addr) : Hp → V → Pq → Prop := fun H v q => ∃ t u : Addr, v = .ref t ∧ t ≠ D ∧ u ≠ D ∧ H t = some (.lst [.int q.1, .int q.2.1, .ref u]) ∧ H u = some (.lst ((vec q.2.2.1 q.2.2.2).map V.int))
theorem stb_PqD {D : Addr} : StbD D (PqD D) := fun _ _ _ _ _ e ⟨t, u, h1, h2, h3, h4, h5⟩ => ⟨t, u, h1, h2, h3, e _ _ h2 h4, e _ _ h3 h5⟩
theorem PqD.l {D : Addr} {H : Hp} {v : V} {q : Pq} (h : PqD D H v q) : PqL H v q := let ⟨t, u, e, _, _, h1, h2⟩ := h; ⟨t, u, e, h1, h2⟩
/-- tuples -/
def PqT (K : PySem.W.Frag) : Hp → V → Pq → Prop := fun H v q => ∃ t u : Addr, v = .ref t ∧ SqT K H t [.int q.1, .int q.2.1, .ref u] ∧ SqT K H u ((vec q.2.2.1 q.2.2.2).map V.int)
theorem stb_PqT {K : PySem.W.Frag} : Stb K (PqT K) := fun _ _ _ _ s ⟨t, u, h1, h2, h3⟩ => ⟨t, u, h1, s _ _ h2, s _ _ h3⟩
theorem PqT.at {K : PySem.W.Frag} {H : Hp} {v : V} {q : Pq} (h : PqT K H v q) : PqAt K H v q := let ⟨t, u, e, h1, h2⟩ := h; ⟨false, false, t, u, e, h1, h2⟩
theorem rs_imp {α : Type} {R R' : Hp → V → α → Prop} {H H' : Hp} {vs : List V} {zs : List α} (h : Rs R H vs zs) (f : ∀ v z, R H v z → R' H' v z) : Rs R' H' vs zs := ⟨h.1, fun i v z a b => f v z (h.2 i v z a b)⟩
def PapAt : Hp → V → List Pq → Prop := fun H v qs => ∃ (a : Addr) (us : List V), v = .ref a ∧ H a = some (.lst us) ∧ Rs PqL H us qs
theorem PapAt.same {H H' : Hp} {v : V} {qs : List Pq} (s : Same H H') (h : PapAt H v qs) : PapAt H' v qs := let ⟨a, us, e, h1, h2⟩ := h; ⟨a, us, e, s _ _ h1, rs_imp h2 fun _ _ q => q.same s⟩
/-! ### as data -/
def ipy (ns : List Int) : List PyData := ns.map PyData.int
theorem ipy_lay : ∀ ns : List Int, PyData.canLayAll0 (ipy ns) = true
  | [] => by unfold ipy; rw [List.map_nil, PyData.canLayAll0]
  | n :: ns => by
    have h := ipy_lay ns
    unfold ipy at h ⊢
    rw [List.map_cons, PyData.canLayAll0, h, PyData.canLay0]
    rfl
theorem ipy_dep : ∀ ns : List Int, PyData.depthAll (ipy ns) = 0
  | [] => by unfold ipy; rw [List.map_nil, PyData.depthAll]
  | n :: ns => by
    have h := ipy_dep ns
    unfold ipy at h ⊢
    rw [List.map_cons, PyData.depthAll, h, PyData.depth]
    rfl
theorem ints_dpl {K : PySem.W.Frag} {H : Hp} : ∀ ns : List Int, DpAll K H (ns.map V.int) (ipy ns)
  | [] => .nil
  | n :: ns => .cons (.int n) (ints_dpl ns)
def qpy (q : Pq) : PyData := .list [.int q.1, .int q.2.1, .list (ipy (vec q.2.2.1 q.2.2.2))]
theorem qpy_lay : ∀ qs : List Pq, PyData.canLayAll0 (qs.map qpy) = true
  | [] => by rw [List.map_nil, PyData.canLayAll0]
  | q :: qs => by
    rw [List.map_cons, PyData.canLayAll0, qpy_lay qs]
    unfold qpy
    simp [PyData.canLay0, PyData.canLayAll0, ipy_lay]
theorem qpy_dep : ∀ qs : List Pq, PyData.depthAll (qs.map qpy) ≤ 2
  | [] => by rw [List.map_nil, PyData.depthAll]; omega
  | q :: qs => by
    have h := qpy_dep qs
    rw [List.map_cons, PyData.depthAll]
    have h2 : (qpy q).depth ≤ 2 := by
      unfold qpy
      simp [PyData.depth, PyData.depthAll, ipy_dep]
    omega
theorem pap_shaped (qs : List Pq) : SeqAt.shaped (.list (qs.map qpy)) = true := by
  unfold SeqAt.shaped
  rw [Bool.and_eq_true]
  constructor
  · simp [PyData.canLay0, qpy_lay]
  · refine decide_eq_true ?_
    have h := qpy_dep qs
    simp only [PyData.depth]
    omega
theorem dpl_of {K : PySem.W.Frag} {H : Hp} : ∀ {vs : List V} {qs : List Pq}, Rs PqL H vs qs → DpAll K H vs (qs.map qpy)
  | [], [], _ => .nil
  | [], _ :: _, h => by have := h.1; simp at this
  | _ :: _, [], h => by have := h.1; simp at this
  | v :: vs, q :: qs, h => by
    obtain ⟨t, u, rfl, h1, h2⟩ := h.2 0 v q rfl rfl
    exact .cons (.lst (SqL.of h1) (.cons (.int _) (.cons (.int _) (.cons (.lst (SqL.of h2) (ints_dpl _)) .nil)))) (dpl_of ⟨by have := h.1; simpa using this, fun i v z a b => h.2 (i + 1) v z a b⟩)
/-- a comprehension over the list or the tuple in slot i, which stays -/
theorem tLc_sqD {K : PySem.W.Frag} {k : Bool} {a : Addr} {xs : List V} {i : Nat} {g : TG} {tt : TT} {te : TE} {vs : List Nat} {σ : L2.St} {H : Hp} {Q : VK} {α β : Type} {R : Addr → Hp → V → α → Prop} (st : ∀ D, StbD D (R D)) (hi : σ[i]? = some (some (V.ref a))) (hx : WZ.Sq k K H a xs) (bs : List β) (hn : xs.length = bs.length) (hl : bs.length ≤ 100000) (f : β → α)
    (hs : ∀ (D : Addr) (i : Nat) (b : β) (x : V) (H1 : Hp), bs[i]? = some b → xs[i]? = some x → Same H H1 → (∃ l, H1 D = some (.lst l)) → ∀ (A : V → Hp → Prop) (B : Hp → Prop), (∀ y H4, Same H1 H4 → R D H4 y (f b) → A y H4) →
      g x (wipe σ vs) H1 fun σ2 H2 => wipe σ2 vs = wipe σ vs ∧ tt σ2 H2 fun b H3 => if b = true then te σ2 H3 A else B H3)
    (hd : ∀ D H' l, Same H H' → H D = none → H' D = some (.lst l) → Rs (R D) H' l (bs.map f) → Q (.ref D) H') : tLc (fun σ H R => iList K (tVar i) σ H R ∨ iTup K (tVar i) σ H R) g tt te vs σ H Q := by
  cases k with
  | true =>
    refine .inl ⟨_, hi, a, rfl, ⟨_, hx⟩, fun D hD => ?_⟩
    refine lc_gm (walk_list (K := K) (a := a) (xs := xs)) (R D) (st D) bs hn (by omega) hD (fun H' s => s.seq hx) (fun _ _ _ _ => ys_at) f (fun i b x H1 H2 hb s1 s2 yl hdl A B hA => ?_) (fun H' l s1 hl1 rs => hd D H' l s1 hD hl1 rs)
    exact hs D i b x H2 hb yl.2 s2 hdl A B fun y H4 s4 r => hA _ H4 s4 r
  | false =>
    refine .inr ⟨_, hi, a, rfl, ⟨_, hx⟩, fun D hD => ?_⟩
    refine lc_gm (walk_tup (K := K) (a := a) (xs := xs)) (R D) (st D) bs hn (by omega) hD (fun H' s => Same_seqT s hx) (fun _ _ _ _ => ys_at) f (fun i b x H1 H2 hb s1 s2 yl hdl A B hA => ?_) (fun H' l s1 hl1 rs => hd D H' l s1 hD hl1 rs)
    exact hs D i b x H2 hb yl.2 s2 hdl A B fun y H4 s4 r => hA _ H4 s4 r
theorem seq_ifop {r : R2} {ta tb : TE} {t u v : TS} {D : Ends} {σ : L2.St} {H : Hp} (h : ta σ H fun x H1 => tb σ H1 fun y H2 => r x y H2 fun z H3 => ∃ k, z = .bl k ∧ if k = true then t { D with nx := v D } σ H3 else u { D with nx := v D } σ H3) : tSeq (tIfS (tTest (tOp r ta tb)) t u) v D σ H := h
section
variable {P : Program} {w : World} {K : PySem.W.Frag} {mg : Str → Option Value} {base : Heap} {f : Addr} {fd : FuncData} {cF cR : Addr}
def spPapers (K : PySem.W.Frag) (cF : Addr) : Sp := fun vs H Q _ => ∃ (p a ap : Addr) (n : Nat) (R : Nat → Nat → Int) (low W : Int) (us : List V) (pss : List (List Pq)), vs = [.ref p, .ref a, .int low, .ref ap] ∧ FAt K H cF p n R low ∧ LTab H a n R ∧ (∀ i j, i < n → j < n → R i j = R j i ∧ B 97 (R i j)) ∧ 0 < low ∧ B 80 low ∧ n ≤ 10 ∧ H ap = some (.lst us) ∧ Rs PapAt H us pss ∧ 0 < W ∧ B 6400 W ∧ pss.length ≤ 1000 ∧ (∀ qs ∈ pss, qs.length ≤ 1000 ∧ ∀ q ∈ qs, SqOk n W q) ∧ ∀ H', Same H H' → Q (.bl true) H'
abbrev s__law_papers_right : Stmt := top 52
abbrev N__law_papers_right : List Str := ["form", "table", "low", "papers", "k", "given", "told", "one"]
theorem sc__law_papers_right : FnScope N__law_papers_right ["form", "table", "low", "papers"] (defScope s__law_papers_right) := ⟨rfl, rfl, rfl, by decide +kernel, rfl, by decide +kernel, by decide +kernel⟩
theorem ok__law_papers_right (F : Fun K "_law_papers_right" "_law_papers_right" s__law_papers_right f fd) (T : Txt mg) (C_is_squares : Cal P w K mg base 7 "is_squares" ["form", "squares"] (spIsSq K cF)) (C__law_shows : Cal P w K mg base 3 "_law_shows" ["table", "low", "squares"] (spShows K)) : FnOk P w K mg base CX0 8 f fd ["form", "table", "low", "papers"] (spPapers K cF) := by
  refine F.ok sc__law_papers_right (fun vs H Q E h => ?_) (fun cdv A outer s H vs Q E hr h => ?_)
  · obtain ⟨p, a, ap, n, R, low, W, us, pss, rfl, _⟩ := h
    rfl
  obtain ⟨p, a, ap, n, R, low, W, us, pss, rfl, hF, ht, hR, hl0, hlB, hn, hap, hpap, hW, hWB, hpl, hps, q⟩ := h
  refine ⟨_, (pss_cons (ps_for PassesOwn.never rfl (pi_range1 (by rfl) T.b_range (pa_cons (pe_callB call_len_seq (by rfl) T.b_len PySem.boot_len (pa_cons (pv 3) pa_nil)) pa_nil)) (pg_name (i := 4) sc__law_papers_right.nd rfl (Or.inl rfl)) (pss_cons (ps_setLc (i := 5) (own := [("one", 7)]) (g := gName 7) (tt := tYes) (by rfl) sc__law_papers_right.nd rfl rfl (sw_true rfl rfl rfl (by decide +kernel)) (pi_list (pe_ix ix_list (pv 3) (pv 4) (fun _ _ => rfl))) (blkOk_by (N := N__law_papers_right) (sc := defScope s__law_papers_right) (by decide +kernel)) (fun _ _ _ _ _ => (pg_name (i := 7) sc__law_papers_right.nd rfl (Or.inl rfl))) (fun _ _ _ _ _ => pts_nil) (fun _ _ _ _ _ => (pe_lst (pa_cons (pe_ix (ix_orK (K := K) rfl) (pv 7) pe_int (fun _ _ => rfl)) (pa_cons (pe_ix (ix_orK (K := K) rfl) (pv 7) pe_int (fun _ _ => rfl)) (pa_cons (pe_callTy (call_list_ofK (K := K) rfl) (by rfl) T.b_list (by decide +kernel) (pa_cons (pe_ix (ix_orK (K := K) rfl) (pv 7) pe_int (fun _ _ => rfl)) pa_nil)) pa_nil))))))
  (C8.pss_cut (ps_if (pt_cmpR op_eq (pe_op op_mod (pe_callTy call_int1 (by rfl) T.b_int (by decide +kernel) (pa_cons (pv 4) pa_nil)) pe_int) pe_int (nomark _)) (pss_one (ps_set (i := 5) sc__law_papers_right.nd rfl (Or.inl rfl) (pe_callTy call_tuple_of (by rfl) T.b_tuple (by decide +kernel) (pa_cons (pe_lc (own := [("one", 7)]) (g := gName 7) (tt := tYes) (by rfl) sc__law_papers_right.nd (pi_list (pe_ix ix_list (pv 3) (pv 4) (fun _ _ => rfl))) (blkOk_by (N := N__law_papers_right) (sc := defScope s__law_papers_right) (by decide +kernel)) (fun _ _ _ _ _ => (pg_name (i := 7) sc__law_papers_right.nd rfl (Or.inl rfl))) (fun _ _ _ _ _ => pts_nil) (fun _ _ _ _ _ => (pe_tup (pa_cons (pe_ix (ix_orK (K := K) rfl) (pv 7) pe_int (fun _ _ => rfl)) (pa_cons (pe_ix (ix_orK (K := K) rfl) (pv 7) pe_int (fun _ _ => rfl)) (pa_cons (pe_callTy (call_tuple_ofK (K := K) rfl) (by rfl) T.b_tuple (by decide +kernel) (pa_cons (pe_ix (ix_orK (K := K) rfl) (pv 7) pe_int (fun _ _ => rfl)) pa_nil)) pa_nil)))))) pa_nil)))) pss_nil)
  (pss_cons (ps_set (i := 6) sc__law_papers_right.nd rfl (Or.inl rfl) (pe_cal C_is_squares (hr.mono (by omega)) rfl (pa_cons (pv 0) (pa_cons (pv 5) pa_nil))))
  (pss_cons (ps_if (pt_cmpR (op_neD hr.units) (pe_lc (own := [("one", 7)]) (g := gName 7) (tt := tYes) (by rfl) sc__law_papers_right.nd (pi_or (pi_list (pv 5)) (pi_tup (pv 5))) (blkOk_by (N := N__law_papers_right) (sc := defScope s__law_papers_right) (by decide +kernel)) (fun _ _ _ _ _ => (pg_name (i := 7) sc__law_papers_right.nd rfl (Or.inl rfl))) (fun _ _ _ _ _ => pts_nil) (fun _ _ _ _ _ => (pe_lst (pa_cons (pe_ix (ix_orK (K := K) rfl) (pv 7) pe_int (fun _ _ => rfl)) (pa_cons (pe_ix (ix_orK (K := K) rfl) (pv 7) pe_int (fun _ _ => rfl)) (pa_cons (pe_callTy (call_list_ofK (K := K) rfl) (by rfl) T.b_list (by decide +kernel) (pa_cons (pe_ix (ix_orK (K := K) rfl) (pv 7) pe_int (fun _ _ => rfl)) pa_nil)) pa_nil)))))) (pe_ix ix_list (pv 3) (pv 4) (fun _ _ => rfl)) (nomark _)) (pss_one (ps_ret pe_bl)) pss_nil)
  (pss_one (ps_if (pt_val (pe_cal C__law_shows (hr.mono (by omega)) rfl (pa_cons (pv 1) (pa_cons (pv 2) (pa_cons (pe_ix ix_list (pv 3) (pv 4) (fun _ _ => rfl)) pa_nil))))) (pss_one (ps_if (pt_cmpR op_notBl (pv 6) pe_bl (nomark _)) (pss_one (ps_ret pe_bl)) pss_nil)) (pss_one (ps_if (pt_cmpR op_notBl (pv 6) pe_bl (nomark _)) (pss_one (ps_ret pe_bl)) pss_nil)))))))))
  (pss_one (ps_ret pe_bl))), ?_⟩
  refine ⟨_, rfl, ap, _, rfl, .inl (SqL.of hap), (pss.length : Int), by rw [hpap.1], by omega, by omega, ?_⟩
  refine for_range (lo := 0) (n := pss.length) (fun i σ H' => ∃ v4 v5 v6 : Option V, σ = [some (.ref p), some (.ref a), some (.int low), some (.ref ap), v4, v5, v6, none] ∧ Same H H') ⟨none, none, none, rfl, fun _ _ h => h⟩ ?_ ?_
  · rintro i σ H1 hi ⟨v4, v5, v6, rfl, s1⟩
    have e1 : pss[i]? = some pss[i] := List.getElem?_eq_getElem hi
    have e2 : us[i]? = some (us[i]'(by rw [hpap.1]; exact hi)) := List.getElem?_eq_getElem _
    obtain ⟨ag, ws, ew, hag, hws⟩ := hpap.2 i _ _ e2 e1
    obtain ⟨hql, hqs⟩ := hps _ (List.getElem_mem hi)
    generalize pss[i] = qs at *
    have ei : (0 + (i : Int)).toNat = i := by omega
    have hix : atI us (0 + (i : Int)) = some (.ref ag) := at_pos (by omega) (by rw [ei, e2, ew])
    have hag1 := s1 _ _ hag
    have hws1 : Rs PqL H1 ws qs := rs_imp hws fun _ _ q => q.same s1
    have hap1 := s1 _ _ hap
    refine ⟨_, rfl, _, rfl, ap, _, _, _, rfl, rfl, SqL.of hap1, hix, ag, rfl, ⟨_, SqL.of hag1⟩, fun D hD => ?_⟩
    refine lc_gm (walk_list (K := K) (a := ag) (xs := ws)) (PqD D) stb_PqD qs hws1.1 (by omega) hD (fun H' s => s.seq (SqL.of hag1)) (fun _ _ _ _ => ys_at) id (fun c qq x H2 H3 hc s2 s3 yl hdl A B hA => ?_) (fun H2 l s2 hl2 rs => ?_)
    · obtain ⟨t, u, rfl, h1, h2⟩ := (hws1.2 c _ qq yl.2 hc).same s3
      obtain ⟨dl, hdl⟩ := hdl
      refine ⟨rfl, lc_yes ⟨_, rfl, ixq (k := true) (SqL.of h1) (at_pos (by decide) rfl) ⟨_, rfl, ixq (k := true) (SqL.of h1) (at_pos (by decide) rfl) ⟨_, rfl, ixq (k := true) (SqL.of h1) (at_pos (by decide) rfl) ⟨u, _, rfl, .inl (SqL.of h2), fun l2 hl2 => ⟨three_line, fun l3 hl3 => ?_⟩⟩⟩⟩⟩⟩
      have n2 := same_new hl2 (.lst ((vec qq.2.2.1 qq.2.2.2).map V.int))
      have n3 := same_new hl3 (.lst [V.int qq.1, V.int qq.2.1, V.ref l2])
      refine hA _ _ (n2.trans n3) ⟨l3, l2, rfl, fun z => ?_, fun z => ?_, upd_same, n3 _ _ upd_same⟩
      · have := none_of n2 hl3
        rw [z, hdl] at this
        cases this
      · rw [z, hdl] at hl2
        cases hl2
    rw [List.map_id] at rs
    have s3 := s1.trans s2
    have rsL : Rs PqL H2 l qs := rs_imp rs fun _ _ q => q.l
    refine ⟨fun σ' H' => ∃ (G : Addr) (kg : Bool) (gs : List V), σ' = [some (.ref p), some (.ref a), some (.int low), some (.ref ap), some (.int (0 + (i : Int))), some (.ref G), v6, none] ∧ Same H H' ∧ WZ.Sq kg K H' G gs ∧ Rs (PqAt K) H' gs qs, ?_, ?_⟩
    · refine ⟨_, rfl, .inl ⟨_, rfl, _, _, rfl, rfl, (show (0 : Int) < 2 by decide), rfl, _, rfl, iteI (fun _ => ?_) (fun _ => ⟨D, true, l, rfl, s3, SqL.of hl2, rs_imp rsL fun _ _ q => q.at⟩)⟩⟩
      have hag2 := s2 _ _ hag1
      have hws2 : Rs PqL H2 ws qs := rs_imp hws1 fun _ _ q => q.same s2
      refine ⟨_, rfl, _, rfl, ap, _, _, _, rfl, rfl, SqL.of (s2 _ _ hap1), hix, ag, rfl, ⟨_, SqL.of hag2⟩, fun D2 hD2 => ?_⟩
      refine lc_m (walk_list (K := K) (a := ag) (xs := ws)) (PqT K) stb_PqT qs hws2.1 (by omega) hD2 (fun H' s => s.seq (SqL.of hag2)) (fun _ _ _ _ => ys_at) id (fun c qq x H4 H5 hc s4 s5 yl A B hA => ?_) (fun H4 l4 s4 hl4 rs4 => ?_)
      · obtain ⟨t, u, rfl, h1, h2⟩ := (hws2.2 c _ qq yl.2 hc).same s5
        refine ⟨rfl, lc_yes ⟨_, rfl, ixq (k := true) (SqL.of h1) (at_pos (by decide) rfl) ⟨_, rfl, ixq (k := true) (SqL.of h1) (at_pos (by decide) rfl) ⟨_, rfl, ixq (k := true) (SqL.of h1) (at_pos (by decide) rfl) ⟨u, _, rfl, .inl ⟨SqL.of h2, fun l2 hl2 => ⟨three_line, fun l3 hl3 => ?_⟩⟩⟩⟩⟩⟩⟩
        have n2 := same_new hl2 (.tup ((vec qq.2.2.1 qq.2.2.2).map V.int))
        have n3 := same_new hl3 (.tup [V.int qq.1, V.int qq.2.1, V.ref l2])
        exact hA _ _ (n2.trans n3) ⟨l3, l2, rfl, SqT.of upd_same, SqT.of (n3 _ _ upd_same)⟩
      · rw [List.map_id] at rs4
        refine ⟨D2, l4, rfl, .inl ⟨SqL.of hl4, fun u hu => ?_⟩⟩
        have nu := same_new hu (.tup l4)
        exact ⟨u, false, l4, rfl, s3.trans (s4.trans nu), SqT.of upd_same, rs_imp (rs4.tk stb_PqT fun _ _ h => Same_seqT nu h) fun _ _ q => q.at⟩
    clear rsL rs hl2 l s3 s2 hD D
    rintro σ H3 ⟨G, kg, gs, rfl, s3, hG, hgs⟩
    refine seq_asg ⟨_, rfl, _, rfl, p, G, kg, n, R, low, W, gs, qs, rfl, hF.same s3, hl0, hn, hG, hgs, hW, hWB, hqs, hql, fun b1 H4 s4 hb1 => ?_⟩
    have hG4 := sq_same s4 hG
    have hgs4 : Rs (PqAt K) H4 gs qs := Rs.same hgs s4
    show tSeq (tIfS _ _ _) _ _ [some (.ref p), some (.ref a), some (.int low), some (.ref ap), some (.int (0 + (i : Int))), some (.ref G), some (.bl b1), none] H4
    refine seq_ifop (tLc_sqD (K := K) (i := 5) (a := G) (xs := gs) (k := kg) (R := PqD) (fun D => stb_PqD) rfl hG4 qs hgs4.1 (by omega) id (fun D c qq x H5 hc hx s5 hdl A B' hA => ?_) (fun D H5 l s5 hD hl5 rs5 => ?_))
    · obtain ⟨kq, lq, t, u, rfl, h1, h2⟩ := (hgs4.2 c x qq hx hc).same s5
      obtain ⟨dl, hdl⟩ := hdl
      refine ⟨rfl, lc_yes ⟨_, rfl, ixq h1 (at_pos (by decide) rfl) ⟨_, rfl, ixq h1 (at_pos (by decide) rfl) ⟨_, rfl, ixq h1 (at_pos (by decide) rfl) ⟨u, _, rfl, sq_or h2, fun l2 hl2 => ⟨three_line, fun l3 hl3 => ?_⟩⟩⟩⟩⟩⟩
      have n2 := same_new hl2 (.lst ((vec qq.2.2.1 qq.2.2.2).map V.int))
      have n3 := same_new hl3 (.lst [V.int qq.1, V.int qq.2.1, V.ref l2])
      refine hA _ _ (n2.trans n3) ⟨l3, l2, rfl, fun z => ?_, fun z => ?_, upd_same, n3 _ _ upd_same⟩
      · have := none_of n2 hl3
        rw [z, hdl] at this
        cases this
      · rw [z, hdl] at hl2
        cases hl2
    rw [List.map_id] at rs5
    have rsL : Rs PqL H5 l qs := rs_imp rs5 fun _ _ q => q.l
    have sA := s3.trans (s4.trans s5)
    have hapA := sA _ _ hap
    have hagA := sA _ _ hag
    have hwsA : Rs PqL H5 ws qs := rs_imp hws fun _ _ q => q.same sA
    refine ⟨_, rfl, _, rfl, ap, _, _, _, rfl, rfl, SqL.of hapA, hix, .list (qs.map qpy), .list (qs.map qpy), .lst (SqL.of hl5) (dpl_of rsL), .lst (SqL.of hagA) (dpl_of hwsA), pap_shaped qs, pap_shaped qs, _, rfl, ?_⟩
    rw [eqv_self (pap_shaped qs)]
    refine ifF rfl ?_
    refine ⟨_, rfl, _, rfl, _, rfl, _, rfl, ap, _, _, _, rfl, rfl, SqL.of hapA, hix, a, ag, n, R, low, W, ws, qs, rfl, ht.same sA, hR, hlB.mono (by decide), hn, SqL.of hagA, rs_imp hwsA fun _ _ q => q.at, hW, hWB, hqs, hql, fun b2 H6 s6 hb2 => ⟨_, rfl, ?_⟩⟩
    have eb : b1 = b2 := by
      rw [Bool.eq_iff_iff, hb1, hb2]
    subst eb
    cases b1 with
    | true => exact ifT rfl ⟨_, rfl, _, _, rfl, rfl, _, rfl, ifF rfl ⟨_, _, _, rfl, sA.trans s6⟩⟩
    | false => exact ifF rfl ⟨_, rfl, _, _, rfl, rfl, _, rfl, ifF rfl ⟨_, _, _, rfl, sA.trans s6⟩⟩
  · rintro σ H1 ⟨v4, v5, v6, rfl, s1⟩
    exact q H1 s1
end
end P01
namespace P01
open PySem PySem.Spec PyProof.Rows L2 SX EX WK
/-! ### lists of squares whose sizes are right -/
def IQ (n : Nat) (W : Int) (H : Hp) (x : V) : Prop := ∃ q, PqL H x q ∧ SqOk n W q
theorem IQ.same {n : Nat} {W : Int} {H H' : Hp} {x : V} (s : Same H H') (h : IQ n W H x) : IQ n W H' x := let ⟨q, h1, h2⟩ := h; ⟨q, h1.same s, h2⟩
def LQ (n : Nat) (W : Int) (m : Nat) (H : Hp) (v : V) : Prop := ∃ (a : Addr) (us : List V), v = .ref a ∧ H a = some (.lst us) ∧ us.length ≤ m ∧ ∀ x ∈ us, IQ n W H x
theorem LQ.same {n m : Nat} {W : Int} {H H' : Hp} {v : V} (s : Same H H') (h : LQ n W m H v) : LQ n W m H' v := let ⟨a, us, h1, h2, h3, h4⟩ := h; ⟨a, us, h1, s _ _ h2, h3, fun x hx => (h4 x hx).same s⟩
theorem LQ.mono {n m m2 : Nat} {W : Int} {H : Hp} {v : V} (h : LQ n W m H v) (hm : m ≤ m2) : LQ n W m2 H v := let ⟨a, us, h1, h2, h3, h4⟩ := h; ⟨a, us, h1, h2, Nat.le_trans h3 hm, h4⟩
def PQ (n : Nat) (W : Int) (m : Nat) (H : Hp) (v : V) : Prop := ∃ (a : Addr) (us : List V), v = .ref a ∧ H a = some (.lst us) ∧ us.length ≤ m ∧ ∀ x ∈ us, LQ n W 1000 H x
theorem PQ.same {n m : Nat} {W : Int} {H H' : Hp} {v : V} (s : Same H H') (h : PQ n W m H v) : PQ n W m H' v := let ⟨a, us, h1, h2, h3, h4⟩ := h; ⟨a, us, h1, s _ _ h2, h3, fun x hx => (h4 x hx).same s⟩
theorem rs_of {α : Type} {R : Hp → V → α → Prop} {P : α → Prop} {H : Hp} : ∀ {us : List V}, (∀ x ∈ us, ∃ z, R H x z ∧ P z) → ∃ zs : List α, Rs R H us zs ∧ ∀ z ∈ zs, P z
  | [], _ => ⟨[], Rs.nil, by simp⟩
  | u :: us, h => by
    obtain ⟨zs, h1, h2⟩ := rs_of (us := us) fun x hx => h x (List.mem_cons_of_mem _ hx)
    obtain ⟨z, hz, pz⟩ := h u List.mem_cons_self
    refine ⟨z :: zs, ⟨by simp [h1.1], fun i v y hv hy => ?_⟩, fun y hy => ?_⟩
    · cases i with
      | zero => cases hv; cases hy; exact hz
      | succ i => exact h1.2 i v y hv hy
    · rcases List.mem_cons.mp hy with e | m
      · rw [e]; exact pz
      · exact h2 y m
theorem LQ.pap {n : Nat} {W : Int} {H : Hp} {v : V} (h : LQ n W 1000 H v) : ∃ qs, PapAt H v qs ∧ (qs.length ≤ 1000 ∧ ∀ q ∈ qs, SqOk n W q) := by
  obtain ⟨a, us, h1, h2, h3, h4⟩ := h
  obtain ⟨qs, h5, h6⟩ := rs_of (R := PqL) (P := SqOk n W) h4
  exact ⟨qs, ⟨a, us, h1, h2, h5⟩, by rw [← h5.1]; exact h3, h6⟩
theorem PQ.papers {n : Nat} {W : Int} {H : Hp} {v : V} (h : PQ n W 1000 H v) : ∃ (ap : Addr) (us : List V) (pss : List (List Pq)), v = .ref ap ∧ H ap = some (.lst us) ∧ Rs PapAt H us pss ∧ pss.length ≤ 1000 ∧ ∀ qs ∈ pss, qs.length ≤ 1000 ∧ ∀ q ∈ qs, SqOk n W q := by
  obtain ⟨a, us, h1, h2, h3, h4⟩ := h
  obtain ⟨pss, h5, h6⟩ := rs_of (R := PapAt) (P := fun qs => qs.length ≤ 1000 ∧ ∀ q ∈ qs, SqOk n W q) fun x hx => (h4 x hx).pap
  exact ⟨a, us, pss, h1, h2, h5, by rw [← h5.1]; exact h3, h6⟩
theorem sqok_small {n k : Nat} {W a b : Int} {x : Nat → Int} (hb : b ∣ W) (bB : B 2500 b) (aB : B 20000 a) (xB : ∀ j, B 20000 (x j)) : SqOk n W (a, b, k, x) := fun _ => ⟨hb, bB, aB, fun j _ => xB j⟩
theorem sqok_bad {n k : Nat} {W a b : Int} {x : Nat → Int} (h : a < 1 ∨ b < 1 ∨ k ≠ n) : SqOk n W (a, b, k, x) := fun g => by
  obtain ⟨g1, g2, g3⟩ := g
  simp only at g1 g2 g3
  omega
theorem mem_cut {xs : List V} {lo hi : Option Int} {x : V} (h : x ∈ cutV xs lo hi) : x ∈ xs := by
  unfold cutV at h
  exact List.mem_of_mem_drop (List.mem_of_mem_take h)
theorem len_cut {xs : List V} {lo hi : Option Int} : (cutV xs lo hi).length ≤ xs.length := by
  unfold cutV
  rw [List.length_take, List.length_drop]
  omega
section
variable {n m i : Nat} {W a b a2 b2 : Int} {σ : L2.St} {H : Hp} {Q : VK} {v : V} {t3 t32 : TA} {K : PySem.W.Frag}
/-- told + [[a, b, row]] -/
theorem te_cat1 (hT : σ[i]? = some (some v)) (lq : LQ n W m H v) (hm : m ≤ 1000)
    (h3 : ∀ (H1 : Hp) (Q1 : List V → Hp → Prop), Same H H1 → (∀ (r : Addr) (H2 : Hp) (k : Nat) (x : Nat → Int), Same H1 H2 → H2 r = some (.lst ((vec k x).map V.int)) → SqOk n W (a, b, k, x) → Q1 [.int a, .int b, .ref r] H2) → t3 σ H1 Q1)
    (q : ∀ v2 H2, Same H H2 → LQ n W (m + 1) H2 v2 → Q v2 H2) : tOp rCat (tVar i) (tLst (tCons (tLst t3) tNil)) σ H Q := by
  obtain ⟨T, us, rfl, h1, h2, h4⟩ := lq
  refine ⟨_, hT, h3 H _ (fun _ _ h => h) (fun r H2 k x s2 hr ok => ⟨three_line, fun l1 hl1 => ⟨one_line, fun l2 hl2 => ?_⟩⟩)⟩
  have n1 := same_new hl1 (.lst [V.int a, V.int b, V.ref r])
  have n2 := same_new hl2 (.lst [V.ref l1])
  refine ⟨T, l2, us, _, rfl, rfl, n2 _ _ (n1 _ _ (s2 _ _ h1)), upd_same, line_ge (by show us.length + 1 ≤ 100000; omega), fun l3 hl3 => ?_⟩
  have n3 := same_new hl3 (.lst (us ++ [V.ref l1]))
  refine q _ _ (s2.trans (n1.trans (n2.trans n3))) ⟨l3, _, rfl, upd_same, by rw [List.length_append]; show us.length + 1 ≤ m + 1; omega, fun x hx => ?_⟩
  rcases List.mem_append.mp hx with h | h
  · exact (h4 x h).same (s2.trans (n1.trans (n2.trans n3)))
  · rw [List.mem_singleton.mp h]
    exact ⟨(a, b, k, _), ⟨l1, r, rfl, n3 _ _ (n2 _ _ upd_same), n3 _ _ (n2 _ _ (n1 _ _ hr))⟩, ok⟩
/-- told + [[a, b, row], [c, d, row]] -/
theorem te_cat2 (hT : σ[i]? = some (some v)) (lq : LQ n W m H v) (hm : m ≤ 1000)
    (h3 : ∀ (H1 : Hp) (Q1 : List V → Hp → Prop), Same H H1 → (∀ (r : Addr) (H2 : Hp) (k : Nat) (x : Nat → Int), Same H1 H2 → H2 r = some (.lst ((vec k x).map V.int)) → SqOk n W (a, b, k, x) → Q1 [.int a, .int b, .ref r] H2) → t3 σ H1 Q1)
    (h32 : ∀ (H1 : Hp) (Q1 : List V → Hp → Prop), Same H H1 → (∀ (r : Addr) (H2 : Hp) (k : Nat) (x : Nat → Int), Same H1 H2 → H2 r = some (.lst ((vec k x).map V.int)) → SqOk n W (a2, b2, k, x) → Q1 [.int a2, .int b2, .ref r] H2) → t32 σ H1 Q1)
    (q : ∀ v2 H2, Same H H2 → LQ n W (m + 2) H2 v2 → Q v2 H2) : tOp rCat (tVar i) (tLst (tCons (tLst t3) (tCons (tLst t32) tNil))) σ H Q := by
  obtain ⟨T, us, rfl, h1, h2, h4⟩ := lq
  refine ⟨_, hT, h3 H _ (fun _ _ h => h) (fun r H2 k x s2 hr ok => ⟨three_line, fun l1 hl1 => ?_⟩)⟩
  have n1 := same_new hl1 (.lst [V.int a, V.int b, V.ref r])
  refine h32 _ _ (s2.trans n1) (fun r2 H3 k2 x2 s3 hr2 ok2 => ⟨three_line, fun l12 hl12 => ⟨two_line, fun l2 hl2 => ?_⟩⟩)
  have n12 := same_new hl12 (.lst [V.int a2, V.int b2, V.ref r2])
  have n2 := same_new hl2 (.lst [V.ref l1, V.ref l12])
  have sA := s2.trans (n1.trans (s3.trans (n12.trans n2)))
  refine ⟨T, l2, us, _, rfl, rfl, sA _ _ h1, upd_same, line_ge (by show us.length + 2 ≤ 100000; omega), fun l3 hl3 => ?_⟩
  have n3 := same_new hl3 (.lst (us ++ [V.ref l1, V.ref l12]))
  refine q _ _ (sA.trans n3) ⟨l3, _, rfl, upd_same, by rw [List.length_append]; show us.length + 2 ≤ m + 2; omega, fun x hx => ?_⟩
  rcases List.mem_append.mp hx with h | h
  · exact (h4 x h).same (sA.trans n3)
  · rcases List.mem_cons.mp h with e | h
    · rw [e]
      have sB := s3.trans (n12.trans (n2.trans n3))
      exact ⟨(a, b, k, _), ⟨l1, r, rfl, sB _ _ upd_same, sB _ _ (n1 _ _ hr)⟩, ok⟩
    · rw [List.mem_singleton.mp h]
      exact ⟨(a2, b2, k2, _), ⟨l12, r2, rfl, n3 _ _ (n2 _ _ upd_same), n3 _ _ (n2 _ _ (n12 _ _ hr2))⟩, ok2⟩
/-- told + told[:z] -/
theorem te_catS {i : Nat} {z : Int} {σ : L2.St} {H : Hp} {Q : VK} {v : V} (hT : σ[i]? = some (some v)) (lq : LQ n W m H v) (hm : m ≤ 500) (q : ∀ v2 H2, Same H H2 → LQ n W (m + m) H2 v2 → Q v2 H2) : tOp rCat (tVar i) (tSl (rSlL K) (tVar i) tNoPart (tPart (tC (.int z)))) σ H Q := by
  obtain ⟨T, us, rfl, h1, h2, h4⟩ := lq
  refine ⟨_, hT, _, hT, _, rfl, T, us, rfl, SqL.of h1, fun p hp => ?_⟩
  have n1 := same_new hp (.lst (cutV us none (some z)))
  have hc := len_cut (xs := us) (lo := none) (hi := some z)
  refine ⟨T, p, us, _, rfl, rfl, n1 _ _ h1, upd_same, line_ge (by omega), fun p2 hp2 => ?_⟩
  have n2 := same_new hp2 (.lst (us ++ cutV us none (some z)))
  refine q _ _ (n1.trans n2) ⟨p2, _, rfl, upd_same, by rw [List.length_append]; omega, fun x hx => ?_⟩
  rcases List.mem_append.mp hx with h | h
  · exact (h4 x h).same (n1.trans n2)
  · exact (h4 x (mem_cut h)).same (n1.trans n2)
theorem PQ.mono {m m2 : Nat} {H : Hp} {v : V} (h : PQ n W m H v) (hm : m ≤ m2) : PQ n W m2 H v := let ⟨a, us, h1, h2, h3, h4⟩ := h; ⟨a, us, h1, h2, Nat.le_trans h3 hm, h4⟩
theorem PQ.of {m : Nat} {H : Hp} {p : Addr} {us : List V} (h1 : H p = some (.lst us)) (h2 : us.length ≤ m) (h3 : ∀ x ∈ us, LQ n W 1000 H x) : PQ n W m H (.ref p) := ⟨p, us, rfl, h1, h2, h3⟩
/-- papers + [..] -/
theorem rcat_pq {m k : Nat} {H : Hp} {v w : V} {Q : VK} (h1 : PQ n W m H v) (h2 : PQ n W k H w) (hm : m + k ≤ 1000) (q : ∀ v2 H2, Same H H2 → PQ n W (m + k) H2 v2 → Q v2 H2) : rCat v w H Q := by
  obtain ⟨a1, us, rfl, e1, e2, e3⟩ := h1
  obtain ⟨a2, ws, rfl, f1, f2, f3⟩ := h2
  refine ⟨a1, a2, us, ws, rfl, rfl, e1, f1, line_ge (by omega), fun p hp => ?_⟩
  have np := same_new hp (.lst (us ++ ws))
  refine q _ _ np ⟨p, _, rfl, upd_same, by rw [List.length_append]; omega, fun x hx => ?_⟩
  rcases List.mem_append.mp hx with h | h
  · exact (e3 x h).same np
  · exact (f3 x h).same np
end
section
variable {P : Program} {w : World} {K : PySem.W.Frag} {mg : Str → Option Value} {base : Heap} {f : Addr} {fd : FuncData} {cF cR : Addr}
def spToldP (K : PySem.W.Frag) : Sp := fun vs H Q _ => ∃ (t : Addr) (us : List V) (n : Nat) (qs : List Sq3) (W place : Int), vs = [.ref t, .int n, .int place] ∧ SqT K H t us ∧ Rs (Told K n) H us qs ∧ n ≤ 10 ∧ qs.length ≤ 100 ∧ (∀ q ∈ qs, SqOk n W (asq n q)) ∧ 3 ∣ W ∧ 7 ∣ W ∧ ∀ v H', Same H H' → PQ n W 1000 H' v → Q v H'
abbrev s__law_told_papers : Stmt := top 53
abbrev N__law_told_papers : List Str := ["squares", "size", "place", "zeros", "unit", "told", "papers", "j", "one"]
theorem sc__law_told_papers : FnScope N__law_told_papers ["squares", "size", "place"] (defScope s__law_told_papers) := ⟨rfl, rfl, rfl, by decide +kernel, rfl, by decide +kernel, by decide +kernel⟩
theorem ok__law_told_papers (F : Fun K "_law_told_papers" "_law_told_papers" s__law_told_papers f fd) (T : Txt mg) : FnOk P w K mg base CX0 1 f fd ["squares", "size", "place"] (spToldP K) := by
  refine F.ok sc__law_told_papers (fun vs H Q E h => ?_) (fun cdv A outer s H vs Q E hr h => ?_)
  · obtain ⟨t, us, n, qs, W, place, rfl, _⟩ := h
    rfl
  obtain ⟨t, us, n, qs, W, place, rfl, ht, hrs, hn, hql, hok, h3, h7, q⟩ := h
  refine ⟨_, (pss_cons (ps_setLc (i := 3) (own := [("j", 7)]) (g := gName 7) (tt := tYes) (by rfl) sc__law_told_papers.nd rfl rfl (sw_true rfl rfl rfl (by decide +kernel)) (pi_range1 (by rfl) T.b_range (pa_cons (pv 1) pa_nil)) (blkOk_by (N := N__law_told_papers) (sc := defScope s__law_told_papers) (by decide +kernel)) (fun _ _ _ _ _ => (pg_name (i := 7) sc__law_told_papers.nd rfl (Or.inl rfl))) (fun _ _ _ _ _ => pts_nil) (fun _ _ _ _ _ => pe_int))
  (pss_cons (ps_setLc (i := 4) (own := [("j", 7)]) (g := gName 7) (tt := tYes) (by rfl) sc__law_told_papers.nd rfl rfl (sw_true rfl rfl rfl (by decide +kernel)) (pi_range1 (by rfl) T.b_range (pa_cons (pv 1) pa_nil)) (blkOk_by (N := N__law_told_papers) (sc := defScope s__law_told_papers) (by decide +kernel)) (fun _ _ _ _ _ => (pg_name (i := 7) sc__law_told_papers.nd rfl (Or.inl rfl))) (fun _ _ _ _ _ => pts_nil) (fun _ _ _ _ _ => (pe_callTy call_int1 (by rfl) T.b_int (by decide +kernel) (pa_cons (pe_cmpR op_eq (pv 7) (pe_op op_mod (pe_callTy call_int1 (by rfl) T.b_int (by decide +kernel) (pa_cons (pv 2) pa_nil)) (pe_callB (call_max2 rfl) (by rfl) T.b_max (by decide +kernel) (pa_cons pe_int (pa_cons (pv 1) pa_nil)))) (nomark _)) pa_nil))))
  (pss_cons (ps_setLc (i := 5) (own := [("one", 8)]) (g := gName 8) (tt := tYes) (by rfl) sc__law_told_papers.nd rfl rfl (sw_true rfl rfl rfl (by decide +kernel)) (pi_tup (pv 0)) (blkOk_by (N := N__law_told_papers) (sc := defScope s__law_told_papers) (by decide +kernel)) (fun _ _ _ _ _ => (pg_name (i := 8) sc__law_told_papers.nd rfl (Or.inl rfl))) (fun _ _ _ _ _ => pts_nil) (fun _ _ _ _ _ => (pe_lst (pa_cons (pe_ix (ix_tupK (K := K) rfl) (pv 8) pe_int (fun _ _ => rfl)) (pa_cons (pe_ix (ix_tupK (K := K) rfl) (pv 8) pe_int (fun _ _ => rfl)) (pa_cons (pe_callTy (call_list_ofK (K := K) rfl) (by rfl) T.b_list (by decide +kernel) (pa_cons (pe_ix (ix_tupK (K := K) rfl) (pv 8) pe_int (fun _ _ => rfl)) pa_nil)) pa_nil))))))
  (pss_cons (ps_set (i := 6) sc__law_told_papers.nd rfl (Or.inl rfl) (pe_lst (pa_cons (pe_op op_cat (pe_revL (pv 5)) (pe_lst (pa_cons (pe_lst (pa_cons pe_int (pa_cons pe_int (pa_cons (pv 3) pa_nil)))) pa_nil))) (pa_cons (pe_slice sl_list (pv 5) (po_some pe_int) po_none) pa_nil))))
  (pss_cons (ps_if (pt_cmpR op_gt (pv 1) pe_int (nomark _)) (pss_one (ps_ret (pv 6))) pss_nil)
  (pss_cons (ps_set (i := 6) sc__law_told_papers.nd rfl (Or.inl rfl) (pe_op op_cat (pv 6) (pe_lst (pa_cons (pv 5) (pa_cons (pe_op op_cat (pv 5) (pe_lst (pa_cons (pe_lst (pa_cons pe_int (pa_cons pe_int (pa_cons (pv 4) pa_nil)))) pa_nil))) (pa_cons (pe_op op_cat (pv 5) (pe_slice sl_list (pv 5) po_none (po_some pe_int))) (pa_cons (pe_op op_cat (pv 5) (pe_lst (pa_cons (pe_lst (pa_cons pe_int (pa_cons pe_int (pa_cons (pv 3) pa_nil)))) pa_nil))) (pa_cons (pe_op op_cat (pv 5) (pe_lst (pa_cons (pe_lst (pa_cons pe_int (pa_cons pe_int (pa_cons (pv 3) pa_nil)))) pa_nil))) pa_nil))))))))
  (pss_cons (ps_set (i := 6) sc__law_told_papers.nd rfl (Or.inl rfl) (pe_op op_cat (pv 6) (pe_lst (pa_cons (pe_op op_cat (pv 5) (pe_lst (pa_cons (pe_lst (pa_cons pe_int (pa_cons (pe_un un_neg pe_int) (pa_cons (pv 3) pa_nil)))) pa_nil))) (pa_cons (pe_op op_cat (pv 5) (pe_lst (pa_cons (pe_lst (pa_cons (pe_un un_neg pe_int) (pa_cons pe_int (pa_cons (pv 4) pa_nil)))) (pa_cons (pe_lst (pa_cons pe_int (pa_cons pe_int (pa_cons (pv 4) pa_nil)))) pa_nil)))) pa_nil)))))
  (pss_one (ps_ret (pe_op op_cat (pv 6) (pe_lst (pa_cons (pe_op op_cat (pv 5) (pe_lst (pa_cons (pe_lst (pa_cons pe_int (pa_cons pe_int (pa_cons (pe_op op_cat (pv 3) (pe_lst (pa_cons pe_int pa_nil))) pa_nil)))) pa_nil))) (pa_cons (pe_op op_cat (pv 5) (pe_lst (pa_cons (pe_lst (pa_cons pe_int (pa_cons pe_int (pa_cons (pe_slice sl_list (pv 3) (po_some pe_int) po_none) pa_nil)))) pa_nil))) pa_nil))))))))))))), ?_⟩
  refine ⟨_, rfl, (n : Int), rfl, by omega, by omega, fun Z hZ => ?_⟩
  refine lc_m (walk_range (lo := 0) (n := n)) RI (stb_RI (K := K)) (List.range n) (by rw [List.length_range]) (by rw [List.length_range]; omega) hZ (fun _ _ => trivial) (fun _ _ _ _ => ys_fn) (fun _ => (0 : Int)) (fun c i x H3 H4 hc s3 s4 yl A B' hA => ?_) (fun H1 l s1 hl1 rs => ?_)
  · exact ⟨rfl, lc_yes (hA _ _ (fun _ _ h => h) rfl)⟩
  have hz1 : H1 Z = some (.lst ((vec n fun _ => (0 : Int)).map V.int)) := by rw [hl1, rs.ints]; rfl
  clear hl1 rs
  have exm : ∃ mx : Int, mx = (if (n : Int) > 1 then (n : Int) else 1) ∧ 0 < mx := ⟨_, rfl, by split <;> omega⟩
  obtain ⟨mx, hmx, mx0⟩ := exm
  refine ⟨_, rfl, (n : Int), rfl, by omega, by omega, fun U0 hU => ?_⟩
  refine lc_m (walk_range (lo := 0) (n := n)) RI (stb_RI (K := K)) (List.range n) (by rw [List.length_range]) (by rw [List.length_range]; omega) hU (fun _ _ => trivial) (fun _ _ _ _ => ys_fn) (fun j => (if decide (V.int (0 + (j : Int)) = V.int (place % mx)) = true then (1 : Int) else 0)) (fun c i x H3 H4 hc s3 s4 yl A B' hA => ?_) (fun H2 l s2 hl2 rs => ?_)
  · obtain ⟨hc1, rfl⟩ := in_range hc
    rw [yl.2]
    refine ⟨rfl, lc_yes ⟨_, rfl, _, rfl, .inl ⟨_, rfl, _, rfl, _, _, rfl, ?_⟩⟩⟩
    rw [← hmx]
    exact ⟨_, _, rfl, rfl, mx0, rfl, .inr ⟨_, rfl, hA _ _ (fun _ _ h => h) rfl⟩⟩
  have hu2 : H2 U0 = some (.lst ((vec n fun j => (if decide (V.int (0 + (j : Int)) = V.int (place % mx)) = true then (1 : Int) else 0)).map V.int)) := by rw [hl2, rs.ints]; rfl
  have hz2 := s2 _ _ hz1
  obtain ⟨un, hun⟩ : ∃ un : Nat → Int, un = fun (j : Nat) => (if decide (V.int (0 + (j : Int)) = V.int (place % mx)) = true then (1 : Int) else 0) := ⟨_, rfl⟩
  have unB : ∀ j : Nat, B 20000 (un j) := fun j => by
    have h1 : (un j).natAbs < 2 ^ 2 := by
      rw [hun]
      show Int.natAbs (if _ then _ else _) < 2 ^ 2
      split <;> decide
    exact Nat.lt_of_lt_of_le h1 (Nat.pow_le_pow_right (by decide) (by decide))
  rw [← hun] at hu2
  clear hun
  have s12 := s1.trans s2
  clear hl2 rs hz1 s1 s2
  have ht2 := Same_seqT s12 ht
  have hrs2 : Rs (Told K n) H2 us qs := hrs.tk stb_Told fun _ _ h => Same_seqT s12 h
  refine ⟨_, rfl, t, rfl, ⟨_, ht2⟩, fun TD hTD => ?_⟩
  refine lc_gm (walk_tup (K := K) (a := t) (xs := us)) (PqD TD) stb_PqD qs hrs2.1 (by omega) hTD (fun H' s => Same_seqT s ht2) (fun _ _ _ _ => ys_at) (asq n) (fun c qq x H3 H4 hc s3 s4 yl hdl A B' hA => ?_) (fun H3 l s3 hl3 rs => ?_)
  · obtain ⟨t1, u1, rfl, h1, h2⟩ := hrs2.2 c _ qq yl.2 hc
    have h1' := Same_seqT s4 h1
    have h2' : SqT K H4 u1 ((vec n qq.2.2).map V.int) := Same_seqT s4 h2
    obtain ⟨dl, hdl⟩ := hdl
    refine ⟨rfl, lc_yes ⟨_, rfl, t1, _, 0, _, rfl, rfl, h1', at_pos (by decide) rfl, _, rfl, t1, _, 1, _, rfl, rfl, h1', at_pos (by decide) rfl, _, rfl, t1, _, 2, _, rfl, rfl, h1', at_pos (by decide) rfl, u1, _, rfl, .inr h2', fun l2 hl2 => ⟨three_line, fun l3 hl3 => ?_⟩⟩⟩
    have n2 := same_new hl2 (.lst ((vec n qq.2.2).map V.int))
    have n3 := same_new hl3 (.lst [V.int qq.1, V.int qq.2.1, V.ref l2])
    refine hA _ _ (n2.trans n3) ⟨l3, l2, rfl, fun z => ?_, fun z => ?_, upd_same, n3 _ _ upd_same⟩
    · have := none_of n2 hl3
      rw [z, hdl] at this
      cases this
    · rw [z, hdl] at hl2
      cases hl2
  have lq : LQ n W 100 H3 (.ref TD) := by
    have e0 : l.length = qs.length := by rw [rs.1, List.length_map]
    refine ⟨TD, l, rfl, hl3, by omega, fun x hx => ?_⟩
    obtain ⟨i, hi, rfl⟩ := List.getElem_of_mem hx
    have e1 : qs[i]? = some (qs[i]'(by omega)) := List.getElem?_eq_getElem _
    exact ⟨asq n (qs[i]'(by omega)), (rs.2 i _ _ (List.getElem?_eq_getElem hi) (by rw [List.getElem?_map, e1]; rfl)).l, hok _ (List.getElem_mem _)⟩
  have hz3 := s3 _ _ hz2
  have hu3 := s3 _ _ hu2
  have s13 := s12.trans s3
  clear rs hz2 hu2 s12 s3 ht2 hrs2 hl3
  have okz : ∀ {a b : Int}, b ∣ W → B 2500 b → B 20000 a → SqOk n W (a, b, n, fun _ => 0) := fun hb bb ab => sqok_small hb bb ab fun _ => Nat.two_pow_pos _
  have oku : ∀ {a b : Int}, b ∣ W → B 2500 b → B 20000 a → SqOk n W (a, b, n, un) := fun hb bb ab => sqok_small hb bb ab unB
  obtain ⟨TD', ts, e0, hT3, hTl, hTi⟩ := id lq
  cases e0
  refine ⟨_, rfl, TD, ts, rfl, SqL.of hT3, fun l1 hl1 => ⟨_, rfl, three_line, fun l2 hl2 => ⟨one_line, fun l3 hl3 => ?_⟩⟩⟩
  have n1 := same_new hl1 (.lst ts.reverse)
  have n2 := same_new hl2 (.lst [V.int 2, V.int 3, V.ref Z])
  have n3 := same_new hl3 (.lst [V.ref l2])
  refine ⟨l1, l3, _, _, rfl, rfl, n3 _ _ (n2 _ _ upd_same), upd_same, line_ge (by rw [List.length_reverse]; show ts.length + 1 ≤ 100000; omega), fun l4 hl4 => ?_⟩
  have n4 := same_new hl4 (.lst (ts.reverse ++ [V.ref l2]))
  have s34 := n1.trans (n2.trans (n3.trans n4))
  refine ⟨_, rfl, _, rfl, TD, ts, rfl, SqL.of (s34 _ _ hT3), fun l5 hl5 => ⟨two_line, fun l6 hl6 => ?_⟩⟩
  have n5 := same_new hl5 (.lst (cutV ts (some 1) none))
  have n6 := same_new hl6 (.lst [V.ref l4, V.ref l5])
  have s36 := s34.trans (n5.trans n6)
  have hz6 := s36 _ _ hz3
  have hu6 := s36 _ _ hu3
  have lq6 := lq.same s36
  have n56 := n5.trans n6
  have pq : PQ n W 2 _ (V.ref l6) := PQ.of (n := n) (W := W) (H := upd _ l6 (.lst [V.ref l4, V.ref l5])) upd_same (Nat.le_refl 2) (fun x hx => by
    rcases List.mem_cons.mp hx with e | hx
    · rw [e]
      refine ⟨l4, _, rfl, n56 _ _ upd_same, by rw [List.length_append, List.length_reverse]; show ts.length + 1 ≤ 1000; omega, fun y hy => ?_⟩
      rcases List.mem_append.mp hy with h | h
      · exact (hTi y (List.mem_reverse.mp h)).same s36
      · rw [List.mem_singleton.mp h]
        exact ⟨(2, 3, n, fun _ => 0), ⟨l2, Z, rfl, n56 _ _ (n4 _ _ (n3 _ _ upd_same)), hz6⟩, okz h3 (by decide) (by show (2 : Int).natAbs < 2 ^ 20000; exact Nat.lt_of_lt_of_le (by decide : (2 : Int).natAbs < 2 ^ 2) (Nat.pow_le_pow_right (by decide) (by decide)))⟩
    · rw [List.mem_singleton.mp hx]
      exact ⟨l5, _, rfl, n6 _ _ upd_same, Nat.le_trans len_cut (by omega), fun y hy => (hTi y (mem_cut hy)).same s36⟩)
  have s16 := s13.trans s36
  clear s36 s34 n1 n2 n3 n4 n5 n6 n56 hT3 hTi lq hz3 hu3 s13
  generalize upd _ l6 (.lst [V.ref l4, V.ref l5]) = H6 at *
  have b2 : ∀ {x : Int}, x.natAbs < 2 ^ 2 → B 20000 x := fun h => Nat.lt_of_lt_of_le h (Nat.pow_le_pow_right (by decide) (by decide))
  refine ⟨_, rfl, _, _, rfl, rfl, _, rfl, ?_⟩
  by_cases c6 : 6 < n
  · exact ifT (decide_eq_true (by omega)) ⟨_, rfl, q _ H6 s16 (pq.mono (by decide))⟩
  refine ifF (decide_eq_false (by omega)) ?_
  refine ⟨_, rfl, _, rfl, te_cat1 (n := n) (W := W) (m := 100) (a := 1) (b := 7) (i := 5) rfl lq6 (by decide) (fun H1 Q1 s h => ⟨_, rfl, h U0 H1 n un (fun _ _ h => h) (s _ _ hu6) (oku h7 (by decide) (b2 (by decide)))⟩) (fun v1 H7 s7 lq7 => ?_)⟩
  have lq67 := lq6.same s7
  have hz7 := s7 _ _ hz6
  refine te_catS (n := n) (W := W) (m := 100) (i := 5) (z := 1) rfl lq67 (by decide) (fun v2 H8 s8 lq8 => ?_)
  have lq68 := lq67.same s8
  have hz8 := s8 _ _ hz7
  refine te_cat1 (n := n) (W := W) (m := 100) (a := 0) (b := 1) (i := 5) rfl lq68 (by decide) (fun H1 Q1 s h => ⟨_, rfl, h Z H1 n _ (fun _ _ h => h) (s _ _ hz8) (sqok_bad (.inl (by decide)))⟩) (fun v3 H9 s9 lq9 => ?_)
  have lq69 := lq68.same s9
  have hz9 := s9 _ _ hz8
  refine te_cat1 (n := n) (W := W) (m := 100) (a := 1) (b := 0) (i := 5) rfl lq69 (by decide) (fun H1 Q1 s h => ⟨_, rfl, h Z H1 n _ (fun _ _ h => h) (s _ _ hz9) (sqok_bad (.inr (.inl (by decide))))⟩) (fun v4 H10 s10 lq10 => ?_)
  refine ⟨line_ge (by show 5 ≤ 100000; decide), fun l11 hl11 => ?_⟩
  have n11 := same_new hl11 (.lst [V.ref TD, v1, v2, v3, v4])
  have sB := s7.trans (s8.trans (s9.trans (s10.trans n11)))
  refine rcat_pq (n := n) (W := W) (pq.same sB) (PQ.of (m := 5) upd_same (Nat.le_refl 5) (fun x hx => ?_)) (by decide) (fun v12 H12 s12 pq12 => ?_)
  · simp only [List.mem_cons, List.not_mem_nil, or_false] at hx
    rcases hx with e | e | e | e | e
    · rw [e]; exact (lq6.same sB).mono (by decide)
    · rw [e]; exact (lq7.same (s8.trans (s9.trans (s10.trans n11)))).mono (by decide)
    · rw [e]; exact (lq8.same (s9.trans (s10.trans n11))).mono (by decide)
    · rw [e]; exact (lq9.same (s10.trans n11)).mono (by decide)
    · rw [e]; exact (lq10.same n11).mono (by decide)
  have sC := sB.trans s12
  have s17 := s16.trans sC
  have lqC := lq6.same sC
  have hzC := sC _ _ hz6
  have huC := sC _ _ hu6
  clear lq67 lq68 lq69 hz7 hz8 hz9 lq7 lq8 lq9 lq10 s7 s8 s9 s10 n11 sB s12 hl11 pq sC lq6 hz6 hu6 s16
  refine ⟨_, rfl, te_cat1 (n := n) (W := W) (m := 100) (a := 1) (b := -1) (i := 5) rfl lqC (by decide) (fun H1 Q1 s h => ⟨_, rfl, _, rfl, h Z H1 n _ (fun _ _ h => h) (s _ _ hzC) (sqok_bad (.inr (.inl (by decide))))⟩) (fun v1 H7 s7 lq7 => ?_)⟩
  refine te_cat2 (n := n) (W := W) (m := 100) (a := -1) (b := 1) (a2 := 1) (b2 := 1) (i := 5) rfl (lqC.same s7) (by decide) (fun H1 Q1 s h => ⟨_, rfl, _, rfl, h U0 H1 n un (fun _ _ h => h) (s _ _ (s7 _ _ huC)) (sqok_bad (.inl (by decide)))⟩) (fun H1 Q1 s h => ⟨_, rfl, h U0 H1 n un (fun _ _ h => h) (s _ _ (s7 _ _ huC)) (oku (Int.one_dvd _) (by decide) (b2 (by decide)))⟩) (fun v2 H8 s8 lq8 => ?_)
  refine ⟨two_line, fun l11 hl11 => ?_⟩
  have n11 := same_new hl11 (.lst [v1, v2])
  have sB := s7.trans (s8.trans n11)
  refine rcat_pq (n := n) (W := W) (pq12.same sB) (PQ.of (m := 2) upd_same (Nat.le_refl 2) (fun x hx => ?_)) (by decide) (fun v13 H13 s13 pq13 => ?_)
  · simp only [List.mem_cons, List.not_mem_nil, or_false] at hx
    rcases hx with e | e
    · rw [e]; exact (lq7.same (s8.trans n11)).mono (by decide)
    · rw [e]; exact (lq8.same n11).mono (by decide)
  have sD := sB.trans s13
  have s18 := s17.trans sD
  have lqD := lqC.same sD
  have hzD := sD _ _ hzC
  clear lq7 lq8 s7 s8 n11 sB s13 hl11 sD lqC hzC huC s17 pq12
  refine ⟨_, rfl, te_cat1 (n := n) (W := W) (m := 100) (a := 1) (b := 1) (i := 5) rfl lqD (by decide) (fun H1 Q1 s h => ?_) (fun v1 H7 s7 lq7 => ?_)⟩
  · refine ⟨_, rfl, one_line, fun l1 hl1 => ?_⟩
    have n1 := same_new hl1 (.lst [V.int 0])
    refine ⟨Z, l1, _, _, rfl, rfl, n1 _ _ (s _ _ hzD), upd_same, line_ge (by rw [vec_lenV]; show n + 1 ≤ 100000; omega), fun l2 hl2 => ?_⟩
    have n2 := same_new hl2 (.lst (((vec n fun _ => (0 : Int)).map V.int) ++ [V.int 0]))
    exact h l2 _ (n + 1) (fun i => if i < n then 0 else 0) (n1.trans n2) (by rw [upd_same, show [V.int 0] = (vec 1 fun _ => (0 : Int)).map V.int from rfl, vec_cat]) (sqok_bad (.inr (.inr (by omega))))
  refine te_cat1 (n := n) (W := W) (m := 100) (a := 1) (b := 1) (i := 5) rfl (lqD.same s7) (by decide) (fun H1 Q1 s h => ?_) (fun v2 H8 s8 lq8 => ?_)
  · have hz1 := s _ _ (s7 _ _ hzD)
    refine ⟨_, rfl, _, rfl, Z, _, rfl, SqL.of hz1, fun l2 hl2 => ?_⟩
    have ec : cutV ((vec n fun _ => (0 : Int)).map V.int) (some (1 : Int)) none = (vec (n - 1) fun _ => 0).map V.int := by
      rcases Nat.eq_zero_or_pos n with z | z
      · subst z
        rfl
      · have := cut_tail (m := n) (a := 1) (b := n - 1) (y := fun _ => (0 : Int)) (by omega)
        exact this
    have n2 := same_new hl2 (.lst ((vec (n - 1) fun _ => (0 : Int)).map V.int))
    rw [ec]
    exact h l2 _ (n - 1) (fun _ => 0) n2 upd_same (sqok_small (Int.one_dvd _) (by decide) (b2 (by decide)) fun _ => Nat.two_pow_pos _)
  refine ⟨two_line, fun l11 hl11 => ?_⟩
  have n11 := same_new hl11 (.lst [v1, v2])
  have sB := s7.trans (s8.trans n11)
  refine rcat_pq (n := n) (W := W) (pq13.same sB) (PQ.of (m := 2) upd_same (Nat.le_refl 2) (fun x hx => ?_)) (by decide) (fun v14 H14 s14 pq14 => q _ _ (s18.trans (sB.trans s14)) (pq14.mono (by decide)))
  simp only [List.mem_cons, List.not_mem_nil, or_false] at hx
  rcases hx with e | e
  · rw [e]; exact (lq7.same (s8.trans n11)).mono (by decide)
  · rw [e]; exact (lq8.same n11).mono (by decide)
end
end P01
namespace P01
open PySem PySem.Spec PyProof.Rows L2 SX EX WK
/-! ### own squares -/
def LQD (D : Addr) (n : Nat) (W : Int) (m : Nat) (H : Hp) (v : V) : Prop := ∃ (a : Addr) (us : List V), v = .ref a ∧ a ≠ D ∧ H a = some (.lst us) ∧ us.length ≤ m ∧ ∀ x ∈ us, ∃ q, PqD D H x q ∧ SqOk n W q
theorem LQD.but {D : Addr} {n m : Nat} {W : Int} {H H' : Hp} {v : V} (s : ∀ b o, b ≠ D → H b = some o → H' b = some o) (h : LQD D n W m H v) : LQD D n W m H' v := by
  obtain ⟨a, us, h1, h2, h3, h4, h5⟩ := h
  refine ⟨a, us, h1, h2, s _ _ h2 h3, h4, fun x hx => ?_⟩
  obtain ⟨q, ⟨t, u, e1, e2, e3, e4, e5⟩, ok⟩ := h5 x hx
  exact ⟨q, ⟨t, u, e1, e2, e3, s _ _ e2 e4, s _ _ e3 e5⟩, ok⟩
theorem LQD.lq {D : Addr} {n m : Nat} {W : Int} {H : Hp} {v : V} (h : LQD D n W m H v) : LQ n W m H v := by
  obtain ⟨a, us, h1, h2, h3, h4, h5⟩ := h
  refine ⟨a, us, h1, h3, h4, fun x hx => ?_⟩
  obtain ⟨q, hq, ok⟩ := h5 x hx
  exact ⟨q, hq.l, ok⟩
theorem ne_free {H : Hp} {a D : Addr} {o : HO} (h : H a = some o) (hD : H D = none) : a ≠ D := fun z => by rw [z, hD] at h; cases h
theorem LQ.apart {D : Addr} {n m : Nat} {W : Int} {H : Hp} {v : V} (h : LQ n W m H v) (hD : H D = none) : LQD D n W m H v := by
  obtain ⟨a, us, h1, h2, h3, h4⟩ := h
  refine ⟨a, us, h1, ne_free h2 hD, h2, h3, fun x hx => ?_⟩
  obtain ⟨q, ⟨t, u, e1, e2, e3⟩, ok⟩ := h4 x hx
  exact ⟨q, ⟨t, u, e1, ne_free e2 hD, ne_free e3 hD, e2, e3⟩, ok⟩
def b126 (k : Nat) : Int := if k = 0 then 1 else if k = 1 then 2 else 6
def m631 (k : Nat) : Int := if k = 0 then 6 else if k = 1 then 3 else 1
theorem b126_at {k : Nat} (h : k < 3) : ([V.int 1, V.int 2, V.int 6] : List V)[k]? = some (.int (b126 k)) := by
  have : k = 0 ∨ k = 1 ∨ k = 2 := by omega
  rcases this with e | e | e <;> (subst e; rfl)
theorem m631_at {k : Nat} (h : k < 3) : ([V.int 6, V.int 3, V.int 1] : List V)[k]? = some (.int (m631 k)) := by
  have : k = 0 ∨ k = 1 ∨ k = 2 := by omega
  rcases this with e | e | e <;> (subst e; rfl)
theorem b126_ok {k : Nat} : (b126 k = 1 ∨ b126 k = 2 ∨ b126 k = 6) := by
  unfold b126
  split
  · exact .inl rfl
  · split
    · exact .inr (.inl rfl)
    · exact .inr (.inr rfl)
theorem m631_B (k : Nat) : B 3 (m631 k) := by
  unfold m631
  split
  · decide
  · split <;> decide
structure OwnQ (n : Nat) (wd : Int) (k : Nat) (q : Pq) : Prop where
  bot : q.2.1 = b126 k
  len : q.2.2.1 = n
  tB : B (wbd wd + 1) q.1
  xB : ∀ i, i < n → B (rb wd) (q.2.2.2 i)
theorem wbd51 (wd : Int) : wbd wd + 1 ≤ 51 := by unfold wbd; split <;> decide
theorem rb39 (wd : Int) : rb wd ≤ 39 := by unfold rb; split <;> decide
theorem rb_pos (wd : Int) : 0 < rb wd := by unfold rb; split <;> decide
theorem own_sq {n : Nat} {a b : Int} {x : Nat → Int} (hb : b = 1 ∨ b = 2 ∨ b = 6 ∨ b = 3 ∨ b = 18) (ha : B 60 a) (hx : ∀ i, i < n → B 60 (x i)) : SqOk n 18 (a, b, n, x) := fun _ => by
  refine ⟨?_, ?_, ha.mono (by decide), fun i hi => (hx i hi).mono (by decide)⟩
  · show b ∣ 18
    rcases hb with e | e | e | e | e <;> (rw [e]; decide)
  · show B 2500 b
    exact B.mono (n := 2500) (m := 5) (by rcases hb with e | e | e | e | e <;> (rw [e]; decide)) (by decide)
/-- apart from two places -/
def PqD2 (D E : Addr) : Hp → V → Pq → Prop := fun H v q => ∃ t u : Addr, v = .ref t ∧ t ≠ D ∧ u ≠ D ∧ t ≠ E ∧ u ≠ E ∧ H t = some (.lst [.int q.1, .int q.2.1, .ref u]) ∧ H u = some (.lst ((vec q.2.2.1 q.2.2.2).map V.int))
theorem stb_PqD2 {D E : Addr} : StbD D (PqD2 D E) := fun _ _ _ _ _ e ⟨t, u, h1, h2, h3, h4, h5, h6, h7⟩ => ⟨t, u, h1, h2, h3, h4, h5, e _ _ h2 h6, e _ _ h3 h7⟩
theorem rs_mem {α : Type} {R : Hp → V → α → Prop} {H : Hp} {vs : List V} {zs : List α} (h : Rs R H vs zs) {x : V} (hx : x ∈ vs) : ∃ z ∈ zs, R H x z := by
  obtain ⟨i, hi, rfl⟩ := List.getElem_of_mem hx
  have h2 : i < zs.length := by rw [← h.1]; exact hi
  exact ⟨zs[i], List.getElem_mem h2, h.2 i _ _ (List.getElem?_eq_getElem hi) (List.getElem?_eq_getElem h2)⟩
section
variable {P : Program} {w : World} {K : PySem.W.Frag} {mg : Str → Option Value} {base : Heap} {f : Addr} {fd : FuncData} {cF cR : Addr}
def spOwn (K : PySem.W.Frag) : Sp := fun vs H Q _ => ∃ (a : Addr) (ns : List Int) (n : Nat) (wd place : Int), vs = [.ref a, .int (n : Int), .int wd, .int place] ∧ SqL K H a (ns.map V.int) ∧ n ≤ 10 ∧ ∀ H', Same H H' → Q (.bl true) H'
abbrev s__law_own_right : Stmt := top 54
abbrev N__law_own_right : List Str := ["script", "size", "wide", "place", "squares", "k", "part", "table", "papers", "j", "line", "one", "i", "number"]
theorem sc__law_own_right : FnScope N__law_own_right ["script", "size", "wide", "place"] (defScope s__law_own_right) := ⟨rfl, rfl, rfl, by decide +kernel, rfl, by decide +kernel, by decide +kernel⟩
theorem ok__law_own_right (F : Fun K "_law_own_right" "_law_own_right" s__law_own_right f fd) (T : Txt mg) (O : Obs K cF cR) (C__law_cell : Cal P w K mg base 1 "_law_cell" ["script", "k"] (spCell K)) (C__law_draw_part : Cal P w K mg base 2 "_law_draw_part" ["cell", "size", "k", "echelon", "wide"] spPart) (C__law_weighed : Cal P w K mg base 1 "_law_weighed" ["size", "drawn"] spWeighed) (C_Form : CalK P w K mg base 4 "Form" cF 1 ["bottom"] (spForm K cF)) (C__law_papers_right : Cal P w K mg base 8 "_law_papers_right" ["form", "table", "low", "papers"] (spPapers K cF)) : FnOk P w K mg base CX0 9 f fd ["script", "size", "wide", "place"] (spOwn K) := by
  refine F.ok sc__law_own_right (fun vs H Q E h => ?_) (fun cdv A outer s H vs Q E hr h => ?_)
  · obtain ⟨a, ns, n, wd, place, rfl, _⟩ := h
    rfl
  obtain ⟨a, ns, n, wd, place, rfl, ha, hn, q⟩ := h
  refine ⟨_, (pss_cons (ps_set (i := 4) sc__law_own_right.nd rfl (Or.inr rfl) (pe_lst pa_nil))
  (pss_cons (ps_for PassesOwn.never rfl (pi_range1 (by rfl) T.b_range (pa_cons pe_int pa_nil)) (pg_name (i := 5) sc__law_own_right.nd rfl (Or.inl rfl)) (pss_cons (ps_set (i := 6) sc__law_own_right.nd rfl (Or.inl rfl) (pe_cal C__law_draw_part (hr.mono (by omega)) rfl (pa_cons (pe_cal C__law_cell (hr.mono (by omega)) rfl (pa_cons (pv 0) (pa_cons (pe_op op_add pe_int (pv 5)) pa_nil))) (pa_cons (pv 1) (pa_cons (pv 5) (pa_cons pe_int (pa_cons (pv 2) pa_nil)))))))
  (pss_one (ps_expr (pe_bm PySem.F.plainAttrs_list PySem.F.slot_list_append PySem.F.type_list_append mt_append (pv 4) (pa_cons (pe_lst (pa_cons (pe_op op_add pe_int (pe_ix ix_list (pv 6) pe_int (fun _ _ => rfl))) (pa_cons (pe_ix ix_list (pe_lst (pa_cons pe_int (pa_cons pe_int (pa_cons pe_int pa_nil)))) (pv 5) (fun _ _ => rfl)) (pa_cons (pe_ix ix_list (pv 6) pe_int (fun _ _ => rfl)) pa_nil)))) pa_nil))))))
  (pss_cons (ps_set (i := 7) sc__law_own_right.nd rfl (Or.inl rfl) (pe_cal C__law_weighed (hr.mono (by omega)) rfl (pa_cons (pv 1) (pa_cons (pe_lc (own := [("k", 5)]) (g := gName 5) (tt := tYes) (by rfl) sc__law_own_right.nd (pi_range1 (by rfl) T.b_range (pa_cons pe_int pa_nil)) (blkOk_by (N := N__law_own_right) (sc := defScope s__law_own_right) (by decide +kernel)) (fun _ _ _ _ _ => (pg_name (i := 5) sc__law_own_right.nd rfl (Or.inl rfl))) (fun _ _ _ _ _ => pts_nil) (fun _ _ _ _ _ => (pe_lst (pa_cons (pe_ix (ix_listK (K := K) rfl) /-?-/ (pe_ix (ix_listK (K := K) rfl) (pv 4) (pv 5) (fun _ _ => rfl)) pe_int (fun _ _ => rfl)) (pa_cons (pe_op op_mulW (pe_ix (ix_listK (K := K) rfl) /-?-/ (pe_ix (ix_listK (K := K) rfl) (pv 4) (pv 5) (fun _ _ => rfl)) pe_int (fun _ _ => rfl)) (pe_ix (ix_listK (K := K) rfl) (pe_lst (pa_cons pe_int (pa_cons pe_int (pa_cons pe_int pa_nil)))) (pv 5) (fun _ _ => rfl))) pa_nil))))) pa_nil))))
  (pss_cons (ps_set (i := 8) sc__law_own_right.nd rfl (Or.inl rfl) (pe_lst (pa_cons (pv 4) (pa_cons (pe_lc (own := [("one", 11)]) (g := gName 11) (tt := tYes) (by rfl) sc__law_own_right.nd (pi_list (pv 4)) (blkOk_by (N := N__law_own_right) (sc := defScope s__law_own_right) (by decide +kernel)) (fun _ _ _ _ _ => (pg_name (i := 11) sc__law_own_right.nd rfl (Or.inl rfl))) (fun _ _ _ _ _ => pts_nil) (fun _ _ _ _ _ => (pe_lst (pa_cons (pe_op op_mulW pe_int (pe_ix (ix_listK (K := K) rfl) /-?-/ (pv 11) pe_int (fun _ _ => rfl))) (pa_cons (pe_op op_mulW pe_int (pe_ix (ix_listK (K := K) rfl) /-?-/ (pv 11) pe_int (fun _ _ => rfl))) (pa_cons (pe_lc (own := [("number", 13)]) (g := gName 13) (tt := tYes) (by rfl) sc__law_own_right.nd (pi_listK (K := K) rfl (pe_ix (ix_listK (K := K) rfl) /-?-/ (pv 11) pe_int (fun _ _ => rfl))) (blk_nest (N := N__law_own_right) (sc0 := defScope s__law_own_right) rfl (by decide +kernel)) (fun _ _ _ _ _ => (pg_name (i := 13) sc__law_own_right.nd rfl (Or.inl rfl))) (fun _ _ _ _ _ => pts_nil) (fun _ _ _ _ _ => (pe_un un_neg (pv 13)))) pa_nil)))))) (pa_cons (pe_slice sl_list (pv 4) po_none (po_some pe_int)) pa_nil)))))
  (pss_cons (ps_for PassesOwn.never rfl (pi_range1 (by rfl) T.b_range (pa_cons pe_int pa_nil)) (pg_name (i := 9) sc__law_own_right.nd rfl (Or.inr rfl)) (pss_cons (ps_setLc (i := 10) (own := [("i", 12)]) (g := gName 12) (tt := tYes) (by rfl) sc__law_own_right.nd rfl rfl (sw_true rfl rfl rfl (by decide +kernel)) (pi_range1 (by rfl) T.b_range (pa_cons (pv 1) pa_nil)) (blkOk_by (N := N__law_own_right) (sc := defScope s__law_own_right) (by decide +kernel)) (fun _ _ _ _ _ => (pg_name (i := 12) sc__law_own_right.nd rfl (Or.inl rfl))) (fun _ _ _ _ _ => pts_nil) (fun _ _ _ _ _ => (pe_op op_add (pe_ix (ix_listK (K := K) rfl) /-?-/ (pe_ix (ix_listK (K := K) rfl) /-?-/ (pe_ix (ix_listK (K := K) rfl) (pv 4) (pv 9) (fun _ _ => rfl)) pe_int (fun _ _ => rfl)) (pv 12) (fun _ _ => rfl)) (pe_callTy call_int1 (by rfl) T.b_int (by decide +kernel) (pa_cons (pe_cmpR op_eq (pv 12) (pe_op op_mod (pe_callTy call_int1 (by rfl) T.b_int (by decide +kernel) (pa_cons (pv 3) pa_nil)) (pe_callB (call_max2 rfl) (by rfl) T.b_max (by decide +kernel) (pa_cons pe_int (pa_cons (pv 1) pa_nil)))) (nomark _)) pa_nil)))))
  (pss_cons (ps_expr (pe_bm PySem.F.plainAttrs_list PySem.F.slot_list_append PySem.F.type_list_append mt_append (pv 8) (pa_cons (pe_lc (own := [("one", 11)]) (g := gName 11) (tt := tYes) (by rfl) sc__law_own_right.nd (pi_list (pv 4)) (blkOk_by (N := N__law_own_right) (sc := defScope s__law_own_right) (by decide +kernel)) (fun _ _ _ _ _ => (pg_name (i := 11) sc__law_own_right.nd rfl (Or.inl rfl))) (fun _ _ _ _ _ => pts_nil) (fun _ _ _ _ _ => (pe_lst (pa_cons (pe_ix (ix_listK (K := K) rfl) /-?-/ (pv 11) pe_int (fun _ _ => rfl)) (pa_cons (pe_ix (ix_listK (K := K) rfl) /-?-/ (pv 11) pe_int (fun _ _ => rfl)) (pa_cons (pe_callTy (call_list_ofK (K := K) rfl) (by rfl) T.b_list (by decide +kernel) (pa_cons (pe_ix (ix_listK (K := K) rfl) /-?-/ (pv 11) pe_int (fun _ _ => rfl)) pa_nil)) pa_nil)))))) pa_nil)))
  (pss_one (ps_asg (pe_lst (pa_cons (pe_ix ix_list /-?-/ (pe_ix ix_list (pv 4) (pv 9) (fun _ _ => rfl)) pe_int (fun _ _ => rfl)) (pa_cons (pe_ix ix_list /-?-/ (pe_ix ix_list (pv 4) (pv 9) (fun _ _ => rfl)) pe_int (fun _ _ => rfl)) (pa_cons (pv 10) pa_nil)))) (pg_sub (pe_ix ix_list (pv 8) (pe_op op_add pe_int (pv 9)) (fun _ _ => rfl)) (pv 9) set_list))))))
  (pss_cons (ps_expr (pe_bm PySem.F.plainAttrs_list PySem.F.slot_list_append PySem.F.type_list_append mt_append (pv 8) (pa_cons (pe_lc (own := [("k", 5)]) (g := gName 5) (tt := tYes) (by rfl) sc__law_own_right.nd (pi_range1 (by rfl) T.b_range (pa_cons pe_int pa_nil)) (blkOk_by (N := N__law_own_right) (sc := defScope s__law_own_right) (by decide +kernel)) (fun _ _ _ _ _ => (pg_name (i := 5) sc__law_own_right.nd rfl (Or.inl rfl))) (fun _ _ _ _ _ => pts_nil) (fun _ _ _ _ _ => (pe_lst (pa_cons (pe_ix (ix_listK (K := K) rfl) /-?-/ (pe_ix (ix_listK (K := K) rfl) (pv 4) (pe_op op_sub pe_int (pv 5)) (fun _ _ => rfl)) pe_int (fun _ _ => rfl)) (pa_cons (pe_ix (ix_listK (K := K) rfl) /-?-/ (pe_ix (ix_listK (K := K) rfl) (pv 4) (pv 5) (fun _ _ => rfl)) pe_int (fun _ _ => rfl)) (pa_cons (pe_ix (ix_listK (K := K) rfl) /-?-/ (pe_ix (ix_listK (K := K) rfl) (pv 4) (pv 5) (fun _ _ => rfl)) pe_int (fun _ _ => rfl)) pa_nil)))))) pa_nil)))
  (pss_one (ps_ret (pe_cal C__law_papers_right (hr.mono (by omega)) rfl (pa_cons (pe_calK C_Form (hr.mono (by omega)) rfl (pa_cons (pe_lc (own := [("line", 10)]) (g := gName 10) (tt := tYes) (by rfl) sc__law_own_right.nd (pi_list (pv 7)) (blkOk_by (N := N__law_own_right) (sc := defScope s__law_own_right) (by decide +kernel)) (fun _ _ _ _ _ => (pg_name (i := 10) sc__law_own_right.nd rfl (Or.inl rfl))) (fun _ _ _ _ _ => pts_nil) (fun _ _ _ _ _ => (pe_callTy (call_list_ofK (K := K) rfl) (by rfl) T.b_list (by decide +kernel) (pa_cons (pv 10) pa_nil)))) pa_nil) (pk_cons pe_int pk_nil)) (pa_cons (pv 7) (pa_cons pe_int (pa_cons (pv 8) pa_nil))))))))))))), ?_⟩
  refine ⟨line_ge (by decide), fun SQ hSQ => ?_⟩
  refine ⟨3, rfl, by decide, by decide, ?_⟩
  refine for_range (lo := 0) (n := 3) (fun i σ H' => ∃ (v5 v6 : Option V) (us : List V) (qs : List Pq), σ = [some (.ref a), some (.int n), some (.int wd), some (.int place), some (.ref SQ), v5, v6, none, none, none, none, none, none, none] ∧ Same H H' ∧ H' SQ = some (.lst us) ∧ Rs (PqD SQ) H' us qs ∧ qs.length = i ∧ ∀ (k : Nat) (q : Pq), qs[k]? = some q → OwnQ n wd k q)
    ⟨none, none, [], [], rfl, same_new hSQ _, upd_same, Rs.nil, rfl, by simp⟩ ?_ ?_
  · rintro i σ H1 hi ⟨v5, v6, us, qs, rfl, s1, hS, hrs, hl, own⟩
    have hi3 : i < 3 := hi
    have ei : (0 + (i : Int)).toNat = i := by omega
    refine ⟨_, rfl, _, rfl, _, _, rfl, rfl, a, ns, _, rfl, s1.seq ha, by omega, by omega, fun cell => ?_⟩
    refine ⟨_, rfl, _, rfl, _, rfl, cell, 0, wd, n, i, (by show [V.int cell, V.int (n : Int), V.int (0 + (i : Int)), V.int 0, V.int wd] = _; rw [Int.zero_add]), hn, by omega, fun p r x wt H2 hp hr s2 e2 e3 w0 w1 wB xB => ?_⟩
    have hS2 := s2 _ _ hS
    have pS : p ≠ SQ := fun z => (by rw [z, hS] at hp; cases hp)
    have rS : r ≠ SQ := fun z => (by rw [z, hS] at hr; cases hr)
    refine ⟨_, rfl, tyV_of hS2, ?_⟩
    refine ⟨_, rfl, p, _, 1, _, rfl, rfl, SqL.of e2, at_pos (by decide) rfl, _, _, rfl, rfl, three_line, fun l1 hl1 => ?_⟩
    have n1 := same_new hl1 (.lst [V.int 1, V.int 2, V.int 6])
    refine ⟨_, rfl, l1, _, _, _, rfl, rfl, SqL.of upd_same, at_pos (by omega) (by rw [ei]; exact b126_at hi3), _, rfl, p, _, 0, _, rfl, rfl, SqL.of (n1 _ _ e2), at_pos (by decide) rfl, three_line, fun l2 hl2 => ?_⟩
    have n2 := same_new hl2 (.lst [V.int (1 + wt), V.int (b126 i), V.ref r])
    have hS4 := n2 _ _ (n1 _ _ hS2)
    refine ⟨SQ, us, _, rfl, rfl, hS4, ?_, ?_⟩
    · rw [hrs.1, hl]
      exact Nat.lt_of_lt_of_le (by omega : i < 1001) (line_ge (by decide))
    have ne2 : l2 ≠ SQ := fun z => (by rw [z, n1 _ _ hS2] at hl2; cases hl2)
    refine ⟨_, _, us ++ [.ref l2], qs ++ [(1 + wt, b126 i, n, x)], rfl, same_at (s1.trans (s2.trans (n1.trans n2))) hSQ, upd_same, ?_, by rw [List.length_append, hl]; rfl, fun k q' hq' => ?_⟩
    · have h1 : Rs (PqD SQ) (upd _ SQ (.lst (us ++ [.ref l2]))) us qs := hrs.tkD stb_PqD ⟨_, hS⟩ fun b o hb e => by
        rw [upd_ne hb]
        exact n2 _ _ (n1 _ _ (s2 _ _ e))
      refine h1.snoc ⟨l2, r, rfl, ne2, rS, ?_, ?_⟩
      · rw [upd_ne ne2]
        exact upd_same
      · rw [upd_ne rS]
        exact n2 _ _ (n1 _ _ e3)
    · by_cases c : k < qs.length
      · rw [List.getElem?_append_left c] at hq'
        exact own k q' hq'
      · have ek : k = i := by
          have := (List.getElem?_eq_some_iff.mp hq').1
          rw [List.length_append] at this
          simp at this
          omega
        rw [List.getElem?_append_right (by omega), ek, hl, Nat.sub_self] at hq'
        cases hq'
        refine ⟨by rw [ek], rfl, ?_, xB⟩
        have h3 : wt.natAbs < 2 ^ wbd wd := wB
        show (1 + wt).natAbs < 2 ^ (wbd wd + 1)
        rw [Nat.pow_succ]
        omega
  · rintro σ H1 ⟨v5, v6, us, qs, rfl, s1, hS, hrs, hl, own⟩
    obtain ⟨qn, hqn⟩ : ∃ qn : Nat → Pq, qn = fun k => qs.getD k (0, 0, 0, fun _ => 0) := ⟨_, rfl⟩
    have hul : us.length = 3 := by rw [hrs.1, hl]
    have sqk : ∀ k, k < 3 → qs[k]? = some (qn k) ∧ OwnQ n wd k (qn k) ∧ ∃ t u : Addr, us[k]? = some (.ref t) ∧ H1 t = some (.lst [.int (qn k).1, .int (qn k).2.1, .ref u]) ∧ H1 u = some (.lst ((vec n (qn k).2.2.2).map V.int)) := fun k hk => by
      have e1 : qs[k]? = some (qn k) := by
        rw [hqn]
        show _ = some (qs.getD k _)
        rw [List.getD_eq_getElem?_getD, List.getElem?_eq_getElem (by omega)]
        rfl
      have ow := own k _ e1
      have e2 : us[k]? = some (us[k]'(by omega)) := List.getElem?_eq_getElem _
      obtain ⟨t, u, h1, _, _, h4, h5⟩ := hrs.2 k _ _ e2 e1
      rw [ow.len] at h5
      exact ⟨e1, ow, t, u, by rw [e2, h1], h4, h5⟩
    have hrsL : Rs PqL H1 us qs := rs_imp hrs fun _ _ q => q.l
    have w51 := wbd51 wd
    have r39 := rb39 wd
    have r0 := rb_pos wd
    have tB : ∀ k, k < 3 → B 51 (qn k).1 := fun k hk => (sqk k hk).2.1.tB.mono w51
    have xB : ∀ k, k < 3 → ∀ i, i < n → B 39 ((qn k).2.2.2 i) := fun k hk i hi => ((sqk k hk).2.1.xB i hi).mono r39
    refine ⟨_, rfl, 3, rfl, by decide, by decide, fun D hD => ?_⟩
    refine lc_it (walk_range (lo := 0) (n := 3)) (fun i H' => ∃ vs : List V, Same H1 H' ∧ H' D = some (.lst vs) ∧ vs.length = i ∧ ∀ k, k < i → ∃ p u : Addr, vs[k]? = some (.ref p) ∧ p ≠ D ∧ u ≠ D ∧ H' p = some (.lst [.ref u, .int ((qn k).1 * m631 k)]) ∧ H' u = some (.lst ((vec n (qn k).2.2.2).map V.int))) ⟨[], same_new hD _, upd_same, rfl, fun k hk => by omega⟩ (fun _ _ _ _ => trivial) (fun i x H2 H3 hi ⟨vs, s2, hvs, hvl, hrow⟩ yl => ?_) (fun H2 ⟨vs, s2, hvs, hvl, hrow⟩ => ?_)
    · obtain ⟨rfl, rfl⟩ := yl
      have hi3 : i < 3 := hi
      have ei : (0 + (i : Int)).toNat = i := by omega
      obtain ⟨_, ow, t, u, e1, e2, e3⟩ := sqk i hi3
      have ix : atI us (0 + (i : Int)) = some (.ref t) := at_pos (by omega) (by rw [ei, e1])
      have hS2 := s2 _ _ hS
      refine ⟨rfl, lc_yes ⟨_, rfl, _, rfl, SQ, _, _, _, rfl, rfl, SqL.of hS2, ix, t, _, 2, _, rfl, rfl, SqL.of (s2 _ _ e2), at_pos (by decide) rfl, _, rfl, _, rfl, SQ, _, _, _, rfl, rfl, SqL.of hS2, ix, t, _, 0, _, rfl, rfl, SqL.of (s2 _ _ e2), at_pos (by decide) rfl, three_line, fun l1 hl1 => ?_⟩⟩
      have n1 := same_new hl1 (.lst [V.int 6, V.int 3, V.int 1])
      refine ⟨_, rfl, l1, _, _, _, rfl, rfl, SqL.of upd_same, at_pos (by omega) (by rw [ei]; exact m631_at hi3), _, _, rfl, rfl, wmul (tB i hi3) (m631_B i) (by decide) (by decide) (by decide), two_line, fun l2 hl2 => ?_⟩
      have n2 := same_new hl2 (.lst [V.ref u, V.int ((qn i).1 * m631 i)])
      have n12 := n1.trans n2
      have l2D : l2 ≠ D := fun z => (by rw [z, n1 _ _ hvs] at hl2; cases hl2)
      have uD : u ≠ D := ne_free e3 hD
      refine ⟨vs, n12 _ _ hvs, by rw [hvl]; exact Nat.lt_of_lt_of_le (by omega : i < 1001) (line_ge (by decide)), vs ++ [.ref l2], same_at (s2.trans n12) hD, upd_same, by rw [List.length_append, hvl]; rfl, fun k hk => ?_⟩
      by_cases c : k < i
      · obtain ⟨p', u', f1, f2, f3, f4, f5⟩ := hrow k c
        exact ⟨p', u', by rw [List.getElem?_append_left (by omega)]; exact f1, f2, f3, by rw [upd_ne f2]; exact n12 _ _ f4, by rw [upd_ne f3]; exact n12 _ _ f5⟩
      · have ek : k = i := by omega
        rw [ek]
        exact ⟨l2, u, by rw [List.getElem?_append_right (by omega), hvl, Nat.sub_self]; rfl, l2D, uD, by rw [upd_ne l2D]; exact upd_same, by rw [upd_ne uD]; exact n12 _ _ (s2 _ _ e3)⟩
    have prl : PrL H2 D n ((List.range 3).map fun k => ((qn k).2.2.2, (qn k).1 * m631 k)) := by
      refine ⟨vs, hvs, by rw [List.length_map, List.length_range]; exact hvl, fun k p hp => ?_⟩
      have hk : k < 3 := by
        have := (List.getElem?_eq_some_iff.mp hp).1
        rw [List.length_map, List.length_range] at this
        exact this
      rw [List.getElem?_map, List.getElem?_range hk] at hp
      cases hp
      obtain ⟨p', u', f1, f2, f3, f4, f5⟩ := hrow k hk
      exact ⟨p', u', f1, f4, f5⟩
    have psB : ∀ p ∈ (List.range 3).map (fun k => ((qn k).2.2.2, (qn k).1 * m631 k)), B (wbd wd + 1 + 3) p.2 ∧ ∀ j, j < n → B (rb wd) (p.1 j) := fun p hp => by
      obtain ⟨k, hk, rfl⟩ := List.mem_map.mp hp
      have hk3 := List.mem_range.mp hk
      have ow := (sqk k hk3).2.1
      exact ⟨B.mul ow.tB (m631_B k), ow.xB⟩
    have pl3 : ((List.range 3).map fun k => ((qn k).2.2.2, (qn k).1 * m631 k)).length = 3 := by rw [List.length_map, List.length_range]
    generalize (List.range 3).map (fun k => ((qn k).2.2.2, (qn k).1 * m631 k)) = ps at *
    refine ⟨D, n, rb wd, wbd wd + 1 + 3, ps, rfl, prl, hn, by omega, psB, r0, by omega, by omega, by omega, fun tb rs H3 mt htb => ?_⟩
    have tsB : ∀ i j, i < n → j < n → B 97 (wsm ps i j) := fun i j hi hj => by
      refine B.mono (BLs (k := wbd wd + 1 + 3 + rb wd + rb wd) (c := 2) (fun p hp => ?_) (by omega)) ?_
      · obtain ⟨h1, h2⟩ := psB p hp
        exact B.mul (B.mul h1 (h2 i hi)) (h2 j hj)
      · unfold wbd rb
        split <;> decide
    have s3 := s2.trans mt.same
    have s13 := s1.trans s3
    have htab : LTab H3 tb n (wsm ps) := mt.ltab
    clear mt prl psB hvs hrow s2 hD
    have hS3 := s3 _ _ hS
    have hrs3 : Rs PqL H3 us qs := rs_imp hrsL fun _ _ q => q.same s3
    have sq3 : ∀ k, k < 3 → ∃ t u : Addr, us[k]? = some (.ref t) ∧ H3 t = some (.lst [.int (qn k).1, .int (qn k).2.1, .ref u]) ∧ H3 u = some (.lst ((vec n (qn k).2.2.2).map V.int)) := fun k hk => by
      obtain ⟨_, _, t, u, e1, e2, e3⟩ := sqk k hk
      exact ⟨t, u, e1, s3 _ _ e2, s3 _ _ e3⟩
    have okq : ∀ k, k < 3 → SqOk n 18 ((qn k).1, (qn k).2.1, n, (qn k).2.2.2) := fun k hk => by
      obtain ⟨_, ow, _⟩ := sqk k hk
      exact own_sq (by rw [ow.bot]; have := b126_ok (k := k); omega) ((tB k hk).mono (by decide)) fun i hi => (xB k hk i hi).mono (by decide)
    have lqS : LQ n 18 10 H3 (.ref SQ) := by
      refine ⟨SQ, us, rfl, hS3, by omega, fun x hx => ?_⟩
      obtain ⟨k, hk, rfl⟩ := List.getElem_of_mem hx
      obtain ⟨t, u, e1, e2, e3⟩ := sq3 k (by omega)
      rw [List.getElem?_eq_getElem hk] at e1
      rw [Option.some.inj e1]
      exact ⟨((qn k).1, (qn k).2.1, n, (qn k).2.2.2), ⟨t, u, rfl, e2, e3⟩, okq k (by omega)⟩
    refine ⟨_, rfl, _, rfl, SQ, rfl, ⟨_, SqL.of hS3⟩, fun D2 hD2 => ?_⟩
    refine lc_gm (walk_list (K := K) (a := SQ) (xs := us)) (PqD D2) stb_PqD (List.range 3) (by rw [List.length_range]; exact hul) (by rw [List.length_range]; decide) hD2 (fun H' s => s.seq (SqL.of hS3)) (fun _ _ _ _ => ys_at) (fun k => (3 * (qn k).1, 3 * (qn k).2.1, n, fun i => -(qn k).2.2.2 i)) (fun c k x H4 H5 hc s4 s5 yl hdl A B' hA => ?_) (fun H4 l s4 hl4 rz => ?_)
    · obtain ⟨hk, rfl⟩ := in_range hc
      obtain ⟨_, ow, _⟩ := sqk k hk
      obtain ⟨t, u, e1, e2, e3⟩ := sq3 k hk
      have e0 := yl.2
      rw [e1] at e0
      cases e0
      obtain ⟨dl, hdl⟩ := hdl
      have e2' := s5 _ _ e2
      have e3' := s5 _ _ e3
      refine ⟨rfl, lc_yes ⟨_, rfl, t, _, 0, _, rfl, rfl, SqL.of e2', at_pos (by decide) rfl, _, _, rfl, rfl, wmul (m := 2) (n := 51) (by decide) (tB k hk) (by decide) (by decide) (by decide), _, rfl, t, _, 1, _, rfl, rfl, SqL.of e2', at_pos (by decide) rfl, _, _, rfl, rfl, wmul (m := 2) (n := 3) (by decide) (by rw [ow.bot]; rcases b126_ok (k := k) with e | e | e <;> (rw [e]; decide)) (by decide) (by decide) (by decide), ?_⟩⟩
      refine ⟨_, rfl, t, _, 2, _, rfl, rfl, SqL.of e2', at_pos (by decide) rfl, u, rfl, ⟨_, SqL.of e3'⟩, fun D3 hD3 => ?_⟩
      refine lc_m (walk_list (K := K) (a := u) (xs := (vec n (qn k).2.2.2).map V.int)) RI (stb_RI (K := K)) (List.range n) (by rw [vec_lenV, List.length_range]) (by rw [List.length_range]; omega) hD3 (fun H' s => s.seq (SqL.of e3')) (fun _ _ _ _ => ys_at) (fun i => -(qn k).2.2.2 i) (fun c i x H6 H7 hc s6 s7 yl2 A2 B2 hA2 => ?_) (fun H6 l3 s6 hl6 rz2 => ⟨three_line, fun l7 hl7 => ?_⟩)
      · obtain ⟨hi, rfl⟩ := in_range hc
        have e := yl2.2
        rw [vecV_at hi] at e
        cases e
        exact ⟨rfl, lc_yes ⟨_, rfl, _, rfl, hA2 _ _ (fun _ _ h => h) rfl⟩⟩
      · have n7 := same_new hl7 (.lst [V.int (3 * (qn k).1), V.int (3 * (qn k).2.1), V.ref D3])
        refine hA _ _ (s6.trans n7) ⟨l7, D3, rfl, fun z => ?_, fun z => ?_, upd_same, n7 _ _ (by rw [hl6, rz2.ints]; rfl)⟩
        · have := none_of s6 hl7
          rw [z, hdl] at this
          cases this
        · rw [z, hdl] at hD3
          cases hD3
    have lq2 : LQ n 18 10 H4 (.ref D2) := by
      have e0 : l.length = 3 := by rw [rz.1, List.length_map, List.length_range]
      refine ⟨D2, l, rfl, hl4, by omega, fun x hx => ?_⟩
      obtain ⟨q0, hq0, r0⟩ := rs_mem rz hx
      obtain ⟨k, hk, rfl⟩ := List.mem_map.mp hq0
      have hk3 := List.mem_range.mp hk
      have ow := (sqk k hk3).2.1
      refine ⟨_, r0.l, own_sq (by rw [ow.bot]; rcases b126_ok (k := k) with e | e | e <;> (rw [e]; decide)) ((B.mul (by decide : B 2 3) (tB k hk3)).mono (by decide)) fun i hi => ?_⟩
      show (-(qn k).2.2.2 i).natAbs < 2 ^ 60
      rw [Int.natAbs_neg]
      exact (xB k hk3 i hi).mono (by decide)
    refine ⟨_, rfl, _, rfl, SQ, us, rfl, SqL.of (s4 _ _ hS3), fun l5 hl5 => ⟨three_line, fun PA hPA => ?_⟩⟩
    have n5 := same_new hl5 (.lst (cutV us none (some 2)))
    have lq3 : LQ n 18 10 (upd H4 l5 (.lst (cutV us none (some 2)))) (.ref l5) := by
      refine ⟨l5, _, rfl, upd_same, Nat.le_trans len_cut (by omega), fun x hx => ?_⟩
      obtain ⟨a0, us0, e0, h1, _, h3⟩ := lqS
      cases e0
      rw [hS3] at h1
      cases h1
      exact (h3 x (mem_cut hx)).same (s4.trans n5)
    have lqS5 := lqS.same (s4.trans n5)
    have lq25 := lq2.same n5
    have s35 := s4.trans n5
    clear lqS lq2 n5 hl5 rz hl4 hD2
    generalize upd H4 l5 (.lst (cutV us none (some 2))) = HB at *
    have sB := s13.trans s35
    have hSB := s35 _ _ hS3
    have tabB := htab.same s35
    have sqB : ∀ k, k < 3 → ∃ t u : Addr, us[k]? = some (.ref t) ∧ HB t = some (.lst [.int (qn k).1, .int (qn k).2.1, .ref u]) ∧ HB u = some (.lst ((vec n (qn k).2.2.2).map V.int)) := fun k hk => by
      obtain ⟨t, u, e1, e2, e3⟩ := sq3 k hk
      exact ⟨t, u, e1, s35 _ _ e2, s35 _ _ e3⟩
    clear sq3 hS3 htab s35 s13 s4 hrs3 hrsL hrs hS
    have exm : ∃ mx : Int, mx = (if (n : Int) > 1 then (n : Int) else 1) ∧ 0 < mx := ⟨_, rfl, by split <;> omega⟩
    obtain ⟨mx, hmx, mx0⟩ := exm
    refine ⟨3, rfl, by decide, by decide, ?_⟩
    refine for_range (lo := 0) (n := 3) (fun j σ H' => ∃ (v9 v10 : Option V) (ws : List V), σ = [some (.ref a), some (.int n), some (.int wd), some (.int place), some (.ref SQ), v5, v6, some (.ref tb), some (.ref PA), v9, v10, none, none, none] ∧ Same HB H' ∧ H' PA = some (.lst ws) ∧ ws.length = 3 + j ∧ ∀ x ∈ ws, LQD PA n 18 10 H' x)
      ⟨none, none, _, rfl, same_new hPA _, upd_same, rfl, fun x hx => ?_⟩ ?_ ?_
    · have nA : ∀ b o, b ≠ PA → HB b = some o → upd HB PA (.lst [.ref SQ, .ref D2, .ref l5]) b = some o := fun b o _ e => same_new hPA _ _ _ e
      simp only [List.mem_cons, List.not_mem_nil, or_false] at hx
      rcases hx with e | e | e
      · rw [e]; exact (lqS5.apart hPA).but nA
      · rw [e]; exact (lq25.apart hPA).but nA
      · rw [e]; exact (lq3.apart hPA).but nA
    · rintro j σ H7 hj ⟨v9, v10, ws, rfl, s7, hP7, hwl, hws⟩
      have hj3 : j < 3 := hj
      have ej : (0 + (j : Int)).toNat = j := by omega
      obtain ⟨t, u, e1, e2, e3⟩ := sqB j hj3
      have ix : atI us (0 + (j : Int)) = some (.ref t) := at_pos (by omega) (by rw [ej, e1])
      refine ⟨_, rfl, (n : Int), rfl, by omega, by omega, fun L1 hL1 => ?_⟩
      refine lc_m (walk_range (lo := 0) (n := n)) RI (stb_RI (K := K)) (List.range n) (by rw [List.length_range]) (by rw [List.length_range]; omega) hL1 (fun _ _ => trivial) (fun _ _ _ _ => ys_fn) (fun i => (qn j).2.2.2 i + (if decide (V.int (0 + (i : Int)) = V.int (place % mx)) = true then (1 : Int) else 0)) (fun c i x H8 H9 hc s8 s9 yl A B' hA => ?_) (fun H8 l s8 hl8 rz => ?_)
      · obtain ⟨hi, rfl⟩ := in_range hc
        rw [yl.2]
        have sC := s7.trans s9
        refine ⟨rfl, lc_yes ⟨_, rfl, _, rfl, SQ, _, _, _, rfl, rfl, SqL.of (sC _ _ hSB), ix, t, _, 2, _, rfl, rfl, SqL.of (sC _ _ e2), at_pos (by decide) rfl, _, rfl, u, _, _, _, rfl, rfl, SqL.of (sC _ _ e3), ixv hi, _, rfl, _, rfl, .inl ⟨_, rfl, _, rfl, _, _, rfl, ?_⟩⟩⟩
        rw [← hmx]
        exact ⟨_, _, rfl, rfl, mx0, rfl, .inr ⟨_, rfl, _, _, rfl, rfl, hA _ _ (fun _ _ h => h) rfl⟩⟩
      have hL8 : H8 L1 = some (.lst ((vec n fun i => (qn j).2.2.2 i + (if decide (V.int (0 + (i : Int)) = V.int (place % mx)) = true then (1 : Int) else 0)).map V.int)) := by rw [hl8, rz.ints]; rfl
      have lnB : ∀ i, i < n → B 60 ((qn j).2.2.2 i + (if decide (V.int (0 + (i : Int)) = V.int (place % mx)) = true then (1 : Int) else 0)) := fun i hi => by
        have := xB j hj3 i hi
        have h2 : ((qn j).2.2.2 i).natAbs < 2 ^ 39 := this
        show Int.natAbs _ < 2 ^ 60
        split <;> omega
      obtain ⟨ln, hln⟩ : ∃ ln : Nat → Int, ln = fun (i : Nat) => (qn j).2.2.2 i + (if decide (V.int (0 + (i : Int)) = V.int (place % mx)) = true then (1 : Int) else 0) := ⟨_, rfl⟩
      have lnB2 : ∀ i, i < n → B 60 (ln i) := fun i hi => by rw [hln]; exact lnB i hi
      rw [← hln] at hL8
      clear lnB hln rz hl8
      have hP8 := s8 _ _ hP7
      have s78 := s7.trans s8
      have hS8 := s78 _ _ hSB
      have LP : L1 ≠ PA := fun z => (by rw [z, hP7] at hL1; cases hL1)
      refine ⟨_, rfl, tyV_of hP8, _, rfl, SQ, rfl, ⟨_, SqL.of hS8⟩, fun LN hLN => ?_⟩
      refine lc_gm (walk_list (K := K) (a := SQ) (xs := us)) (PqD2 LN PA) stb_PqD2 (List.range 3) (by rw [List.length_range]; exact hul) (by rw [List.length_range]; decide) hLN (fun H' s => s.seq (SqL.of hS8)) (fun _ _ _ _ => ys_at) (fun k => ((qn k).1, (qn k).2.1, n, (qn k).2.2.2)) (fun c k x H9 H10 hc s9 s10 yl hdl A B' hA => ?_) (fun H9 l9 s9 hl9 rz => ?_)
      · obtain ⟨hk, rfl⟩ := in_range hc
        obtain ⟨t, u, e1, e2, e3⟩ := sqB k hk
        have e0 := yl.2
        rw [e1] at e0
        cases e0
        obtain ⟨dl, hdl⟩ := hdl
        have sD := s78.trans s10
        have hP10 := s10 _ _ hP8
        refine ⟨rfl, lc_yes ⟨_, rfl, t, _, 0, _, rfl, rfl, SqL.of (sD _ _ e2), at_pos (by decide) rfl, _, rfl, t, _, 1, _, rfl, rfl, SqL.of (sD _ _ e2), at_pos (by decide) rfl, _, rfl, t, _, 2, _, rfl, rfl, SqL.of (sD _ _ e2), at_pos (by decide) rfl, u, _, rfl, .inl (SqL.of (sD _ _ e3)), fun l2 hl2 => ⟨three_line, fun l3 hl3 => ?_⟩⟩⟩
        have n2 := same_new hl2 (.lst ((vec n (qn k).2.2.2).map V.int))
        have n3 := same_new hl3 (.lst [V.int (qn k).1, V.int (qn k).2.1, V.ref l2])
        have h3' := none_of n2 hl3
        exact hA _ _ (n2.trans n3) ⟨l3, l2, rfl, fun z => (by rw [z, hdl] at h3'; cases h3'), fun z => (by rw [z, hdl] at hl2; cases hl2), fun z => (by rw [z, hP10] at h3'; cases h3'), fun z => (by rw [z, hP10] at hl2; cases hl2), upd_same, n3 _ _ upd_same⟩
      have hl93 : l9.length = 3 := by rw [rz.1, List.length_map, List.length_range]
      have hP9 := s9 _ _ hP8
      have LNP : LN ≠ PA := fun z => (by rw [z, hP8] at hLN; cases hLN)
      refine ⟨PA, ws, _, rfl, rfl, hP9, Nat.lt_of_lt_of_le (by omega : _ < 1001) (line_ge (by decide)), ?_⟩
      have s79 := s78.trans s9
      have sA10 := same_at (o := .lst (ws ++ [.ref LN])) s79 hPA
      refine ⟨_, rfl, _, rfl, SQ, _, _, _, rfl, rfl, SqL.of (sA10 _ _ hSB), ix, t, _, 0, _, rfl, rfl, SqL.of (sA10 _ _ e2), at_pos (by decide) rfl, _, rfl, _, rfl, SQ, _, _, _, rfl, rfl, SqL.of (sA10 _ _ hSB), ix, t, _, 1, _, rfl, rfl, SqL.of (sA10 _ _ e2), at_pos (by decide) rfl, _, rfl, three_line, fun t1 ht1 => ?_⟩
      have n11 := same_new ht1 (.lst [V.int (qn j).1, V.int (qn j).2.1, V.ref L1])
      have hP11 : upd (upd H9 PA (.lst (ws ++ [.ref LN]))) t1 (.lst [V.int (qn j).1, V.int (qn j).2.1, V.ref L1]) PA = some (.lst (ws ++ [.ref LN])) := n11 _ _ upd_same
      have hN11 : upd (upd H9 PA (.lst (ws ++ [.ref LN]))) t1 (.lst [V.int (qn j).1, V.int (qn j).2.1, V.ref L1]) LN = some (.lst l9) := n11 _ _ (by rw [upd_ne LNP]; exact hl9)
      refine ⟨_, rfl, _, rfl, _, _, rfl, rfl, PA, _, _, _, rfl, rfl, SqL.of hP11, at_pos (by omega) (by rw [show (3 + (0 + (j : Int))).toNat = ws.length by omega, List.getElem?_append_right (Nat.le_refl _), Nat.sub_self]; rfl), _, rfl, LN, _, _, j, rfl, rfl, hN11, by rw [hl93]; unfold ixN; rw [if_pos (by omega), if_pos (by omega)]; congr 1, ?_⟩
      have t1P : t1 ≠ PA := fun z => (by rw [z, upd_same] at ht1; cases ht1)
      have t1N : t1 ≠ LN := fun z => (by rw [z, upd_ne LNP, hl9] at ht1; cases ht1)
      have L1N : L1 ≠ LN := ne_free hL8 hLN
      have up : ∀ {b : Addr} {o : HO}, b ≠ PA → b ≠ LN → H9 b = some o → upd (upd (upd H9 PA (.lst (ws ++ [.ref LN]))) t1 (.lst [V.int (qn j).1, V.int (qn j).2.1, V.ref L1])) LN (.lst (l9.set j (.ref t1))) b = some o := fun {b o} h1 h2 e => by
        rw [upd_ne h2]
        exact n11 _ _ (by rw [upd_ne h1]; exact e)
      refine ⟨_, _, ws ++ [.ref LN], rfl, same_at (sA10.trans n11) (none_of s78 hLN), by rw [upd_ne (Ne.symm LNP)]; exact hP11, by rw [List.length_append, hwl]; rfl, fun x hx => ?_⟩
      rcases List.mem_append.mp hx with h | h
      · exact (hws x h).but fun b o hb e => up hb (ne_free (s8 _ _ e) hLN) (s9 _ _ (s8 _ _ e))
      · rw [List.mem_singleton.mp h]
        refine ⟨LN, _, rfl, LNP, upd_same, by rw [List.length_set]; omega, fun y hy => ?_⟩
        rcases List.mem_or_eq_of_mem_set hy with m | m
        · obtain ⟨q0, hq0, t', u', rfl, f1, f2, f3, f4, f5, f6⟩ := rs_mem rz m
          obtain ⟨k, hk, rfl⟩ := List.mem_map.mp hq0
          exact ⟨_, ⟨t', u', rfl, f3, f4, up f3 f1 f5, up f4 f2 f6⟩, okq k (List.mem_range.mp hk)⟩
        · rw [m]
          have ow := (sqk j hj3).2.1
          exact ⟨((qn j).1, (qn j).2.1, n, ln), ⟨t1, L1, rfl, t1P, LP, by rw [upd_ne t1N]; exact upd_same, up LP L1N (s9 _ _ hL8)⟩, own_sq (by rw [ow.bot]; have := b126_ok (k := j); omega) ((tB j hj3).mono (by decide)) lnB2⟩
    · rintro σ H7 ⟨v9, v10, ws, rfl, s7, hP7, hwl, hws⟩
      have hS7 := s7 _ _ hSB
      refine ⟨_, rfl, tyV_of hP7, 3, rfl, by decide, by decide, fun LF hLF => ?_⟩
      refine lc_gm (walk_range (lo := 0) (n := 3)) (PqD2 LF PA) stb_PqD2 (List.range 3) (by rw [List.length_range]) (by rw [List.length_range]; decide) hLF (fun _ _ => trivial) (fun _ _ _ _ => ys_fn) (fun k => ((qn (2 - k)).1, (qn k).2.1, n, (qn k).2.2.2)) (fun c k x H9 H10 hc s9 s10 yl hdl A B' hA => ?_) (fun H9 l9 s9 hl9 rz => ?_)
      · obtain ⟨hk, rfl⟩ := in_range hc
        rw [yl.2]
        obtain ⟨dl, hdl⟩ := hdl
        obtain ⟨t, u, e1, e2, e3⟩ := sqB k hk
        obtain ⟨t2, u2, f1, f2, f3⟩ := sqB (2 - k) (by omega)
        have sD := s7.trans s10
        have hP10 := s10 _ _ hP7
        have ix : atI us (0 + (k : Int)) = some (.ref t) := at_pos (by omega) (by rw [show (0 + (k : Int)).toNat = k by omega, e1])
        have ix2 : atI us (2 - (0 + (k : Int))) = some (.ref t2) := at_pos (by omega) (by rw [show (2 - (0 + (k : Int))).toNat = 2 - k by omega, f1])
        refine ⟨rfl, lc_yes ⟨_, rfl, _, rfl, _, _, rfl, rfl, SQ, _, _, _, rfl, rfl, SqL.of (sD _ _ hSB), ix2, t2, _, 0, _, rfl, rfl, SqL.of (sD _ _ f2), at_pos (by decide) rfl, _, rfl, _, rfl, SQ, _, _, _, rfl, rfl, SqL.of (sD _ _ hSB), ix, t, _, 1, _, rfl, rfl, SqL.of (sD _ _ e2), at_pos (by decide) rfl, _, rfl, _, rfl, SQ, _, _, _, rfl, rfl, SqL.of (sD _ _ hSB), ix, t, _, 2, _, rfl, rfl, SqL.of (sD _ _ e2), at_pos (by decide) rfl, three_line, fun l3 hl3 => ?_⟩⟩
        have n3 := same_new hl3 (.lst [V.int (qn (2 - k)).1, V.int (qn k).2.1, V.ref u])
        have uLF : u ≠ LF := ne_free (s7 _ _ e3) hLF
        exact hA _ _ n3 ⟨l3, u, rfl, fun z => (by rw [z, hdl] at hl3; cases hl3), uLF, fun z => (by rw [z, hP10] at hl3; cases hl3), ne_free e3 hPA, upd_same, n3 _ _ (sD _ _ e3)⟩
      have hP9 := s9 _ _ hP7
      have LFP : LF ≠ PA := fun z => (by rw [z, hP7] at hLF; cases hLF)
      refine ⟨PA, ws, _, rfl, rfl, hP9, Nat.lt_of_lt_of_le (by omega : _ < 1001) (line_ge (by decide)), ?_⟩
      have s79 := s7.trans s9
      have sA := same_at (o := .lst (ws ++ [.ref LF])) s79 hPA
      have pq : PQ n 18 1000 (upd H9 PA (.lst (ws ++ [.ref LF]))) (.ref PA) := by
        refine ⟨PA, _, rfl, upd_same, by rw [List.length_append, hwl]; show 3 + 3 + 1 ≤ 1000; decide, fun x hx => ?_⟩
        rcases List.mem_append.mp hx with h | h
        · exact ((hws x h).but fun b o hb e => by rw [upd_ne hb]; exact s9 _ _ e).lq.mono (by decide)
        · rw [List.mem_singleton.mp h]
          refine ⟨LF, l9, rfl, by rw [upd_ne LFP]; exact hl9, by rw [rz.1, List.length_map, List.length_range]; decide, fun y hy => ?_⟩
          obtain ⟨q0, hq0, t', u', rfl, f1, f2, f3, f4, f5, f6⟩ := rs_mem rz hy
          obtain ⟨k, hk, rfl⟩ := List.mem_map.mp hq0
          have hk3 := List.mem_range.mp hk
          have ow := (sqk k hk3).2.1
          exact ⟨_, ⟨t', u', rfl, by rw [upd_ne f3]; exact f5, by rw [upd_ne f4]; exact f6⟩, own_sq (by rw [ow.bot]; have := b126_ok (k := k); omega) ((tB (2 - k) (by omega)).mono (by decide)) fun i hi => (xB k hk3 i hi).mono (by decide)⟩
      clear rz hl9 hws hP7 hP9 hS7
      generalize upd H9 PA (.lst (ws ++ [.ref LF])) = HC at *
      have tabC := tabB.same sA
      obtain ⟨vs, ha1, hvl1, row⟩ := tabC.at
      refine ⟨_, rfl, tb, rfl, ⟨_, SqL.of ha1⟩, fun LD hLD => ?_⟩
      refine lc_gm (walk_list (K := K) (a := tb) (xs := vs)) (RL LD) stb_RL (List.range n) (by rw [List.length_range]; exact hvl1) (by rw [List.length_range]; omega) hLD (fun H' s => s.seq (SqL.of ha1)) (fun _ _ _ _ => ys_at) (fun i => vec n (wsm ps i)) (fun c i x H10 H11 hc s10 s11 yl hdl A B' hA => ?_) (fun H10 l10 s10 hl10 rz => ?_)
      · obtain ⟨hi, rfl⟩ := in_range hc
        obtain ⟨p, e1, e2⟩ := row i hi
        have e0 := yl.2
        rw [e1] at e0
        cases e0
        obtain ⟨dl, hdl⟩ := hdl
        exact ⟨rfl, lc_yes ⟨_, rfl, p, _, rfl, .inl (SqL.of (s11 _ _ e2)), fun L2 hL2 => hA _ _ (same_new hL2 _) ⟨L2, rfl, fun z => (by rw [z, hdl] at hL2; cases hL2), upd_same⟩⟩⟩
      · have tab := LTab.of hl10 rz
        refine ⟨rfl, rfl, fun x dx2 hx hdx hne => ?_⟩
        refine ⟨x, dx2, .ref LD, mat n (wsm ps), 6, rfl, upd_same, tab.sn.same (two_new hx hdx), mat_sqr, mat_sym (fun i j _ _ => wsm_sym ps i j), by rw [mat_len]; omega, by decide, (by decide : (6 : Int).natAbs < 2 ^ 9000), fun H12 hF hbut => ⟨rfl, ?_⟩⟩
        rw [mat_len, dm_mat] at hF
        have sZ := s10.trans (made_same hx hdx hbut)
        obtain ⟨ap, us2, pss, e0, hap, hpap, hpl, hpok⟩ := (pq.same sZ).papers
        cases e0
        refine ⟨_, rfl, _, rfl, x, tb, PA, n, wsm ps, 6, 18, us2, pss, rfl, hF, tabC.same sZ, fun i j hi hj => ⟨wsm_sym ps i j, tsB i j hi hj⟩, by decide, by decide, hn, hap, hpap, by decide, by decide, hpl, hpok, fun H13 s13 => q H13 (sB.trans (sA.trans (sZ.trans s13)))⟩
end
end P01

set_option exponentiation.threshold 3000
namespace P01
open PySem PySem.Spec PyProof.Rows L2 SX EX WK
/-! ### the whole law -/
theorem nums_at {n : Nat} (hn : n ≤ 10) : El.tb (fun k => El.bnd (2 ^ 96) (k + 1)) n n < 2 ^ 7900 ∧ (El.bnd (2 ^ 96) n).natAbs < 2 ^ 1000 ∧ (El.pb (2 ^ 96) n).natAbs < 2 ^ 6200 := by
  have h1 := List.all_eq_true.mp El.nums n (List.mem_range.mpr (by omega))
  have h2 := List.all_eq_true.mp El.nums2 n (List.mem_range.mpr (by omega))
  rw [Bool.and_eq_true] at h1
  exact ⟨of_decide_eq_true h1.1, of_decide_eq_true h1.2, of_decide_eq_true h2⟩
theorem cut_sym {n : Nat} {g : Nat → Nat → Int} {k : Nat} (sg : SymB k g) : SymB k (cutT n g) := SymB.cut (fun i j _ _ => sg.sym i j) fun i j _ _ => sg.bd i j
theorem cut_out {n : Nat} {g : Nat → Nat → Int} : El.Out n (cutT n g) := fun i j h => by
  unfold cutT
  rw [if_neg (by omega)]
/-- the form of a drawn table -/
abbrev GF (n : Nat) (R : Nat → Nat → Int) (low : Int) : Int := gf low (mat n R).flatten
theorem rt_of {n : Nat} {g : Nat → Nat → Int} {low : Int} (hn : n ≤ 10) (sg : SymB 96 g) (l0 : 0 < low) (lB : B 70 low) : RT n 1000 (2 ^ 96) low (low / GF n (cutT n g) low) (fun i j => cutT n g i j / GF n (cutT n g) low) (cutT n g) := by
  have sc := cut_sym (n := n) sg
  have g0 := gf_pos l0 (mat n (cutT n g)).flatten
  have gd := gf_dvd (b := low) (mat n (cutT n g)).flatten
  obtain ⟨n1, n2, n3⟩ := nums_at hn
  refine ⟨⟨hn, ⟨fun i j => by rw [sc.sym i j], fun i j hj => by rw [cut_out i j (.inr hj), Int.zero_ediv]⟩, by decide, fun i j => ?_, n2, by decide, by decide, n1⟩, by decide, n3, cut_out, sc.sym, fun i j => (sc.bd i j).mono (by decide), ?_, B.div g0 lB, l0, lB.mono (by decide), fun i j => ?_⟩
  · have h : (cutT n g i j / GF n (cutT n g) low).natAbs < 2 ^ 96 := B.div g0 (sc.bd i j)
    omega
  · exact Int.lt_of_lt_of_le (by decide : (0 : Int) < 1) (quot_pos g0 gd.1 (by omega))
  · by_cases c : i < n ∧ j < n
    · show cutT n g i j * (low / GF n (cutT n g) low) = cutT n g i j / GF n (cutT n g) low * low
      exact (cross g0 (gd.2 _ (mat_mem c.1 c.2)) gd.1).symm
    · show cutT n g i j * _ = cutT n g i j / _ * low
      rw [cut_out i j (by omega), Int.zero_ediv, Int.zero_mul, Int.zero_mul]
section
variable {P : Program} {w : World} {K : PySem.W.Frag} {mg : Str → Option Value} {base : Heap} {f : Addr} {fd : FuncData} {cF cR : Addr}
theorem mk_form {H : Hp} {x dx : Addr} {v : V} {n : Nat} {R : Nat → Nat → Int} {low : Int} {Q : VK} {E : XK} (hx : H x = none) (hdx : H dx = none) (sn : Sn K H v (tdm (mat n R))) (hs : ∀ i j, R i j = R j i) (hn : n ≤ 10) (l0 : 0 < low) (lB : B 9000 low) (q : ∀ H3, Same H H3 → FAt K H3 cF x n R low → Q .non H3) :
    spForm K cF [.ref x, v, .int low] (upd (upd H dx (.own x)) x (.ins cF dx [])) Q E := by
  refine ⟨x, dx, v, mat n R, low, rfl, upd_same, sn.same (two_new hx hdx), mat_sqr, mat_sym (fun i j _ _ => hs i j), by rw [mat_len]; omega, l0, lB, fun H3 hF hbut => ?_⟩
  rw [mat_len, dm_mat] at hF
  exact q H3 (made_same hx hdx hbut) hF
theorem Cal.imp {k : Nat} {x : Str} {ps : List Str} {sp sp2 : Sp} (C : Cal P w K mg base k x ps sp) (h : ∀ vs H Q E, sp2 vs H Q E → sp vs H Q E) : Cal P w K mg base k x ps sp2 := by
  obtain ⟨f, fd, F, h1, h2, h3⟩ := C
  exact ⟨f, fd, ⟨fun vs H Q E hs => F.len vs H Q E (h vs H Q E hs), fun A outer s H args us vs Q E a1 a2 a3 a4 hs => F.run A outer s H args us vs Q E a1 a2 a3 a4 (h vs H Q E hs)⟩, h1, h2, h3⟩
/-- judge at a form of this law -/
def spJudge2 (K : PySem.W.Frag) (cF cR : Addr) : Sp := fun vs H Q _ => ∃ (p : Addr) (n w : Nat) (bd low b : Int) (M R : Nat → El.Row), vs = [.ref p] ∧ RT n w bd low b M R ∧ FormAt K H cF p n (mat n M) b ∧ ∀ r H', Same H H' → AnsAt K H' cR r n b M → Q (.ref r) H'
theorem judge_imp (vs : List V) (H : Hp) (Q : VK) (E : XK) (h : spJudge2 K cF cR vs H Q E) : spJudge K cF cR vs H Q E := by
  obtain ⟨p, n, w, bd, low, b, M, R, rfl, rt, hF, q⟩ := h
  exact ⟨p, n, w, b, bd, M, rfl, hF, rt.jo, rt.b0, rt.bB.mono (by decide), fun r t us H' S d B' ps s run hj ht hrs => q r H' s (.inl ⟨t, us, S, d, B', ps, run, hj, ht, hrs⟩), fun r t z H' k S d B' ps x s hk run bad hj ht hz => q r H' s (.inr ⟨t, z, k, S, d, B', ps, x, hk, run, bad, hj, ht, hz⟩)⟩
/-- what a judgement's squares are for papers -/
theorem ans_papers {H : Hp} {p : Addr} {n w : Nat} {bd low b : Int} {M R : Nat → El.Row} (rt : RT n w bd low b M R) (h : AnsAt K H cR p n b M) : ∃ (t : Addr) (us : List V) (qs : List Sq3) (hb : Bool) (pt : V) (W : Int), JAt H cR p hb (.ref t) pt ∧ SqT K H t us ∧ Rs (Told K n) H us qs ∧ qs.length ≤ 100 ∧ (∀ q ∈ qs, SqOk n W (asq n q)) ∧ 3 ∣ W ∧ 7 ∣ W ∧ 0 < W ∧ B 6400 W := by
  rcases h with ⟨t, us, S, d, B', ps, run, hj, ht, hrs⟩ | ⟨t, z, k, S, d, B', ps, x, hk, run, bad, hj, ht, hz⟩
  · obtain ⟨wp0, wpB, w3, w7⟩ := wprod_ok rt.jo rt.pb rt.b0 rt.bB run
    refine ⟨t, us, ps.reverse.map (ech n b), true, _, wprod b ps, hj, ht, hrs, ?_, fun q hq => (ech_good rt.jo rt.b0 rt.bB run (asq n q) (List.mem_map.mpr ⟨q, hq, rfl⟩)).1, w3, w7, wp0, wpB⟩
    have := run.many
    rw [← run.leads, List.length_map] at this
    have := rt.jo.n10
    rw [List.length_map, List.length_reverse]
    omega
  · exact ⟨t, [], [], false, _, 21, hj, ht, Rs.nil, by decide, by simp, by decide, by decide, by decide, by decide⟩
/-- rows as tuples -/
def TR (K : PySem.W.Frag) (n : Nat) : Hp → V → (Nat → Int) → Prop := fun H v r => ∃ p, v = .ref p ∧ TV K H p n r
theorem stb_TR {K : PySem.W.Frag} {n : Nat} : Stb K (TR K n) := fun _ _ _ _ s ⟨p, h1, h2⟩ => ⟨p, h1, s _ _ h2⟩
theorem tr_sn {K : PySem.W.Frag} {H : Hp} {n : Nat} {g : Nat → Nat → Int} {l : List V} (h : Rs (TR K n) H l ((List.range n).map g)) : SnAll K H l ((mat n g).map fun r => Td.tup (r.map Td.int)) := by
  refine snall_of (by rw [h.1, List.length_map, List.length_map, List.length_range, mat_len]) fun i v t hv ht => ?_
  have hi : i < n := by
    have h1 := (List.getElem?_eq_some_iff.mp hv).1
    rw [h.1, List.length_map, List.length_range] at h1
    exact h1
  rw [List.getElem?_map, mat_at hi] at ht
  cases ht
  obtain ⟨p, rfl, hp⟩ := h.2 i v (g i) hv (by rw [List.getElem?_map, List.getElem?_range hi]; rfl)
  exact .tup hp (FzAll.of_ints _).sn
def sizesL : List V := [V.int 2, V.int 1, V.int 3, V.int 2, V.int 3, V.int 4, V.int 2, V.int 3, V.int 5, V.int 2, V.int 3, V.int 6, V.int 4, V.int 1, V.int 0, V.int 8, V.int 10, V.int 7, V.int 9]
theorem sizes_at {j : Nat} (h : j < 19) : ∃ n : Nat, sizesL[j]? = some (.int (n : Int)) ∧ n ≤ 10 := by
  have e : ∀ j, j < 19 → ∃ n, n < 11 ∧ sizesL[j]? = some (.int ((n : Nat) : Int)) := by decide +kernel
  obtain ⟨n, h1, h2⟩ := e j h
  exact ⟨n, h2, by omega⟩
def kindsL : List V := [V.int 0, V.int 0, V.int 1, V.int 7, V.int 2, V.int 2, V.int 4, V.int 4, V.int 5, V.int 5, V.int 6, V.int 6, V.int 2, V.int 8, V.int 9, V.int 9]
theorem kinds_at {j : Nat} (h : j < 16) : ∃ z : Int, kindsL[j]? = some (.int z) := by
  have e : ∀ j, j < 16 → ∃ n, n < 11 ∧ kindsL[j]? = some (.int ((n : Nat) : Int)) := by decide +kernel
  obtain ⟨n, _, h2⟩ := e j h
  exact ⟨_, h2⟩
theorem lows_at {j : Nat} (h : j < 9) : ∃ z : Int, ([V.int 1, V.int 1, V.int 2, V.int 3, V.int 6, V.int 12, V.int 7, V.int 1000, V.int (10 ^ (20 : Int).toNat)] : List V)[j]? = some (.int z) ∧ 0 < z ∧ B 67 z := by
  have : j = 0 ∨ j = 1 ∨ j = 2 ∨ j = 3 ∨ j = 4 ∨ j = 5 ∨ j = 6 ∨ j = 7 ∨ j = 8 := by omega
  rcases this with e | e | e | e | e | e | e | e | e <;> (subst e; exact ⟨_, rfl, by decide, by decide⟩)
theorem dels_at {j : Nat} (h : j < 5) : ∃ z : Int, ([V.int (-1), V.int 1, V.int (-2), V.int 7, V.int (-1000)] : List V)[j]? = some (.int z) ∧ B 10 z := by
  have : j = 0 ∨ j = 1 ∨ j = 2 ∨ j = 3 ∨ j = 4 := by omega
  rcases this with e | e | e | e | e <;> (subst e; exact ⟨_, rfl, by decide⟩)
def zsS : List Int := [19, 16, 7, 9, 2, 2, 5]
theorem zsS_ok : ∀ z ∈ zsS, 0 < z ∧ z.natAbs < 2 ^ 2000 := szs (by decide +kernel)
def zsR : List Int := [10, 10, 12, 5, 10, 10, 5]
theorem zsR_ok : ∀ z ∈ zsR, 0 < z ∧ z.natAbs < 2 ^ 2000 := szs (by decide +kernel)
theorem dig7 {ns zs : List Int} (hz : zs.length = 7) (hd : Dig ns zs) : ∃ y : Nat → Int, ns = vec 7 y ∧ ∀ i z, zs[i]? = some z → 0 ≤ y i ∧ y i < z := by
  refine ⟨fun i => ns.getD i 0, vec_of (by rw [hd.len, hz]), fun i z h => ?_⟩
  obtain ⟨x, h1, h2, h3⟩ := hd.get h
  show 0 ≤ ns.getD i 0 ∧ ns.getD i 0 < z
  rw [List.getD_eq_getElem?_getD, h1]
  exact ⟨h2, h3⟩
def spLaw (K : PySem.W.Frag) : Sp := fun vs H Q _ => ∃ (a : Addr) (ns : List Int), vs = [.ref a] ∧ SqL K H a (ns.map V.int) ∧ ns.length ≤ 63 ∧ ∀ H', Q (.bl true) H'
abbrev s_law : Stmt := top 56
abbrev N_law : List Str := ["script", "shape", "size", "row", "kind", "table", "low", "form", "kept", "answer", "other", "i", "j", "times", "lines", "again", "line", "number"]
theorem sc_law : FnScope N_law ["script"] (defScope s_law) := ⟨rfl, rfl, rfl, by decide +kernel, rfl, by decide +kernel, by decide +kernel⟩
theorem ok_law (F : Fun K "law" "law" s_law f fd) (T : Txt mg) (O : Obs K cF cR) (C__law_cell : Cal P w K mg base 1 "_law_cell" ["script", "k"] (spCell K)) (C__law_digits : Cal P w K mg base 1 "_law_digits" ["cell", "sizes"] (spDigits K)) (C__law_draw_table : Cal P w K mg base 3 "_law_draw_table" ["script", "at", "size", "kind", "wide", "row"] (spDrawT K)) (C_Form : CalK P w K mg base 4 "Form" cF 1 ["bottom"] (spForm K cF)) (C_judge : Cal P w K mg base 4 "judge" ["form"] (spJudge K cF cR)) (C__law_judged : Cal P w K mg base 4 "_law_judged" ["answer", "table", "low"] (spJudged K cR)) (C__law_told_papers : Cal P w K mg base 1 "_law_told_papers" ["squares", "size", "place"] (spToldP K)) (C__law_papers_right : Cal P w K mg base 8 "_law_papers_right" ["form", "table", "low", "papers"] (spPapers K cF)) (C__law_own_right : Cal P w K mg base 9 "_law_own_right" ["script", "size", "wide", "place"] (spOwn K)) (C__law_alike : Cal P w K mg base 1 "_law_alike" ["one", "two"] (spAlike K cR)) : FnOk P w K mg base CX0 12 f fd ["script"] (spLaw K) := by
  refine F.ok sc_law (fun vs H Q E h => ?_) (fun cdv A outer s H vs Q E hr h => ?_)
  · obtain ⟨a, ns, rfl, _⟩ := h
    rfl
  obtain ⟨a, ns, rfl, ha, hnl, q⟩ := h
  replace C_judge := C_judge.imp judge_imp
  refine ⟨_, (pss_cons (ps_set (i := 1) sc_law.nd rfl (Or.inl rfl) (pe_cal C__law_digits (hr.mono (by omega)) rfl (pa_cons (pe_cal C__law_cell (hr.mono (by omega)) rfl (pa_cons (pv 0) (pa_cons pe_int pa_nil))) (pa_cons (pe_lst (pa_cons pe_int (pa_cons pe_int (pa_cons pe_int (pa_cons pe_int (pa_cons pe_int (pa_cons pe_int (pa_cons pe_int pa_nil)))))))) pa_nil))))
  (pss_cons (ps_set (i := 2) sc_law.nd rfl (Or.inl rfl) (pe_ix ix_list (pe_lst (pa_cons pe_int (pa_cons pe_int (pa_cons pe_int (pa_cons pe_int (pa_cons pe_int (pa_cons pe_int (pa_cons pe_int (pa_cons pe_int (pa_cons pe_int (pa_cons pe_int (pa_cons pe_int (pa_cons pe_int (pa_cons pe_int (pa_cons pe_int (pa_cons pe_int (pa_cons pe_int (pa_cons pe_int (pa_cons pe_int (pa_cons pe_int pa_nil)))))))))))))))))))) (pe_ix ix_list (pv 1) pe_int (fun _ _ => rfl)) (fun _ _ => rfl)))
  (pss_cons (ps_set (i := 3) sc_law.nd rfl (Or.inl rfl) (pe_cal C__law_digits (hr.mono (by omega)) rfl (pa_cons (pe_cal C__law_cell (hr.mono (by omega)) rfl (pa_cons (pv 0) (pa_cons pe_int pa_nil))) (pa_cons (pe_lst (pa_cons pe_int (pa_cons pe_int (pa_cons pe_int (pa_cons pe_int (pa_cons pe_int (pa_cons pe_int (pa_cons pe_int pa_nil)))))))) pa_nil))))
  (pss_cons (ps_set (i := 4) sc_law.nd rfl (Or.inl rfl) (pe_ix ix_list (pe_lst (pa_cons pe_int (pa_cons pe_int (pa_cons pe_int (pa_cons pe_int (pa_cons pe_int (pa_cons pe_int (pa_cons pe_int (pa_cons pe_int (pa_cons pe_int (pa_cons pe_int (pa_cons pe_int (pa_cons pe_int (pa_cons pe_int (pa_cons pe_int (pa_cons pe_int (pa_cons pe_int pa_nil))))))))))))))))) (pe_ix ix_list (pv 1) pe_int (fun _ _ => rfl)) (fun _ _ => rfl)))
  (pss_cons (ps_set (i := 5) sc_law.nd rfl (Or.inl rfl) (pe_cal C__law_draw_table (hr.mono (by omega)) rfl (pa_cons (pv 0) (pa_cons pe_int (pa_cons (pv 2) (pa_cons (pv 4) (pa_cons (pe_ix ix_list (pv 1) pe_int (fun _ _ => rfl)) (pa_cons (pv 3) pa_nil))))))))
  (pss_cons (ps_set (i := 6) sc_law.nd rfl (Or.inl rfl) (pe_ix ix_list (pe_lst (pa_cons pe_int (pa_cons pe_int (pa_cons pe_int (pa_cons pe_int (pa_cons pe_int (pa_cons pe_int (pa_cons pe_int (pa_cons pe_int (pa_cons (pe_op op_pow pe_int pe_int) pa_nil)))))))))) (pe_ix ix_list (pv 1) pe_int (fun _ _ => rfl)) (fun _ _ => rfl)))
  (pss_cons (ps_set (i := 7) sc_law.nd rfl (Or.inl rfl) (pe_calK C_Form (hr.mono (by omega)) rfl (pa_cons (pe_lc (own := [("line", 16)]) (g := gName 16) (tt := tYes) (by rfl) sc_law.nd (pi_list (pv 5)) (blkOk_by (N := N_law) (sc := defScope s_law) (by decide +kernel)) (fun _ _ _ _ _ => (pg_name (i := 16) sc_law.nd rfl (Or.inl rfl))) (fun _ _ _ _ _ => pts_nil) (fun _ _ _ _ _ => (pe_callTy (call_list_ofK (K := K) rfl) (by rfl) T.b_list (by decide +kernel) (pa_cons (pv 16) pa_nil)))) pa_nil) (pk_cons (pv 6) pk_nil)))
  (pss_cons (ps_set (i := 8) sc_law.nd rfl (Or.inl rfl) (pe_fld (pv 7) rfl))
  (pss_cons (ps_set (i := 9) sc_law.nd rfl (Or.inl rfl) (pe_cal C_judge (hr.mono (by omega)) rfl (pa_cons (pv 7) pa_nil)))
  (pss_cons (ps_if (pt_not (pt_val (pe_cal C__law_judged (hr.mono (by omega)) rfl (pa_cons (pv 9) (pa_cons (pv 5) (pa_cons (pv 6) pa_nil)))))) (pss_one (ps_ret pe_bl)) pss_nil)
  (pss_cons (ps_setLc (i := 10) (own := [("line", 16)]) (g := gName 16) (tt := tYes) (by rfl) sc_law.nd rfl rfl (sw_true rfl rfl rfl (by decide +kernel)) (pi_list (pv 5)) (blkOk_by (N := N_law) (sc := defScope s_law) (by decide +kernel)) (fun _ _ _ _ _ => (pg_name (i := 16) sc_law.nd rfl (Or.inl rfl))) (fun _ _ _ _ _ => pts_nil) (fun _ _ _ _ _ => (pe_callTy (call_list_ofK (K := K) rfl) (by rfl) T.b_list (by decide +kernel) (pa_cons (pv 16) pa_nil))))
  (C8.pss_cut (ps_if (pt_cmpR op_gt (pv 2) pe_int (nomark _)) (pss_cons (ps_set (i := 11) sc_law.nd rfl (Or.inl rfl) (pe_op op_mod (pe_callTy call_int1 (by rfl) T.b_int (by decide +kernel) (pa_cons (pe_ix ix_list (pv 3) pe_int (fun _ _ => rfl)) pa_nil)) (pv 2)))
  (pss_cons (ps_set (i := 12) sc_law.nd rfl (Or.inl rfl) (pe_op op_mod (pe_callTy call_int1 (by rfl) T.b_int (by decide +kernel) (pa_cons (pe_ix ix_list (pv 3) pe_int (fun _ _ => rfl)) pa_nil)) (pv 2)))
  (pss_cons (ps_asg (pe_op op_add (pe_ix ix_list /-?-/ (pe_ix ix_list (pv 10) (pv 11) (fun _ _ => rfl)) (pv 12) (fun _ _ => rfl)) (pe_ix ix_list (pe_lst (pa_cons (pe_un un_neg pe_int) (pa_cons pe_int (pa_cons (pe_un un_neg pe_int) (pa_cons pe_int (pa_cons (pe_un un_neg pe_int) pa_nil)))))) (pe_ix ix_list (pv 3) pe_int (fun _ _ => rfl)) (fun _ _ => rfl))) (pg_sub (pe_ix ix_list (pv 10) (pv 11) (fun _ _ => rfl)) (pv 12) set_list))
  (pss_one (ps_asg (pe_ix ix_list /-?-/ (pe_ix ix_list (pv 10) (pv 11) (fun _ _ => rfl)) (pv 12) (fun _ _ => rfl)) (pg_sub (pe_ix ix_list (pv 10) (pv 12) (fun _ _ => rfl)) (pv 11) set_list)))))) pss_nil)
  (pss_cons (ps_if (pt_not (pt_val (pe_cal C__law_judged (hr.mono (by omega)) rfl (pa_cons (pe_cal C_judge (hr.mono (by omega)) rfl (pa_cons (pe_calK C_Form (hr.mono (by omega)) rfl (pa_cons (pe_lc (own := [("line", 16)]) (g := gName 16) (tt := tYes) (by rfl) sc_law.nd (pi_list (pv 10)) (blkOk_by (N := N_law) (sc := defScope s_law) (by decide +kernel)) (fun _ _ _ _ _ => (pg_name (i := 16) sc_law.nd rfl (Or.inl rfl))) (fun _ _ _ _ _ => pts_nil) (fun _ _ _ _ _ => (pe_callTy (call_tuple_ofK (K := K) rfl) (by rfl) T.b_tuple (by decide +kernel) (pa_cons (pv 16) pa_nil)))) pa_nil) (pk_cons (pv 6) pk_nil)) pa_nil)) (pa_cons (pv 10) (pa_cons (pv 6) pa_nil)))))) (pss_one (ps_ret pe_bl)) pss_nil)
  (pss_cons (ps_if (pt_not (pt_val (pe_cal C__law_papers_right (hr.mono (by omega)) rfl (pa_cons (pv 7) (pa_cons (pv 5) (pa_cons (pv 6) (pa_cons (pe_cal C__law_told_papers (hr.mono (by omega)) rfl (pa_cons (pe_fld (pv 9) rfl) (pa_cons (pv 2) (pa_cons (pe_ix ix_list (pv 3) pe_int (fun _ _ => rfl)) pa_nil)))) pa_nil))))))) (pss_one (ps_ret pe_bl)) pss_nil)
  (pss_cons (ps_if (pt_not (pt_val (pe_cal C__law_own_right (hr.mono (by omega)) rfl (pa_cons (pv 0) (pa_cons (pv 2) (pa_cons (pe_ix ix_list (pv 1) pe_int (fun _ _ => rfl)) (pa_cons (pe_ix ix_list (pv 3) pe_int (fun _ _ => rfl)) pa_nil))))))) (pss_one (ps_ret pe_bl)) pss_nil)
  (pss_cons (ps_set (i := 13) sc_law.nd rfl (Or.inr rfl) (pe_op op_add pe_int (pe_ix ix_list (pv 1) pe_int (fun _ _ => rfl))))
  (pss_cons (ps_setLc (i := 14) (own := [("line", 16)]) (g := gName 16) (tt := tYes) (by rfl) sc_law.nd rfl rfl (sw_true rfl rfl rfl (by decide +kernel)) (pi_list (pv 5)) (blkOk_by (N := N_law) (sc := defScope s_law) (by decide +kernel)) (fun _ _ _ _ _ => (pg_name (i := 16) sc_law.nd rfl (Or.inl rfl))) (fun _ _ _ _ _ => pts_nil) (fun _ _ _ _ _ => (pe_callTy (call_tuple_ofK (K := K) rfl) (by rfl) T.b_tuple (by decide +kernel) (pa_cons (pe_lc (own := [("number", 17)]) (g := gName 17) (tt := tYes) (by rfl) sc_law.nd (pi_listK (K := K) rfl (pv 16)) (blk_nest (N := N_law) (sc0 := defScope s_law) rfl (by decide +kernel)) (fun _ _ _ _ _ => (pg_name (i := 17) sc_law.nd rfl (Or.inl rfl))) (fun _ _ _ _ _ => pts_nil) (fun _ _ _ _ _ => (pe_op op_mulW (pv 13) (pv 17)))) pa_nil))))
  (pss_cons (ps_set (i := 15) sc_law.nd rfl (Or.inl rfl) (pe_cal C_judge (hr.mono (by omega)) rfl (pa_cons (pe_calK C_Form (hr.mono (by omega)) rfl (pa_cons (pe_callTy call_tuple_of (by rfl) T.b_tuple (by decide +kernel) (pa_cons (pv 14) pa_nil)) pa_nil) (pk_cons (pe_op op_mulW (pv 13) (pv 6)) pk_nil)) pa_nil)))
  (pss_one (ps_ret (pe_and (pe_cal C__law_alike (hr.mono (by omega)) rfl (pa_cons (pv 15) (pa_cons (pv 9) pa_nil))) (pe_and (pe_cal C__law_alike (hr.mono (by omega)) rfl (pa_cons (pe_cal C_judge (hr.mono (by omega)) rfl (pa_cons (pv 7) pa_nil)) (pa_cons (pv 9) pa_nil))) (pe_one (pe_cmpR (op_eqD hr.units) (pe_fld (pv 7) rfl) (pv 8) (nomark _))))))))))))))))))))))))), ?_⟩
  refine ⟨_, rfl, a, ns, _, rfl, ha, by decide, by decide, fun c1 => ⟨line_ge (by decide), fun l1 hl1 => ?_⟩⟩
  have n1 := same_new hl1 (.lst (zsS.map V.int))
  refine ⟨c1, l1, zsS, rfl, SqL.of upd_same, by decide, zsS_ok, fun b1 ns1 hb1 hd1 => ?_⟩
  obtain ⟨y, ey, yz⟩ := dig7 rfl hd1
  generalize h5 : upd _ b1 _ = H1
  have s1 : Same H H1 := by rw [← h5]; exact n1.trans (same_new hb1 _)
  have hsh : H1 b1 = some (.lst ((vec 7 y).map V.int)) := by rw [← h5, upd_same, ey]
  have y0 := yz 0 19 rfl
  have y1 := yz 1 16 rfl
  have y3 := yz 3 9 rfl
  have y6 := yz 6 5 rfl
  clear n1 hb1 hd1 yz hl1 ey h5
  refine ⟨line_ge (by decide), fun l2 hl2 => ?_⟩
  have n2 := same_new hl2 (.lst sizesL)
  obtain ⟨n, hn1, hn⟩ := sizes_at (j := (y 0).toNat) (by omega)
  refine ⟨_, rfl, b1, _, 0, _, rfl, rfl, SqL.of (n2 _ _ hsh), at_pos (by decide) (vecV_at (by decide)), l2, _, _, _, rfl, rfl, SqL.of upd_same, at_pos (by exact y0.1) hn1, ?_⟩
  generalize h5 : upd H1 l2 _ = H2
  have s2 : Same H H2 := by rw [← h5]; exact s1.trans n2
  have hsh2 : H2 b1 = some (.lst ((vec 7 y).map V.int)) := by rw [← h5]; exact n2 _ _ hsh
  clear n2 hl2 hn1 s1 hsh h5
  refine ⟨_, rfl, a, ns, _, rfl, s2.seq ha, by decide, by decide, fun c2 => ⟨line_ge (by decide), fun l1 hl1 => ?_⟩⟩
  have n1 := same_new hl1 (.lst (zsR.map V.int))
  refine ⟨c2, l1, zsR, rfl, SqL.of upd_same, by decide, zsR_ok, fun b2 ns2 hb2 hd2 => ?_⟩
  obtain ⟨r, er, rz⟩ := dig7 rfl hd2
  generalize h5 : upd _ b2 _ = H3
  have n3 : Same H2 H3 := by rw [← h5]; exact n1.trans (same_new hb2 _)
  have hrw : H3 b2 = some (.lst ((vec 7 r).map V.int)) := by rw [← h5, upd_same, er]
  have s3 := s2.trans n3
  have hsh3 := n3 _ _ hsh2
  have r0 := rz 0 10 rfl
  have r1 := rz 1 10 rfl
  have r2 := rz 2 12 rfl
  have r3 := rz 3 5 rfl
  have r4 := rz 4 10 rfl
  have r5 := rz 5 10 rfl
  have r6 := rz 6 5 rfl
  clear n1 hb2 hd2 rz hl1 er h5 s2 n3 hsh2
  refine ⟨line_ge (by decide), fun l2 hl2 => ?_⟩
  have n2 := same_new hl2 (.lst kindsL)
  obtain ⟨kind, hk1⟩ := kinds_at (j := (y 1).toNat) (by omega)
  refine ⟨_, rfl, b1, _, 1, _, rfl, rfl, SqL.of (n2 _ _ hsh3), at_pos (by decide) (vecV_at (by decide)), l2, _, _, _, rfl, rfl, SqL.of upd_same, at_pos (by exact y1.1) hk1, ?_⟩
  generalize h5 : upd H3 l2 _ = H4
  have s4 : Same H H4 := by rw [← h5]; exact s3.trans n2
  have hsh4 : H4 b1 = some (.lst ((vec 7 y).map V.int)) := by rw [← h5]; exact n2 _ _ hsh3
  have hrw4 : H4 b2 = some (.lst ((vec 7 r).map V.int)) := by rw [← h5]; exact n2 _ _ hrw
  clear n2 hl2 hk1 s3 hsh3 hrw h5
  refine ⟨_, rfl, _, rfl, _, rfl, _, rfl, b1, _, 2, _, rfl, rfl, SqL.of hsh4, at_pos (by decide) (vecV_at (by decide)), _, rfl, a, b2, ns, 2, n, kind, _, r, rfl, s4.seq ha, by decide, hn, hrw4, ⟨r0.1, r1.1, r2.1, r3.1, r3.2⟩, fun tb rs g0 H5 mt htb sg => ?_⟩
  have s5 := s4.trans mt.same
  have hsh5 := mt.same _ _ hsh4
  have hrw5 := mt.same _ _ hrw4
  have tab : LTab H5 tb n (cutT n g0) := (mt.congr fun i j hi hj => cutT_in hi hj).ltab
  have sc : SymB 95 (cutT n g0) := cut_sym (n := n) sg
  have cutE : ∀ i j, i < n → j < n → cutT n g0 i j = g0 i j := fun i j hi hj => (cutT_in hi hj).symm
  clear s4 hsh4 hrw4 mt htb
  refine ⟨_, _, rfl, rfl, ⟨by decide, by decide, by decide⟩, line_ge (by decide), fun l2 hl2 => ?_⟩
  have n2 := same_new hl2 (.lst [V.int 1, V.int 1, V.int 2, V.int 3, V.int 6, V.int 12, V.int 7, V.int 1000, V.int (10 ^ (20 : Int).toNat)])
  obtain ⟨low, hw1, l0, lB⟩ := lows_at (j := (y 3).toNat) (by omega)
  refine ⟨_, rfl, b1, _, 3, _, rfl, rfl, SqL.of (n2 _ _ hsh5), at_pos (by decide) (vecV_at (by decide)), l2, _, _, _, rfl, rfl, SqL.of upd_same, at_pos (by exact y3.1) hw1, ?_⟩
  generalize h5 : upd H5 l2 _ = H6
  have n56 : Same H5 H6 := by rw [← h5]; exact n2
  have s6 := s5.trans n56
  have hsh6 := n56 _ _ hsh5
  have hrw6 := n56 _ _ hrw5
  have tab6 := tab.same n56
  clear n2 hl2 hw1 s5 hsh5 hrw5 h5 n56 tab
  have rt := rt_of hn (sg.mono (by decide)) l0 (lB.mono (by decide))
  clear cutE
  generalize cutT n g0 = R at *
  obtain ⟨vs, hv1, hvl, row⟩ := tab6.at
  refine ⟨_, rfl, tb, rfl, ⟨_, SqL.of hv1⟩, fun LD hLD => ?_⟩
  refine lc_gm (walk_list (K := K) (a := tb) (xs := vs)) (RL LD) stb_RL (List.range n) (by rw [List.length_range]; exact hvl) (by rw [List.length_range]; omega) hLD (fun H' s => s.seq (SqL.of hv1)) (fun _ _ _ _ => ys_at) (fun i => vec n (R i)) (fun c i x H10 H11 hc s10 s11 yl hdl A B' hA => ?_) (fun H7 l7 s7 hl7 rz => ?_)
  · obtain ⟨hi, rfl⟩ := in_range hc
    obtain ⟨p, e1, e2⟩ := row i hi
    have e0 := yl.2
    rw [e1] at e0
    cases e0
    obtain ⟨dl, hdl⟩ := hdl
    exact ⟨rfl, lc_yes ⟨_, rfl, p, _, rfl, .inl (SqL.of (s11 _ _ e2)), fun L2 hL2 => hA _ _ (same_new hL2 _) ⟨L2, rfl, fun z => (by rw [z, hdl] at hL2; cases hL2), upd_same⟩⟩⟩
  have tabL := LTab.of hl7 rz
  refine ⟨_, rfl, rfl, rfl, fun fo dx0 hfo hdx0 _ => mk_form (n := n) (R := R) hfo hdx0 tabL.sn sc.sym hn l0 (lB.mono (by decide)) (fun H8 s8 hF => ⟨rfl, ?_⟩)⟩
  obtain ⟨dxf, ef, hf1, hf2⟩ := id hF
  refine ⟨_, rfl, fo, cF, dxf, _, _, rfl, hf1, O.clF, O.F_entries, rfl, ?_⟩
  refine ⟨_, rfl, fo, n, 1000, _, low, _, _, R, rfl, rt, hF, fun an H9 s9 hA => ?_⟩
  have s69 := s7.trans (s8.trans s9)
  have tab9 := tab6.same s69
  refine ⟨_, rfl, _, rfl, _, rfl, an, tb, n, 1000, _, low, _, _, R, rfl, tab9, rt, hA, fun H10 s10 => ⟨_, rfl, ifF rfl ?_⟩⟩
  have s6A := s69.trans s10
  have sA := s6.trans s6A
  have hshA := s6A _ _ hsh6
  have hrwA := s6A _ _ hrw6
  have tabA := tab6.same s6A
  have hvA := s6A _ _ hv1
  have rowA : ∀ i, i < n → ∃ p, vs[i]? = some (.ref p) ∧ H10 p = some (.lst ((vec n (R i)).map V.int)) := fun i hi => by
    obtain ⟨p, e1, e2⟩ := row i hi
    exact ⟨p, e1, s6A _ _ e2⟩
  have hFA := hF.same (s9.trans s10)
  have hf1A := (s9.trans s10) _ _ hf1
  have hf2A := fz_same (s9.trans s10) hf2
  have hAA := hA.same s10
  clear hA hF hf1 hf2 tab9 s69 s10 s9 s8 s7 tabL rz hl7 hLD row hv1 tab6 hsh6 hrw6 s6A s6
  refine ⟨_, rfl, tb, rfl, ⟨_, SqL.of hvA⟩, fun OD hOD => ?_⟩
  refine lc_list (K := K) (a := tb) (xs := vs) (fun i H' => ∃ rs, MG H10 H' OD rs n i R) ⟨[], MG.start hOD⟩ (fun i H' _ ⟨_, z⟩ => SqL.of (z.same _ _ hvA)) (fun i x H1 hx ⟨rs, z⟩ => ?_) (fun H11 ⟨rs, z⟩ => ?_)
  · have hi : i < n := by have := (List.getElem?_eq_some_iff.mp hx).1; omega
    obtain ⟨p, h1, h2⟩ := rowA i hi
    rw [hx] at h1
    cases h1
    refine ⟨rfl, lc_yes ⟨_, rfl, p, _, rfl, .inl (SqL.of (z.same _ _ h2)), fun D hD => ⟨_, (same_new hD _) _ _ z.at_, ?_, _, z.snoc hOD (same_new hD _) hD upd_same⟩⟩⟩
    rw [List.length_map, z.len]
    exact Nat.lt_of_lt_of_le (by omega : i < 1001) (line_ge (by decide))
  rw [hvl] at z
  have mt := z.mt
  clear z
  refine ⟨fun σ' H' => ∃ (v11 v12 : Option V) (g2 : Nat → Nat → Int), σ' = [some (.ref a), some (.ref b1), some (.int n), some (.ref b2), some (.int kind), some (.ref tb), some (.int low), some (.ref fo), some (.ref ef), some (.ref an), some (.ref OD), v11, v12, none, none, none, none, none] ∧ MT H10 H' OD rs n g2 ∧ SymB 96 g2, ?_, ?_⟩
  · refine ⟨_, rfl, _, _, rfl, rfl, _, rfl, ?_⟩
    by_cases c0 : 0 < n
    · refine ifT (decide_eq_true (by omega)) ?_
      have hrw11 := mt.same _ _ hrwA
      have n0 : (0 : Int) < n := by omega
      refine ⟨_, rfl, b2, _, 4, _, rfl, rfl, SqL.of hrw11, at_pos (by decide) (vecV_at (by decide)), .inl ⟨_, rfl, _, rfl, _, _, rfl, rfl, n0, ?_⟩⟩
      refine ⟨_, rfl, b2, _, 5, _, rfl, rfl, SqL.of hrw11, at_pos (by decide) (vecV_at (by decide)), .inl ⟨_, rfl, _, rfl, _, _, rfl, rfl, n0, ?_⟩⟩
      have i0 := Int.emod_nonneg (r 4) (show (n : Int) ≠ 0 by omega)
      have i1 := Int.emod_lt_of_pos (r 4) n0
      have j0 := Int.emod_nonneg (r 5) (show (n : Int) ≠ 0 by omega)
      have j1 := Int.emod_lt_of_pos (r 5) n0
      have h1 : (r 4 % (n : Int)).toNat < n := by omega
      have h2 : (r 5 % (n : Int)).toNat < n := by omega
      obtain ⟨p1, hp1, hp1'⟩ := mt.row _ h1
      have ix1 : atI (rs.map V.ref) (r 4 % (n : Int)) = some (.ref p1) := at_pos i0 (by rw [List.getElem?_map, hp1]; rfl)
      refine ⟨_, rfl, _, rfl, OD, _, _, _, rfl, rfl, SqL.of mt.at_, ix1, _, rfl, p1, _, _, _, rfl, rfl, SqL.of hp1', at_pos j0 (vecV_at h2), _, rfl, _, rfl, _, rfl, line_ge (by decide), fun l2 hl2 => ?_⟩
      have n2 := same_new hl2 (.lst [V.int (-1), V.int 1, V.int (-2), V.int 7, V.int (-1000)])
      obtain ⟨dl, hd1, dB⟩ := dels_at (j := (r 6).toNat) (by omega)
      refine ⟨_, rfl, b2, _, 6, _, rfl, rfl, SqL.of (n2 _ _ hrw11), at_pos (by decide) (vecV_at (by decide)), l2, _, _, _, rfl, rfl, SqL.of upd_same, at_pos (by exact r6.1) hd1, _, _, rfl, rfl, ?_⟩
      have mt2 := mt.keep n2
      have hp12 := n2 _ _ hp1'
      refine ⟨_, rfl, _, rfl, OD, _, _, _, rfl, rfl, SqL.of mt2.at_, ix1, _, rfl, p1, _, _, (r 5 % (n : Int)).toNat, rfl, rfl, hp12, ix_set (Int.toNat_of_nonneg j0).symm h2, ?_⟩
      have bv : B 96 (R (r 4 % (n : Int)).toNat (r 5 % (n : Int)).toNat + dl) := B.add (sc.bd _ _) (dB.mono (by decide))
      have mt3 := mt2.set (v := R (r 4 % (n : Int)).toNat (r 5 % (n : Int)).toNat + dl) h1 h2 hp1
      obtain ⟨p1', hq1, hq1'⟩ := mt3.row _ h1
      rw [hp1] at hq1
      cases hq1
      obtain ⟨p2, hp2, hp2'⟩ := mt3.row _ h2
      have ix2 : atI (rs.map V.ref) (r 5 % (n : Int)) = some (.ref p2) := at_pos j0 (by rw [List.getElem?_map, hp2]; rfl)
      refine ⟨_, rfl, _, rfl, OD, _, _, _, rfl, rfl, SqL.of mt3.at_, ix1, _, rfl, p1, _, _, _, rfl, rfl, SqL.of hq1', at_pos j0 (vecV_at h2), ?_⟩
      refine ⟨_, rfl, _, rfl, OD, _, _, _, rfl, rfl, SqL.of mt3.at_, ix2, _, rfl, p2, _, _, (r 4 % (n : Int)).toNat, rfl, rfl, hp2', ix_set (Int.toNat_of_nonneg i0).symm h1, _, _, _, rfl, mt3.set h2 h1 hp2, ?_⟩
      have e : put R (r 4 % (n : Int)).toNat (r 5 % (n : Int)).toNat (R (r 4 % (n : Int)).toNat (r 5 % (n : Int)).toNat + dl) (r 4 % (n : Int)).toNat (r 5 % (n : Int)).toNat = R (r 4 % (n : Int)).toNat (r 5 % (n : Int)).toNat + dl := by unfold put; rw [if_pos ⟨rfl, rfl⟩]
      have fin := (sc.mono (show 95 ≤ 96 by decide)).put2 (i := (r 4 % (n : Int)).toNat) (j := (r 5 % (n : Int)).toNat) bv
      show SymB 96 (put (put R (r 4 % (n : Int)).toNat (r 5 % (n : Int)).toNat (R (r 4 % (n : Int)).toNat (r 5 % (n : Int)).toNat + dl)) (r 5 % (n : Int)).toNat (r 4 % (n : Int)).toNat (put R (r 4 % (n : Int)).toNat (r 5 % (n : Int)).toNat (R (r 4 % (n : Int)).toNat (r 5 % (n : Int)).toNat + dl) (r 4 % (n : Int)).toNat (r 5 % (n : Int)).toNat))
      rw [e]
      exact fin
    · exact ifF (decide_eq_false (by omega)) ⟨_, _, R, rfl, mt, sc.mono (by decide)⟩
  clear mt
  rintro σ H12 ⟨v11, v12, g2, rfl, mt, sg2⟩
  have rt2 := rt_of hn sg2 l0 (lB.mono (by decide))
  have sc2 := cut_sym (n := n) sg2
  replace mt := mt.congr fun i j hi hj => cutT_in hi hj
  generalize cutT n g2 = R2 at *
  refine ⟨_, rfl, OD, rfl, ⟨_, SqL.of mt.at_⟩, fun LD hLD => ?_⟩
  refine lc_m (walk_list (K := K) (a := OD) (xs := rs.map V.ref)) (TR K n) stb_TR (List.range n) (by rw [List.length_map, mt.len, List.length_range]) (by rw [List.length_range]; omega) hLD (fun H' s => s.seq (SqL.of mt.at_)) (fun _ _ _ _ => ys_at) R2 (fun c i x H13 H14 hc s13 s14 yl A B' hA => ?_) (fun H13 l s13 hl13 rz => ?_)
  · obtain ⟨hi, rfl⟩ := in_range hc
    obtain ⟨p, e1, e2⟩ := mt.row i hi
    have e0 := yl.2
    rw [List.getElem?_map, e1] at e0
    cases e0
    exact ⟨rfl, lc_yes ⟨_, rfl, p, _, rfl, .inl ⟨SqL.of (s14 _ _ e2), fun L2 hL2 => hA _ _ (same_new hL2 _) ⟨L2, rfl, SqT.of upd_same⟩⟩⟩⟩
  have tabO := mt.ltab.same s13
  have sAd := mt.same.trans s13
  refine ⟨_, rfl, rfl, rfl, fun fo2 dx0 hfo hdx0 _ => mk_form (n := n) (R := R2) hfo hdx0 (Sn.lst hl13 (tr_sn rz)) sc2.sym hn l0 (lB.mono (by decide)) (fun H14 s14 hF2 => ⟨rfl, ?_⟩)⟩
  refine ⟨fo2, n, 1000, _, low, _, _, R2, rfl, rt2, hF2, fun an2 H15 s15 hA2 => ?_⟩
  refine ⟨_, rfl, _, rfl, an2, OD, n, 1000, _, low, _, _, R2, rfl, tabO.same (s14.trans s15), rt2, hA2, fun H16 s16 => ⟨_, rfl, ifF rfl ?_⟩⟩
  have sB := sAd.trans (s14.trans (s15.trans s16))
  have sAB := sA.trans sB
  have hshB := sB _ _ hshA
  have hrwB := sB _ _ hrwA
  have tabB := tabA.same sB
  have hvB := sB _ _ hvA
  have rowB : ∀ i, i < n → ∃ p, vs[i]? = some (.ref p) ∧ H16 p = some (.lst ((vec n (R i)).map V.int)) := fun i hi => by
    obtain ⟨p, e1, e2⟩ := rowA i hi
    exact ⟨p, e1, sB _ _ e2⟩
  have hFB := hFA.same sB
  have hf1B := sB _ _ hf1A
  have hf2B := fz_same sB hf2A
  have hAB := hAA.same sB
  clear hA2 hF2 tabO sAd s14 s15 s16 rz hl13 s13 hLD rt2 sc2 mt hFA hf1A hf2A hAA rowA hvA tabA hrwA hshA sA sB sg2
  obtain ⟨t, us, qs, hb, pt, W, ⟨dxj, hj⟩, ht, hrs, hql, hok, w3, w7, W0, WB⟩ := ans_papers rt hAB
  refine ⟨_, rfl, _, rfl, _, rfl, _, rfl, an, cR, dxj, _, _, rfl, hj, O.clR, O.R_squares, rfl, _, rfl, _, rfl, b2, _, 4, _, rfl, rfl, SqL.of hrwB, at_pos (by decide) (vecV_at (by decide)), t, us, n, qs, W, _, rfl, ht, hrs, hn, hql, hok, w3, w7, fun v H17 s17 pq => ?_⟩
  obtain ⟨ap, us2, pss, rfl, hap, hpap, hpl, hpok⟩ := pq.papers
  refine ⟨fo, tb, ap, n, R, low, W, us2, pss, rfl, FAt.same s17 hFB, tabB.same s17, fun i j _ _ => ⟨sc.sym i j, (sc.bd i j).mono (by decide)⟩, l0, lB.mono (by decide), hn, hap, hpap, W0, WB, hpl, hpok, fun H18 s18 => ⟨_, rfl, ifF rfl ?_⟩⟩
  have sC := s17.trans s18
  refine ⟨_, rfl, _, rfl, _, rfl, b1, _, 2, _, rfl, rfl, SqL.of (sC _ _ hshB), at_pos (by decide) (vecV_at (by decide)), _, rfl, b2, _, 5, _, rfl, rfl, SqL.of (sC _ _ hrwB), at_pos (by decide) (vecV_at (by decide)), a, ns, n, _, _, rfl, (sAB.trans sC).seq ha, hn, fun H19 s19 => ⟨_, rfl, ifF rfl ?_⟩⟩
  have sD := sC.trans s19
  have hvD := sD _ _ hvB
  have hFD := FAt.same sD hFB
  have hf1D := sD _ _ hf1B
  have hf2D := fz_same sD hf2B
  have hAD := hAB.same sD
  have rowD : ∀ i, i < n → ∃ p, vs[i]? = some (.ref p) ∧ H19 p = some (.lst ((vec n (R i)).map V.int)) := fun i hi => by
    obtain ⟨p, e1, e2⟩ := rowB i hi
    exact ⟨p, e1, sD _ _ e2⟩
  refine ⟨_, rfl, b1, _, 6, _, rfl, rfl, SqL.of (sD _ _ hshB), at_pos (by decide) (vecV_at (by decide)), _, _, rfl, rfl, ?_⟩
  have tm0 : 0 < 2 + y 6 := by omega
  have tmB : B 10 (2 + y 6) := by show (2 + y 6).natAbs < 2 ^ 10; omega
  clear hAB hf2B hf1B hFB rowB hvB tabB hrwB hshB sAB sC s19 s17 s18 hap hpap pq
  refine ⟨_, rfl, tb, rfl, ⟨_, SqL.of hvD⟩, fun LT hLT => ?_⟩
  refine lc_m (walk_list (K := K) (a := tb) (xs := vs)) (TR K n) stb_TR (List.range n) (by rw [hvl, List.length_range]) (by rw [List.length_range]; omega) hLT (fun H' s => s.seq (SqL.of hvD)) (fun _ _ _ _ => ys_at) (fun i j => (2 + y 6) * R i j) (fun c i x H20 H21 hc s20 s21 yl A B' hA => ?_) (fun H20 l s20 hl20 rz => ?_)
  · obtain ⟨hi, rfl⟩ := in_range hc
    obtain ⟨p, e1, e2⟩ := rowD i hi
    have e0 := yl.2
    rw [e1] at e0
    cases e0
    have e2' := s21 _ _ e2
    refine ⟨rfl, lc_yes ⟨_, rfl, p, rfl, ⟨_, SqL.of e2'⟩, fun D2 hD2 => ?_⟩⟩
    refine lc_m (walk_list (K := K) (a := p) (xs := (vec n (R i)).map V.int)) RI (stb_RI (K := K)) (List.range n) (by rw [vec_lenV, List.length_range]) (by rw [List.length_range]; omega) hD2 (fun H' s => s.seq (SqL.of e2')) (fun _ _ _ _ => ys_at) (fun j => (2 + y 6) * R i j) (fun c j x H22 H23 hc s22 s23 yl2 A2 B2 hA2 => ?_) (fun H22 l2 s22 hl22 rz2 => ?_)
    · obtain ⟨hj2, rfl⟩ := in_range hc
      have e := yl2.2
      rw [vecV_at hj2] at e
      cases e
      exact ⟨rfl, lc_yes ⟨_, rfl, _, rfl, _, _, rfl, rfl, wmul tmB (sc.bd i j) (by decide) (by decide) (by decide), hA2 _ _ (fun _ _ h => h) rfl⟩⟩
    · refine ⟨D2, _, rfl, .inl ⟨SqL.of hl22, fun u hu => hA _ _ (s22.trans (same_new hu _)) ⟨u, rfl, ?_⟩⟩⟩
      exact SqT.of (by rw [upd_same, rz2.ints]; rfl)
  refine ⟨_, rfl, LT, _, rfl, .inl ⟨SqL.of hl20, fun LU hLU => ?_⟩⟩
  have nU := same_new hLU (.tup l)
  have tl0 : 0 < (2 + y 6) * low := Int.mul_pos tm0 l0
  refine ⟨_, rfl, _, rfl, _, _, rfl, rfl, wmul tmB lB (by decide) (by decide) (by decide), rfl, rfl, fun fo3 dx0 hfo hdx0 _ => mk_form (n := n) (R := fun i j => (2 + y 6) * R i j) hfo hdx0 (Sn.tup (SqT.of upd_same) (tr_sn (rz.tk stb_TR fun _ _ h => Same_seqT nU h))) (fun i j => by rw [sc.sym i j]) hn tl0 ((B.mul tmB lB).mono (by decide)) (fun H21 s21 hF3 => ⟨rfl, ?_⟩)⟩
  have hF4 : FAt K H21 cF fo3 n R low := FAt.re hF3 tl0 l0 fun i j _ _ => by
    show (2 + y 6) * R i j * low = R i j * ((2 + y 6) * low)
    rw [Int.mul_comm (2 + y 6), Int.mul_assoc]
  refine ⟨fo3, n, 1000, _, low, _, _, R, rfl, rt, hF4, fun ag H22 s22 hAg => ?_⟩
  have sE := s20.trans (nU.trans (s21.trans s22))
  have hAE := hAD.same sE
  refine ⟨_, rfl, _, rfl, ag, an, n, _, _, rfl, hAg, hAE, fun H23 s23 => ⟨_, rfl, ifT rfl ?_⟩⟩
  have sF := sE.trans s23
  refine ⟨_, rfl, fo, n, 1000, _, low, _, _, R, rfl, rt, FAt.same sF hFD, fun an4 H24 s24 hA4 => ?_⟩
  have sG := sF.trans s24
  refine ⟨_, rfl, an4, an, n, _, _, rfl, hA4, hAD.same sG, fun H25 s25 => ⟨_, rfl, ifT rfl ?_⟩⟩
  have sH := sG.trans s25
  have hz := fz_same sH hf2D
  refine ⟨_, rfl, fo, cF, dxf, _, _, rfl, sH _ _ hf1D, O.clF, O.F_entries, rfl, _, rfl, _, _, hz.dp, hz.dp, td_shaped (Nat.le_trans dep_tdm (by omega)), td_shaped (Nat.le_trans dep_tdm (by omega)), ?_⟩
  rw [eqv_self (td_shaped (Nat.le_trans dep_tdm (by omega)))]
  exact q H25
end
end P01
namespace P01
open PySem PySem.Spec PyProof.Rows L2 SX EX WK
section
variable {P : Program} {w : World} {K : PySem.W.Frag} {mg : Str → Option Value} {base : Heap} {f : Addr} {fd : FuncData} {cF cR : Addr}
theorem kb_Form (F : FunD K "__init__" "Form.__init__" (defArgs s_iForm) (defBody s_iForm) (defScope s_iForm) [] [("bottom", V.int 1)] f fd) : ∃ g, KBn K fd ["self", "entries", "bottom"] 2 ["bottom"] g (fun vs zs => vs ++ zs) := by
  obtain ⟨mv, h⟩ := F.kbinds0 (ps := ["self", "entries", "bottom"]) 2 ["bottom"] [] (fun a _ c => a ++ c) (by simp) (fun q h => nomatch h) (fun r _ t => r.append t) (fun D doc pm an cdv ct us mv ws h1 h2 h3 => match us, mv, ws, h1, h2, h3 with
    | [_, _], [], [_], _, _, _ => rfl)
  exact ⟨_, h⟩
theorem kb_FormL (F : FunD K "__init__" "Form.__init__" (defArgs s_iForm) (defBody s_iForm) (defScope s_iForm) [] [("bottom", V.int 1)] f fd) : ∃ g, KBn K fd ["self", "entries", "bottom"] 2 [] g (fun vs _ => vs ++ [V.int 1]) := by
  obtain ⟨mv, h⟩ := F.kbinds0 (ps := ["self", "entries", "bottom"]) 2 [] [("bottom", V.int 1)] (fun a m _ => a ++ m) (by simp) (fun q h => h) (fun r m _ => r.append m) (fun D doc pm an cdv ct us mv ws h1 h2 h3 => match us, mv, ws, h1, h2, h3 with
    | [_, _], [_], [], _, _, _ => ⟨_, _, _, _, _, _, rfl, rfl, rfl⟩)
  exact ⟨_, h⟩
theorem funD_of {x qual : Str} {st : Stmt} {D : Addr} {od an : Option Addr} {sl : Array (Option Value)} {oc dc pm cd ct : Value} {tk : Tok} (l : K.lookup f = some ⟨oc, od, .func (PySem.W.fnOf x qual (defArgs st) (defBody st) (defScope st) .none (.ref D) dc pm an cd ct), sl⟩) (c : PySem.W.codeIn K cd qual = true) (k : PySem.W.keepIn K (.ref f) = true)
    (d : PySem.W.nsIn K D "bottom" = some (some (.int 1 tk))) : FunD K x qual (defArgs st) (defBody st) (defScope st) [] [("bottom", V.int 1)] f (PySem.W.fnOf x qual (defArgs st) (defBody st) (defScope st) .none (.ref D) dc pm an cd ct) :=
  ⟨⟨_, _, _, _, _, _, _, _, _, _, rfl, l, c, .inl ⟨rfl, rfl⟩, .inr ⟨D, rfl, fun q hq => by rw [List.mem_singleton.mp hq]; exact ⟨_, d, _, rfl⟩⟩⟩, k⟩
theorem raw0 {k : Nat} {ps : List Str} {sp : Sp} (F : FnOk P w K mg base CX0 k f fd ps sp) (hb : Binds K fd ps []) : FnR P w K mg base CX0 k f sp := (F.raw hb .nil).imp fun vs H Q E h => by rw [List.append_nil]; exact h
end
end P01
namespace P01
open PySem PySem.Spec PyProof.Rows L2 SX EX WK
theorem all_mk {l : PySem.W.OpenLaw} {w : World} {K : PySem.W.Frag} {h : Heap} {mg : Str → Option Value} {fa f1 f2 f3 f4 f5 f6 f7 f8 f9 f10 f11 f12 f13 f14 f15 f16 f17 f18 f19 f20 f21 f22 f23 f24 f25 f26 f27 f28 f29 f30 f31 f32 f33 f34 f35 f36 f37 f38 f39 f40 c_Form c_Judgement : Addr} (X : K.In h) (G : h.Ns mainGlobals mg) (hfa : mg "law" = some (.ref fa))
    {od1 an1 od2 an2 od3 an3 od4 an4 od5 an5 od6 an6 od7 an7 od8 an8 od9 an9 od10 an10 od11 an11 od12 an12 od13 an13 od14 an14 od15 an15 od16 an16 od17 an17 od18 an18 od19 an19 od20 an20 od21 an21 od22 an22 od23 an23 od24 an24 od25 an25 od26 an26 od27 an27 od28 an28 od29 an29 od30 an30 od31 an31 od32 an32 od33 an33 od34 an34 od35 an35 od36 an36 od37 an37 od38 an38 od39 an39 od40 an40 : Option Addr}
    {sl1 sl2 sl3 sl4 sl5 sl6 sl7 sl8 sl9 sl10 sl11 sl12 sl13 sl14 sl15 sl16 sl17 sl18 sl19 sl20 sl21 sl22 sl23 sl24 sl25 sl26 sl27 sl28 sl29 sl30 sl31 sl32 sl33 sl34 sl35 sl36 sl37 sl38 sl39 sl40 : Array (Option Value)} {oc1 kV1 dc1 pm1 cd1 ct1 oc2 kV2 dc2 pm2 cd2 ct2 oc3 kV3 dc3 pm3 cd3 ct3 oc4 kV4 dc4 pm4 cd4 ct4 oc5 kV5 dc5 pm5 cd5 ct5 oc6 kV6 dc6 pm6 cd6 ct6 oc7 kV7 dc7 pm7 cd7 ct7 oc8 kV8 dc8 pm8 cd8 ct8 oc9 kV9 dc9 pm9 cd9 ct9 oc10 kV10 dc10 pm10 cd10 ct10 oc11 kV11 dc11 pm11 cd11 ct11 oc12 kV12 dc12 pm12 cd12 ct12 oc13 kV13 dc13 pm13 cd13 ct13 oc14 kV14 dc14 pm14 cd14 ct14 oc15 kV15 dc15 pm15 cd15 ct15 oc16 kV16 dc16 pm16 cd16 ct16 oc17 kV17 dc17 pm17 cd17 ct17 oc18 kV18 dc18 pm18 cd18 ct18 oc19 kV19 dc19 pm19 cd19 ct19 oc20 kV20 dc20 pm20 cd20 ct20 oc21 kV21 dc21 pm21 cd21 ct21 oc22 kV22 dc22 pm22 cd22 ct22 oc23 kV23 dc23 pm23 cd23 ct23 oc24 kV24 dc24 pm24 cd24 ct24 oc25 kV25 dc25 pm25 cd25 ct25 oc26 kV26 dc26 pm26 cd26 ct26 oc27 kV27 dc27 pm27 cd27 ct27 oc28 kV28 dc28 pm28 cd28 ct28 oc29 kV29 dc29 pm29 cd29 ct29 oc30 kV30 dc30 pm30 cd30 ct30 oc31 kV31 dc31 pm31 cd31 ct31 oc32 kV32 dc32 pm32 cd32 ct32 oc33 kV33 dc33 pm33 cd33 ct33 oc34 kV34 dc34 pm34 cd34 ct34 oc35 kV35 dc35 pm35 cd35 ct35 oc36 kV36 dc36 pm36 cd36 ct36 oc37 kV37 dc37 pm37 cd37 ct37 oc38 kV38 dc38 pm38 cd38 ct38 oc39 kV39 dc39 pm39 cd39 ct39 oc40 kV40 dc40 pm40 cd40 ct40 : Value}
    {f_Form D_Form : Addr} {odi_Form ani_Form : Option Addr} {sli_Form : Array (Option Value)} {oci_Form dci_Form pmi_Form cdi_Form cti_Form : Value} {tki_Form : Tok}
    {f_Judgement : Addr} {odi_Judgement ani_Judgement : Option Addr} {sli_Judgement : Array (Option Value)} {oci_Judgement kVi_Judgement dci_Judgement pmi_Judgement cdi_Judgement cti_Judgement : Value}
    {h_mAdd : Addr} {odm_mAdd anm_mAdd : Option Addr} {slm_mAdd : Array (Option Value)} {ocm_mAdd kVm_mAdd dcm_mAdd pmm_mAdd cdm_mAdd ctm_mAdd : Value}
    {h_mEq : Addr} {odm_mEq anm_mEq : Option Addr} {slm_mEq : Array (Option Value)} {ocm_mEq kVm_mEq dcm_mEq pmm_mEq cdm_mEq ctm_mEq : Value}
    {h_mScaled : Addr} {odm_mScaled anm_mScaled : Option Addr} {slm_mScaled : Array (Option Value)} {ocm_mScaled kVm_mScaled dcm_mScaled pmm_mScaled cdm_mScaled ctm_mScaled : Value}
    {h_mZero p_mZero : Addr} {rest_mZero : List Value} {odm_mZero anm_mZero : Option Addr} {slm_mZero : Array (Option Value)} {ocm_mZero kVm_mZero dcm_mZero pmm_mZero cdm_mZero ctm_mZero : Value}
    {h_mSquare p_mSquare : Addr} {rest_mSquare : List Value} {odm_mSquare anm_mSquare : Option Addr} {slm_mSquare : Array (Option Value)} {ocm_mSquare kVm_mSquare dcm_mSquare pmm_mSquare cdm_mSquare ctm_mSquare : Value}
    (a1 : PySem.W.nsIn K mainGlobals "unit_point" = some (some (.ref f1))) (l1 : K.lookup f1 = some ⟨oc1, od1, .func (PySem.W.fnOf "unit_point" "unit_point" (defArgs s_unit_point) (defBody s_unit_point) (defScope s_unit_point) .none kV1 dc1 pm1 an1 cd1 ct1), sl1⟩) (c1 : PySem.W.codeIn K cd1 "unit_point" = true) (k1 : PySem.W.keepIn K (.ref f1) = true)
    (a2 : PySem.W.nsIn K mainGlobals "side_index" = some (some (.ref f2))) (l2 : K.lookup f2 = some ⟨oc2, od2, .func (PySem.W.fnOf "side_index" "side_index" (defArgs s_side_index) (defBody s_side_index) (defScope s_side_index) .none kV2 dc2 pm2 an2 cd2 ct2), sl2⟩) (c2 : PySem.W.codeIn K cd2 "side_index" = true) (k2 : PySem.W.keepIn K (.ref f2) = true)
    (a3 : PySem.W.nsIn K mainGlobals "bad_point" = some (some (.ref f3))) (l3 : K.lookup f3 = some ⟨oc3, od3, .func (PySem.W.fnOf "bad_point" "bad_point" (defArgs s_bad_point) (defBody s_bad_point) (defScope s_bad_point) .none kV3 dc3 pm3 an3 cd3 ct3), sl3⟩) (c3 : PySem.W.codeIn K cd3 "bad_point" = true) (k3 : PySem.W.keepIn K (.ref f3) = true)
    (a4 : PySem.W.nsIn K mainGlobals "reduced" = some (some (.ref f4))) (l4 : K.lookup f4 = some ⟨oc4, od4, .func (PySem.W.fnOf "reduced" "reduced" (defArgs s_reduced) (defBody s_reduced) (defScope s_reduced) .none kV4 dc4 pm4 an4 cd4 ct4), sl4⟩) (c4 : PySem.W.codeIn K cd4 "reduced" = true) (k4 : PySem.W.keepIn K (.ref f4) = true)
    (a5 : PySem.W.nsIn K mainGlobals "eliminated" = some (some (.ref f5))) (l5 : K.lookup f5 = some ⟨oc5, od5, .func (PySem.W.fnOf "eliminated" "eliminated" (defArgs s_eliminated) (defBody s_eliminated) (defScope s_eliminated) .none kV5 dc5 pm5 an5 cd5 ct5), sl5⟩) (c5 : PySem.W.codeIn K cd5 "eliminated" = true) (k5 : PySem.W.keepIn K (.ref f5) = true)
    (a6 : PySem.W.nsIn K mainGlobals "settled" = some (some (.ref f6))) (l6 : K.lookup f6 = some ⟨oc6, od6, .func (PySem.W.fnOf "settled" "settled" (defArgs s_settled) (defBody s_settled) (defScope s_settled) .none kV6 dc6 pm6 an6 cd6 ct6), sl6⟩) (c6 : PySem.W.codeIn K cd6 "settled" = true) (k6 : PySem.W.keepIn K (.ref f6) = true)
    (a7 : PySem.W.nsIn K mainGlobals "frozen_numbers" = some (some (.ref f7))) (l7 : K.lookup f7 = some ⟨oc7, od7, .func (PySem.W.fnOf "frozen_numbers" "frozen_numbers" (defArgs s_frozen_numbers) (defBody s_frozen_numbers) (defScope s_frozen_numbers) .none kV7 dc7 pm7 an7 cd7 ct7), sl7⟩) (c7 : PySem.W.codeIn K cd7 "frozen_numbers" = true) (k7 : PySem.W.keepIn K (.ref f7) = true)
    (a8 : PySem.W.nsIn K mainGlobals "frozen_part" = some (some (.ref f8))) (l8 : K.lookup f8 = some ⟨oc8, od8, .func (PySem.W.fnOf "frozen_part" "frozen_part" (defArgs s_frozen_part) (defBody s_frozen_part) (defScope s_frozen_part) .none kV8 dc8 pm8 an8 cd8 ct8), sl8⟩) (c8 : PySem.W.codeIn K cd8 "frozen_part" = true) (k8 : PySem.W.keepIn K (.ref f8) = true)
    (a9 : PySem.W.nsIn K mainGlobals "frozen" = some (some (.ref f9))) (l9 : K.lookup f9 = some ⟨oc9, od9, .func (PySem.W.fnOf "frozen" "frozen" (defArgs s_frozen) (defBody s_frozen) (defScope s_frozen) .none kV9 dc9 pm9 an9 cd9 ct9), sl9⟩) (c9 : PySem.W.codeIn K cd9 "frozen" = true) (k9 : PySem.W.keepIn K (.ref f9) = true)
    (a10 : PySem.W.nsIn K mainGlobals "lowered" = some (some (.ref f10))) (l10 : K.lookup f10 = some ⟨oc10, od10, .func (PySem.W.fnOf "lowered" "lowered" (defArgs s_lowered) (defBody s_lowered) (defScope s_lowered) .none kV10 dc10 pm10 an10 cd10 ct10), sl10⟩) (c10 : PySem.W.codeIn K cd10 "lowered" = true) (k10 : PySem.W.keepIn K (.ref f10) = true)
    (a11 : PySem.W.nsIn K mainGlobals "fraction" = some (some (.ref f11))) (l11 : K.lookup f11 = some ⟨oc11, od11, .func (PySem.W.fnOf "fraction" "fraction" (defArgs s_fraction) (defBody s_fraction) (defScope s_fraction) .none kV11 dc11 pm11 an11 cd11 ct11), sl11⟩) (c11 : PySem.W.codeIn K cd11 "fraction" = true) (k11 : PySem.W.keepIn K (.ref f11) = true)
    (a12 : PySem.W.nsIn K mainGlobals "check_square" = some (some (.ref f12))) (l12 : K.lookup f12 = some ⟨oc12, od12, .func (PySem.W.fnOf "check_square" "check_square" (defArgs s_check_square) (defBody s_check_square) (defScope s_check_square) .none kV12 dc12 pm12 an12 cd12 ct12), sl12⟩) (c12 : PySem.W.codeIn K cd12 "check_square" = true) (k12 : PySem.W.keepIn K (.ref f12) = true)
    (a13 : PySem.W.nsIn K mainGlobals "check_symmetric" = some (some (.ref f13))) (l13 : K.lookup f13 = some ⟨oc13, od13, .func (PySem.W.fnOf "check_symmetric" "check_symmetric" (defArgs s_check_symmetric) (defBody s_check_symmetric) (defScope s_check_symmetric) .none kV13 dc13 pm13 an13 cd13 ct13), sl13⟩) (c13 : PySem.W.codeIn K cd13 "check_symmetric" = true) (k13 : PySem.W.keepIn K (.ref f13) = true)
    (a14 : PySem.W.nsIn K mainGlobals "check_sizes" = some (some (.ref f14))) (l14 : K.lookup f14 = some ⟨oc14, od14, .func (PySem.W.fnOf "check_sizes" "check_sizes" (defArgs s_check_sizes) (defBody s_check_sizes) (defScope s_check_sizes) .none kV14 dc14 pm14 an14 cd14 ct14), sl14⟩) (c14 : PySem.W.codeIn K cd14 "check_sizes" = true) (k14 : PySem.W.keepIn K (.ref f14) = true)
    (a15 : PySem.W.nsIn K mainGlobals "combined_entries" = some (some (.ref f15))) (l15 : K.lookup f15 = some ⟨oc15, od15, .func (PySem.W.fnOf "combined_entries" "combined_entries" (defArgs s_combined_entries) (defBody s_combined_entries) (defScope s_combined_entries) .none kV15 dc15 pm15 an15 cd15 ct15), sl15⟩) (c15 : PySem.W.codeIn K cd15 "combined_entries" = true) (k15 : PySem.W.keepIn K (.ref f15) = true)
    (a16 : PySem.W.nsIn K mainGlobals "is_squares" = some (some (.ref f16))) (l16 : K.lookup f16 = some ⟨oc16, od16, .func (PySem.W.fnOf "is_squares" "is_squares" (defArgs s_is_squares) (defBody s_is_squares) (defScope s_is_squares) .none kV16 dc16 pm16 an16 cd16 ct16), sl16⟩) (c16 : PySem.W.codeIn K cd16 "is_squares" = true) (k16 : PySem.W.keepIn K (.ref f16) = true)
    (a17 : PySem.W.nsIn K mainGlobals "echelon_square" = some (some (.ref f17))) (l17 : K.lookup f17 = some ⟨oc17, od17, .func (PySem.W.fnOf "echelon_square" "echelon_square" (defArgs s_echelon_square) (defBody s_echelon_square) (defScope s_echelon_square) .none kV17 dc17 pm17 an17 cd17 ct17), sl17⟩) (c17 : PySem.W.codeIn K cd17 "echelon_square" = true) (k17 : PySem.W.keepIn K (.ref f17) = true)
    (a18 : PySem.W.nsIn K mainGlobals "judge" = some (some (.ref f18))) (l18 : K.lookup f18 = some ⟨oc18, od18, .func (PySem.W.fnOf "judge" "judge" (defArgs s_judge) (defBody s_judge) (defScope s_judge) .none kV18 dc18 pm18 an18 cd18 ct18), sl18⟩) (c18 : PySem.W.codeIn K cd18 "judge" = true) (k18 : PySem.W.keepIn K (.ref f18) = true)
    (a19 : PySem.W.nsIn K mainGlobals "_law_whole" = some (some (.ref f19))) (l19 : K.lookup f19 = some ⟨oc19, od19, .func (PySem.W.fnOf "_law_whole" "_law_whole" (defArgs s__law_whole) (defBody s__law_whole) (defScope s__law_whole) .none kV19 dc19 pm19 an19 cd19 ct19), sl19⟩) (c19 : PySem.W.codeIn K cd19 "_law_whole" = true) (k19 : PySem.W.keepIn K (.ref f19) = true)
    (a20 : PySem.W.nsIn K mainGlobals "_law_cell" = some (some (.ref f20))) (l20 : K.lookup f20 = some ⟨oc20, od20, .func (PySem.W.fnOf "_law_cell" "_law_cell" (defArgs s__law_cell) (defBody s__law_cell) (defScope s__law_cell) .none kV20 dc20 pm20 an20 cd20 ct20), sl20⟩) (c20 : PySem.W.codeIn K cd20 "_law_cell" = true) (k20 : PySem.W.keepIn K (.ref f20) = true)
    (a21 : PySem.W.nsIn K mainGlobals "_law_digits" = some (some (.ref f21))) (l21 : K.lookup f21 = some ⟨oc21, od21, .func (PySem.W.fnOf "_law_digits" "_law_digits" (defArgs s__law_digits) (defBody s__law_digits) (defScope s__law_digits) .none kV21 dc21 pm21 an21 cd21 ct21), sl21⟩) (c21 : PySem.W.codeIn K cd21 "_law_digits" = true) (k21 : PySem.W.keepIn K (.ref f21) = true)
    (a22 : PySem.W.nsIn K mainGlobals "_law_gcd" = some (some (.ref f22))) (l22 : K.lookup f22 = some ⟨oc22, od22, .func (PySem.W.fnOf "_law_gcd" "_law_gcd" (defArgs s__law_gcd) (defBody s__law_gcd) (defScope s__law_gcd) .none kV22 dc22 pm22 an22 cd22 ct22), sl22⟩) (c22 : PySem.W.codeIn K cd22 "_law_gcd" = true) (k22 : PySem.W.keepIn K (.ref f22) = true)
    (a23 : PySem.W.nsIn K mainGlobals "_law_dot" = some (some (.ref f23))) (l23 : K.lookup f23 = some ⟨oc23, od23, .func (PySem.W.fnOf "_law_dot" "_law_dot" (defArgs s__law_dot) (defBody s__law_dot) (defScope s__law_dot) .none kV23 dc23 pm23 an23 cd23 ct23), sl23⟩) (c23 : PySem.W.codeIn K cd23 "_law_dot" = true) (k23 : PySem.W.keepIn K (.ref f23) = true)
    (a24 : PySem.W.nsIn K mainGlobals "_law_value" = some (some (.ref f24))) (l24 : K.lookup f24 = some ⟨oc24, od24, .func (PySem.W.fnOf "_law_value" "_law_value" (defArgs s__law_value) (defBody s__law_value) (defScope s__law_value) .none kV24 dc24 pm24 an24 cd24 ct24), sl24⟩) (c24 : PySem.W.codeIn K cd24 "_law_value" = true) (k24 : PySem.W.keepIn K (.ref f24) = true)
    (a25 : PySem.W.nsIn K mainGlobals "_law_is_point" = some (some (.ref f25))) (l25 : K.lookup f25 = some ⟨oc25, od25, .func (PySem.W.fnOf "_law_is_point" "_law_is_point" (defArgs s__law_is_point) (defBody s__law_is_point) (defScope s__law_is_point) .none kV25 dc25 pm25 an25 cd25 ct25), sl25⟩) (c25 : PySem.W.codeIn K cd25 "_law_is_point" = true) (k25 : PySem.W.keepIn K (.ref f25) = true)
    (a26 : PySem.W.nsIn K mainGlobals "_law_shared" = some (some (.ref f26))) (l26 : K.lookup f26 = some ⟨oc26, od26, .func (PySem.W.fnOf "_law_shared" "_law_shared" (defArgs s__law_shared) (defBody s__law_shared) (defScope s__law_shared) .none kV26 dc26 pm26 an26 cd26 ct26), sl26⟩) (c26 : PySem.W.codeIn K cd26 "_law_shared" = true) (k26 : PySem.W.keepIn K (.ref f26) = true)
    (a27 : PySem.W.nsIn K mainGlobals "_law_leads" = some (some (.ref f27))) (l27 : K.lookup f27 = some ⟨oc27, od27, .func (PySem.W.fnOf "_law_leads" "_law_leads" (defArgs s__law_leads) (defBody s__law_leads) (defScope s__law_leads) .none kV27 dc27 pm27 an27 cd27 ct27), sl27⟩) (c27 : PySem.W.codeIn K cd27 "_law_leads" = true) (k27 : PySem.W.keepIn K (.ref f27) = true)
    (a28 : PySem.W.nsIn K mainGlobals "_law_draw_part" = some (some (.ref f28))) (l28 : K.lookup f28 = some ⟨oc28, od28, .func (PySem.W.fnOf "_law_draw_part" "_law_draw_part" (defArgs s__law_draw_part) (defBody s__law_draw_part) (defScope s__law_draw_part) .none kV28 dc28 pm28 an28 cd28 ct28), sl28⟩) (c28 : PySem.W.codeIn K cd28 "_law_draw_part" = true) (k28 : PySem.W.keepIn K (.ref f28) = true)
    (a29 : PySem.W.nsIn K mainGlobals "_law_weighed" = some (some (.ref f29))) (l29 : K.lookup f29 = some ⟨oc29, od29, .func (PySem.W.fnOf "_law_weighed" "_law_weighed" (defArgs s__law_weighed) (defBody s__law_weighed) (defScope s__law_weighed) .none kV29 dc29 pm29 an29 cd29 ct29), sl29⟩) (c29 : PySem.W.codeIn K cd29 "_law_weighed" = true) (k29 : PySem.W.keepIn K (.ref f29) = true)
    (a30 : PySem.W.nsIn K mainGlobals "_law_draw_plain" = some (some (.ref f30))) (l30 : K.lookup f30 = some ⟨oc30, od30, .func (PySem.W.fnOf "_law_draw_plain" "_law_draw_plain" (defArgs s__law_draw_plain) (defBody s__law_draw_plain) (defScope s__law_draw_plain) .none kV30 dc30 pm30 an30 cd30 ct30), sl30⟩) (c30 : PySem.W.codeIn K cd30 "_law_draw_plain" = true) (k30 : PySem.W.keepIn K (.ref f30) = true)
    (a31 : PySem.W.nsIn K mainGlobals "_law_draw_table" = some (some (.ref f31))) (l31 : K.lookup f31 = some ⟨oc31, od31, .func (PySem.W.fnOf "_law_draw_table" "_law_draw_table" (defArgs s__law_draw_table) (defBody s__law_draw_table) (defScope s__law_draw_table) .none kV31 dc31 pm31 an31 cd31 ct31), sl31⟩) (c31 : PySem.W.codeIn K cd31 "_law_draw_table" = true) (k31 : PySem.W.keepIn K (.ref f31) = true)
    (a32 : PySem.W.nsIn K mainGlobals "_law_echelon" = some (some (.ref f32))) (l32 : K.lookup f32 = some ⟨oc32, od32, .func (PySem.W.fnOf "_law_echelon" "_law_echelon" (defArgs s__law_echelon) (defBody s__law_echelon) (defScope s__law_echelon) .none kV32 dc32 pm32 an32 cd32 ct32), sl32⟩) (c32 : PySem.W.codeIn K cd32 "_law_echelon" = true) (k32 : PySem.W.keepIn K (.ref f32) = true)
    (a33 : PySem.W.nsIn K mainGlobals "_law_expands" = some (some (.ref f33))) (l33 : K.lookup f33 = some ⟨oc33, od33, .func (PySem.W.fnOf "_law_expands" "_law_expands" (defArgs s__law_expands) (defBody s__law_expands) (defScope s__law_expands) .none kV33 dc33 pm33 an33 cd33 ct33), sl33⟩) (c33 : PySem.W.codeIn K cd33 "_law_expands" = true) (k33 : PySem.W.keepIn K (.ref f33) = true)
    (a34 : PySem.W.nsIn K mainGlobals "_law_judged" = some (some (.ref f34))) (l34 : K.lookup f34 = some ⟨oc34, od34, .func (PySem.W.fnOf "_law_judged" "_law_judged" (defArgs s__law_judged) (defBody s__law_judged) (defScope s__law_judged) .none kV34 dc34 pm34 an34 cd34 ct34), sl34⟩) (c34 : PySem.W.codeIn K cd34 "_law_judged" = true) (k34 : PySem.W.keepIn K (.ref f34) = true)
    (a35 : PySem.W.nsIn K mainGlobals "_law_shows" = some (some (.ref f35))) (l35 : K.lookup f35 = some ⟨oc35, od35, .func (PySem.W.fnOf "_law_shows" "_law_shows" (defArgs s__law_shows) (defBody s__law_shows) (defScope s__law_shows) .none kV35 dc35 pm35 an35 cd35 ct35), sl35⟩) (c35 : PySem.W.codeIn K cd35 "_law_shows" = true) (k35 : PySem.W.keepIn K (.ref f35) = true)
    (a36 : PySem.W.nsIn K mainGlobals "_law_papers_right" = some (some (.ref f36))) (l36 : K.lookup f36 = some ⟨oc36, od36, .func (PySem.W.fnOf "_law_papers_right" "_law_papers_right" (defArgs s__law_papers_right) (defBody s__law_papers_right) (defScope s__law_papers_right) .none kV36 dc36 pm36 an36 cd36 ct36), sl36⟩) (c36 : PySem.W.codeIn K cd36 "_law_papers_right" = true) (k36 : PySem.W.keepIn K (.ref f36) = true)
    (a37 : PySem.W.nsIn K mainGlobals "_law_told_papers" = some (some (.ref f37))) (l37 : K.lookup f37 = some ⟨oc37, od37, .func (PySem.W.fnOf "_law_told_papers" "_law_told_papers" (defArgs s__law_told_papers) (defBody s__law_told_papers) (defScope s__law_told_papers) .none kV37 dc37 pm37 an37 cd37 ct37), sl37⟩) (c37 : PySem.W.codeIn K cd37 "_law_told_papers" = true) (k37 : PySem.W.keepIn K (.ref f37) = true)
    (a38 : PySem.W.nsIn K mainGlobals "_law_own_right" = some (some (.ref f38))) (l38 : K.lookup f38 = some ⟨oc38, od38, .func (PySem.W.fnOf "_law_own_right" "_law_own_right" (defArgs s__law_own_right) (defBody s__law_own_right) (defScope s__law_own_right) .none kV38 dc38 pm38 an38 cd38 ct38), sl38⟩) (c38 : PySem.W.codeIn K cd38 "_law_own_right" = true) (k38 : PySem.W.keepIn K (.ref f38) = true)
    (a39 : PySem.W.nsIn K mainGlobals "_law_alike" = some (some (.ref f39))) (l39 : K.lookup f39 = some ⟨oc39, od39, .func (PySem.W.fnOf "_law_alike" "_law_alike" (defArgs s__law_alike) (defBody s__law_alike) (defScope s__law_alike) .none kV39 dc39 pm39 an39 cd39 ct39), sl39⟩) (c39 : PySem.W.codeIn K cd39 "_law_alike" = true) (k39 : PySem.W.keepIn K (.ref f39) = true)
    (a40 : PySem.W.nsIn K mainGlobals "law" = some (some (.ref f40))) (l40 : K.lookup f40 = some ⟨oc40, od40, .func (PySem.W.fnOf "law" "law" (defArgs s_law) (defBody s_law) (defScope s_law) .none kV40 dc40 pm40 an40 cd40 ct40), sl40⟩) (c40 : PySem.W.codeIn K cd40 "law" = true) (k40 : PySem.W.keepIn K (.ref f40) = true)
    (z0 : PySem.W.nsIn K mainGlobals "len" = some none)
    (z1 : PySem.W.nsIn K mainGlobals "int" = some none)
    (z2 : PySem.W.nsIn K mainGlobals "bool" = some none)
    (z3 : PySem.W.nsIn K mainGlobals "tuple" = some none)
    (z4 : PySem.W.nsIn K mainGlobals "list" = some none)
    (z5 : PySem.W.nsIn K mainGlobals "isinstance" = some none)
    (z6 : PySem.W.nsIn K mainGlobals "range" = some none)
    (z7 : PySem.W.nsIn K mainGlobals "enumerate" = some none)
    (z8 : PySem.W.nsIn K mainGlobals "zip" = some none)
    (z9 : PySem.W.nsIn K mainGlobals "sum" = some none)
    (z10 : PySem.W.nsIn K mainGlobals "min" = some none)
    (z11 : PySem.W.nsIn K mainGlobals "max" = some none)
    (z12 : PySem.W.nsIn K mainGlobals "abs" = some none)
    (z13 : PySem.W.nsIn K mainGlobals "all" = some none)
    (z14 : PySem.W.nsIn K mainGlobals "any" = some none)
    (z15 : PySem.W.nsIn K mainGlobals "reversed" = some none)
    (g_gcd : PySem.W.nsIn K mainGlobals "gcd" = some (some (.builtin "math.gcd")))
    (a_Form : PySem.W.nsIn K mainGlobals "Form" = some (some (.ref c_Form)))
    (a_Judgement : PySem.W.nsIn K mainGlobals "Judgement" = some (some (.ref c_Judgement)))
    (pg_Form : PySem.W.plainGet K c_Form Str.empty = true)
    (hd_Form : PySem.W.hasDictIn K c_Form = true)
    (po_Form : PySem.W.plainOver K c_Form = true)
    (sa_Form : PySem.W.findIn K (.ref c_Form) "__setattr__" = some (some (.builtin "object.__setattr__")))
    (mk_Form : PySem.W.makesIn K c_Form = true)
    (kc_Form : PySem.W.keepIn K (.ref c_Form) = true)
    (na_Form_size : PySem.W.findIn K (.ref c_Form) "size" = some none)
    (na_Form_entries : PySem.W.findIn K (.ref c_Form) "entries" = some none)
    (na_Form_bottom : PySem.W.findIn K (.ref c_Form) "bottom" = some none)
    (in_Form : PySem.W.findIn K (.ref c_Form) "__init__" = some (some (.ref f_Form)))
    (isf_Form : PySem.W.isFn K (.ref f_Form) = true)
    (lf_Form : K.lookup f_Form = some ⟨oci_Form, odi_Form, .func (PySem.W.fnOf "__init__" "Form.__init__" (defArgs s_iForm) (defBody s_iForm) (defScope s_iForm) .none (.ref D_Form) dci_Form pmi_Form ani_Form cdi_Form cti_Form), sli_Form⟩)
    (cf_Form : PySem.W.codeIn K cdi_Form "Form.__init__" = true)
    (kf_Form : PySem.W.keepIn K (.ref f_Form) = true)
    (kd_Form : PySem.W.nsIn K D_Form "bottom" = some (some (.int 1 tki_Form)))
    (pg_Judgement : PySem.W.plainGet K c_Judgement Str.empty = true)
    (hd_Judgement : PySem.W.hasDictIn K c_Judgement = true)
    (po_Judgement : PySem.W.plainOver K c_Judgement = true)
    (sa_Judgement : PySem.W.findIn K (.ref c_Judgement) "__setattr__" = some (some (.builtin "object.__setattr__")))
    (mk_Judgement : PySem.W.makesIn K c_Judgement = true)
    (kc_Judgement : PySem.W.keepIn K (.ref c_Judgement) = true)
    (na_Judgement_holds : PySem.W.findIn K (.ref c_Judgement) "holds" = some none)
    (na_Judgement_squares : PySem.W.findIn K (.ref c_Judgement) "squares" = some none)
    (na_Judgement_point : PySem.W.findIn K (.ref c_Judgement) "point" = some none)
    (in_Judgement : PySem.W.findIn K (.ref c_Judgement) "__init__" = some (some (.ref f_Judgement)))
    (isf_Judgement : PySem.W.isFn K (.ref f_Judgement) = true)
    (lf_Judgement : K.lookup f_Judgement = some ⟨oci_Judgement, odi_Judgement, .func (PySem.W.fnOf "__init__" "Judgement.__init__" (defArgs s_iJudgement) (defBody s_iJudgement) (defScope s_iJudgement) .none kVi_Judgement dci_Judgement pmi_Judgement ani_Judgement cdi_Judgement cti_Judgement), sli_Judgement⟩)
    (cf_Judgement : PySem.W.codeIn K cdi_Judgement "Judgement.__init__" = true)
    (kf_Judgement : PySem.W.keepIn K (.ref f_Judgement) = true)
    (me_mAdd : PySem.W.findIn K (.ref c_Form) "__add__" = some (some (.ref h_mAdd)))
    (mf_mAdd : PySem.W.isFn K (.ref h_mAdd) = true)
    (ml_mAdd : K.lookup h_mAdd = some ⟨ocm_mAdd, odm_mAdd, .func (PySem.W.fnOf "__add__" "Form.__add__" (defArgs s_mAdd) (defBody s_mAdd) (defScope s_mAdd) .none kVm_mAdd dcm_mAdd pmm_mAdd anm_mAdd cdm_mAdd ctm_mAdd), slm_mAdd⟩)
    (mc_mAdd : PySem.W.codeIn K cdm_mAdd "Form.__add__" = true)
    (mp_mAdd : PySem.W.keepIn K (.ref h_mAdd) = true)
    (me_mEq : PySem.W.findIn K (.ref c_Form) "__eq__" = some (some (.ref h_mEq)))
    (mf_mEq : PySem.W.isFn K (.ref h_mEq) = true)
    (ml_mEq : K.lookup h_mEq = some ⟨ocm_mEq, odm_mEq, .func (PySem.W.fnOf "__eq__" "Form.__eq__" (defArgs s_mEq) (defBody s_mEq) (defScope s_mEq) .none kVm_mEq dcm_mEq pmm_mEq anm_mEq cdm_mEq ctm_mEq), slm_mEq⟩)
    (mc_mEq : PySem.W.codeIn K cdm_mEq "Form.__eq__" = true)
    (mp_mEq : PySem.W.keepIn K (.ref h_mEq) = true)
    (me_mScaled : PySem.W.findIn K (.ref c_Form) "scaled" = some (some (.ref h_mScaled)))
    (mf_mScaled : PySem.W.isFn K (.ref h_mScaled) = true)
    (ml_mScaled : K.lookup h_mScaled = some ⟨ocm_mScaled, odm_mScaled, .func (PySem.W.fnOf "scaled" "Form.scaled" (defArgs s_mScaled) (defBody s_mScaled) (defScope s_mScaled) .none kVm_mScaled dcm_mScaled pmm_mScaled anm_mScaled cdm_mScaled ctm_mScaled), slm_mScaled⟩)
    (mc_mScaled : PySem.W.codeIn K cdm_mScaled "Form.scaled" = true)
    (mp_mScaled : PySem.W.keepIn K (.ref h_mScaled) = true)
    (rd_Form : PySem.W.readsIn K c_Form (.type "type") = true)
    (cga_Form : PySem.W.specialIn K (.ref c_Form) "__getattribute__" = some (some (.builtin "type.__getattribute__")))
    (cm_mZero : PySem.W.findCls K (.ref c_Form) (.type "type") "zero" = some (.get (.builtin "classmethod.__get__") (.ref p_mZero) .none (.ref c_Form)))
    (cr_mZero : PySem.W.recIn K p_mZero "classmethod" = some (.ref h_mZero :: rest_mZero))
    (cfi_mZero : PySem.W.fnIn K h_mZero = true)
    (ml_mZero : K.lookup h_mZero = some ⟨ocm_mZero, odm_mZero, .func (PySem.W.fnOf "zero" "Form.zero" (defArgs s_mZero) (defBody s_mZero) (defScope s_mZero) .none kVm_mZero dcm_mZero pmm_mZero anm_mZero cdm_mZero ctm_mZero), slm_mZero⟩)
    (mc_mZero : PySem.W.codeIn K cdm_mZero "Form.zero" = true)
    (mp_mZero : PySem.W.keepIn K (.ref h_mZero) = true)
    (cm_mSquare : PySem.W.findCls K (.ref c_Form) (.type "type") "square" = some (.get (.builtin "classmethod.__get__") (.ref p_mSquare) .none (.ref c_Form)))
    (cr_mSquare : PySem.W.recIn K p_mSquare "classmethod" = some (.ref h_mSquare :: rest_mSquare))
    (cfi_mSquare : PySem.W.fnIn K h_mSquare = true)
    (ml_mSquare : K.lookup h_mSquare = some ⟨ocm_mSquare, odm_mSquare, .func (PySem.W.fnOf "square" "Form.square" (defArgs s_mSquare) (defBody s_mSquare) (defScope s_mSquare) .none kVm_mSquare dcm_mSquare pmm_mSquare anm_mSquare cdm_mSquare ctm_mSquare), slm_mSquare⟩)
    (mc_mSquare : PySem.W.codeIn K cdm_mSquare "Form.square" = true)
    (mp_mSquare : PySem.W.keepIn K (.ref h_mSquare) = true)
    (i_Form : PySem.W.isClsIn K c_Form = true)
    (y_Form : PySem.W.typeIn K (.ref c_Form) = some (.type "type"))
    (oc_Form : PySem.W.findIn K (.ref c_Form) "__class__" = some (some (.builtin "object.__class__")))
    (om_Form : PySem.W.mroIn K c_Form (.type "object") = some true)
    (i_Judgement : PySem.W.isClsIn K c_Judgement = true)
    (y_Judgement : PySem.W.typeIn K (.ref c_Judgement) = some (.type "type"))
    (oc_Judgement : PySem.W.findIn K (.ref c_Judgement) "__class__" = some (some (.builtin "object.__class__")))
    (om_Judgement : PySem.W.mroIn K c_Judgement (.type "object") = some true)
    (nF : PySem.W.notFirst K c_Form (.ref c_Form) = true)
    (sf_Form : PySem.W.selfFirst K c_Form = true)
    (cn0 : PySem.W.specialIn K (.builtin "object.__class__") "__get__" = some (some (.builtin "getset_descriptor.__get__")))
    (ct0 : PySem.W.takesIn K (.builtin "object.__class__") = some true)
    (s_Form_Form : PySem.W.subIn K (.ref c_Form) (.ref c_Form) = some true)
    (s_Judgement_Judgement : PySem.W.subIn K (.ref c_Judgement) (.ref c_Judgement) = some true)
    : ∃ fd : FuncData, (∀ (s : Shared) (v : Value), BindsTo s fd ⟨[v], []⟩ [("script", v)]) ∧ ∀ base : Heap, K.In base → base.Ns mainGlobals mg → FnOk l.prog w K mg base CX0 12 fa fd ["script"] (spLaw K) := by
  have e := hfa.symm.trans (PySem.W.mg_of X G a40)
  cases e
  have T : Txt mg := { b_len := PySem.W.mg_none_of X G z0, b_int := PySem.W.mg_none_of X G z1, b_bool := PySem.W.mg_none_of X G z2, b_tuple := PySem.W.mg_none_of X G z3, b_list := PySem.W.mg_none_of X G z4, b_isinstance := PySem.W.mg_none_of X G z5, b_range := PySem.W.mg_none_of X G z6, b_enumerate := PySem.W.mg_none_of X G z7, b_zip := PySem.W.mg_none_of X G z8, b_sum := PySem.W.mg_none_of X G z9, b_min := PySem.W.mg_none_of X G z10, b_max := PySem.W.mg_none_of X G z11, b_abs := PySem.W.mg_none_of X G z12, b_all := PySem.W.mg_none_of X G z13, b_any := PySem.W.mg_none_of X G z14, b_reversed := PySem.W.mg_none_of X G z15, g_gcd := PySem.W.mg_of X G g_gcd }
  have G_Form := PySem.W.mg_of X G a_Form
  have G_Judgement := PySem.W.mg_of X G a_Judgement
  have FO_Form := funD_of (st := s_iForm) lf_Form cf_Form kf_Form kd_Form
  have MK_Form : Mk K c_Form f_Form := ⟨mk_Form, in_Form, isf_Form, kc_Form⟩
  have CL_Form : Cls K c_Form := ⟨pg_Form, hd_Form, po_Form, sa_Form⟩
  have FO_Judgement := fun_mk (st := s_iJudgement) lf_Judgement cf_Judgement kf_Judgement
  have BO_Judgement := FO_Judgement.binds (ps := ["self", "holds", "squares", "point"]) fun _ _ _ _ _ _ us hl => match us, hl with | [_, _, _, _], _ => rfl
  have MK_Judgement : Mk K c_Judgement f_Judgement := ⟨mk_Judgement, in_Judgement, isf_Judgement, kc_Judgement⟩
  have CL_Judgement : Cls K c_Judgement := ⟨pg_Judgement, hd_Judgement, po_Judgement, sa_Judgement⟩
  have FM_mAdd := fun_mk (st := s_mAdd) ml_mAdd mc_mAdd mp_mAdd
  have BM_mAdd := FM_mAdd.binds (ps := ["self", "other"]) fun _ _ _ _ _ _ us hl => match us, hl with | [_, _], _ => rfl
  have FM_mEq := fun_mk (st := s_mEq) ml_mEq mc_mEq mp_mEq
  have BM_mEq := FM_mEq.binds (ps := ["self", "other"]) fun _ _ _ _ _ _ us hl => match us, hl with | [_, _], _ => rfl
  have FM_mScaled := fun_mk (st := s_mScaled) ml_mScaled mc_mScaled mp_mScaled
  have BM_mScaled := FM_mScaled.binds (ps := ["self", "factor"]) fun _ _ _ _ _ _ us hl => match us, hl with | [_, _], _ => rfl
  have FM_mZero := fun_mk (st := s_mZero) ml_mZero mc_mZero mp_mZero
  have BM_mZero := FM_mZero.binds (ps := ["cls", "size"]) fun _ _ _ _ _ _ us hl => match us, hl with | [_, _], _ => rfl
  have FM_mSquare := fun_mk (st := s_mSquare) ml_mSquare mc_mSquare mp_mSquare
  have BM_mSquare := FM_mSquare.binds (ps := ["cls", "row"]) fun _ _ _ _ _ _ us hl => match us, hl with | [_, _], _ => rfl
  have F_unit_point := fun_mk (st := s_unit_point) l1 c1 k1
  have m_unit_point := PySem.W.mg_of X G a1
  have b_unit_point := F_unit_point.binds (ps := ["size", "index"]) fun _ _ _ _ _ _ us hl => match us, hl with | [_, _], _ => rfl
  have F_side_index := fun_mk (st := s_side_index) l2 c2 k2
  have m_side_index := PySem.W.mg_of X G a2
  have b_side_index := F_side_index.binds (ps := ["line", "index"]) fun _ _ _ _ _ _ us hl => match us, hl with | [_, _], _ => rfl
  have F_bad_point := fun_mk (st := s_bad_point) l3 c3 k3
  have m_bad_point := PySem.W.mg_of X G a3
  have b_bad_point := F_bad_point.binds (ps := ["table", "index"]) fun _ _ _ _ _ _ us hl => match us, hl with | [_, _], _ => rfl
  have F_reduced := fun_mk (st := s_reduced) l4 c4 k4
  have m_reduced := PySem.W.mg_of X G a4
  have b_reduced := F_reduced.binds (ps := ["table", "index", "divisor"]) fun _ _ _ _ _ _ us hl => match us, hl with | [_, _, _], _ => rfl
  have F_eliminated := fun_mk (st := s_eliminated) l5 c5 k5
  have m_eliminated := PySem.W.mg_of X G a5
  have b_eliminated := F_eliminated.binds (ps := ["entries"]) fun _ _ _ _ _ _ us hl => match us, hl with | [_], _ => rfl
  have F_settled := fun_mk (st := s_settled) l6 c6 k6
  have m_settled := PySem.W.mg_of X G a6
  have b_settled := F_settled.binds (ps := ["pivots", "point"]) fun _ _ _ _ _ _ us hl => match us, hl with | [_, _], _ => rfl
  have F_frozen_numbers := fun_mk (st := s_frozen_numbers) l7 c7 k7
  have m_frozen_numbers := PySem.W.mg_of X G a7
  have b_frozen_numbers := F_frozen_numbers.binds (ps := ["value"]) fun _ _ _ _ _ _ us hl => match us, hl with | [_], _ => rfl
  have F_frozen_part := fun_mk (st := s_frozen_part) l8 c8 k8
  have m_frozen_part := PySem.W.mg_of X G a8
  have b_frozen_part := F_frozen_part.binds (ps := ["value"]) fun _ _ _ _ _ _ us hl => match us, hl with | [_], _ => rfl
  have F_frozen := fun_mk (st := s_frozen) l9 c9 k9
  have m_frozen := PySem.W.mg_of X G a9
  have b_frozen := F_frozen.binds (ps := ["value"]) fun _ _ _ _ _ _ us hl => match us, hl with | [_], _ => rfl
  have F_lowered := fun_mk (st := s_lowered) l10 c10 k10
  have m_lowered := PySem.W.mg_of X G a10
  have b_lowered := F_lowered.binds (ps := ["numbers", "bottom"]) fun _ _ _ _ _ _ us hl => match us, hl with | [_, _], _ => rfl
  have F_fraction := fun_mk (st := s_fraction) l11 c11 k11
  have m_fraction := PySem.W.mg_of X G a11
  have b_fraction := F_fraction.binds (ps := ["top", "bottom"]) fun _ _ _ _ _ _ us hl => match us, hl with | [_, _], _ => rfl
  have F_check_square := fun_mk (st := s_check_square) l12 c12 k12
  have m_check_square := PySem.W.mg_of X G a12
  have b_check_square := F_check_square.binds (ps := ["lines"]) fun _ _ _ _ _ _ us hl => match us, hl with | [_], _ => rfl
  have F_check_symmetric := fun_mk (st := s_check_symmetric) l13 c13 k13
  have m_check_symmetric := PySem.W.mg_of X G a13
  have b_check_symmetric := F_check_symmetric.binds (ps := ["lines"]) fun _ _ _ _ _ _ us hl => match us, hl with | [_], _ => rfl
  have F_check_sizes := fun_mk (st := s_check_sizes) l14 c14 k14
  have m_check_sizes := PySem.W.mg_of X G a14
  have b_check_sizes := F_check_sizes.binds (ps := ["one", "two"]) fun _ _ _ _ _ _ us hl => match us, hl with | [_, _], _ => rfl
  have F_combined_entries := fun_mk (st := s_combined_entries) l15 c15 k15
  have m_combined_entries := PySem.W.mg_of X G a15
  have b_combined_entries := F_combined_entries.binds (ps := ["one", "first", "two", "second"]) fun _ _ _ _ _ _ us hl => match us, hl with | [_, _, _, _], _ => rfl
  have F_is_squares := fun_mk (st := s_is_squares) l16 c16 k16
  have m_is_squares := PySem.W.mg_of X G a16
  have b_is_squares := F_is_squares.binds (ps := ["form", "squares"]) fun _ _ _ _ _ _ us hl => match us, hl with | [_, _], _ => rfl
  have F_echelon_square := fun_mk (st := s_echelon_square) l17 c17 k17
  have m_echelon_square := PySem.W.mg_of X G a17
  have b_echelon_square := F_echelon_square.binds (ps := ["pivot", "bottom"]) fun _ _ _ _ _ _ us hl => match us, hl with | [_, _], _ => rfl
  have F_judge := fun_mk (st := s_judge) l18 c18 k18
  have m_judge := PySem.W.mg_of X G a18
  have b_judge := F_judge.binds (ps := ["form"]) fun _ _ _ _ _ _ us hl => match us, hl with | [_], _ => rfl
  have F__law_whole := fun_mk (st := s__law_whole) l19 c19 k19
  have m__law_whole := PySem.W.mg_of X G a19
  have b__law_whole := F__law_whole.binds (ps := ["value"]) fun _ _ _ _ _ _ us hl => match us, hl with | [_], _ => rfl
  have F__law_cell := fun_mk (st := s__law_cell) l20 c20 k20
  have m__law_cell := PySem.W.mg_of X G a20
  have b__law_cell := F__law_cell.binds (ps := ["script", "k"]) fun _ _ _ _ _ _ us hl => match us, hl with | [_, _], _ => rfl
  have F__law_digits := fun_mk (st := s__law_digits) l21 c21 k21
  have m__law_digits := PySem.W.mg_of X G a21
  have b__law_digits := F__law_digits.binds (ps := ["cell", "sizes"]) fun _ _ _ _ _ _ us hl => match us, hl with | [_, _], _ => rfl
  have F__law_gcd := fun_mk (st := s__law_gcd) l22 c22 k22
  have m__law_gcd := PySem.W.mg_of X G a22
  have b__law_gcd := F__law_gcd.binds (ps := ["one", "two"]) fun _ _ _ _ _ _ us hl => match us, hl with | [_, _], _ => rfl
  have F__law_dot := fun_mk (st := s__law_dot) l23 c23 k23
  have m__law_dot := PySem.W.mg_of X G a23
  have b__law_dot := F__law_dot.binds (ps := ["one", "two"]) fun _ _ _ _ _ _ us hl => match us, hl with | [_, _], _ => rfl
  have F__law_value := fun_mk (st := s__law_value) l24 c24 k24
  have m__law_value := PySem.W.mg_of X G a24
  have b__law_value := F__law_value.binds (ps := ["table", "one", "two"]) fun _ _ _ _ _ _ us hl => match us, hl with | [_, _, _], _ => rfl
  have F__law_is_point := fun_mk (st := s__law_is_point) l25 c25 k25
  have m__law_is_point := PySem.W.mg_of X G a25
  have b__law_is_point := F__law_is_point.binds (ps := ["value", "size"]) fun _ _ _ _ _ _ us hl => match us, hl with | [_, _], _ => rfl
  have F__law_shared := fun_mk (st := s__law_shared) l26 c26 k26
  have m__law_shared := PySem.W.mg_of X G a26
  have b__law_shared := F__law_shared.binds (ps := ["line"]) fun _ _ _ _ _ _ us hl => match us, hl with | [_], _ => rfl
  have F__law_leads := fun_mk (st := s__law_leads) l27 c27 k27
  have m__law_leads := PySem.W.mg_of X G a27
  have b__law_leads := F__law_leads.binds (ps := ["table"]) fun _ _ _ _ _ _ us hl => match us, hl with | [_], _ => rfl
  have F__law_draw_part := fun_mk (st := s__law_draw_part) l28 c28 k28
  have m__law_draw_part := PySem.W.mg_of X G a28
  have b__law_draw_part := F__law_draw_part.binds (ps := ["cell", "size", "k", "echelon", "wide"]) fun _ _ _ _ _ _ us hl => match us, hl with | [_, _, _, _, _], _ => rfl
  have F__law_weighed := fun_mk (st := s__law_weighed) l29 c29 k29
  have m__law_weighed := PySem.W.mg_of X G a29
  have b__law_weighed := F__law_weighed.binds (ps := ["size", "drawn"]) fun _ _ _ _ _ _ us hl => match us, hl with | [_, _], _ => rfl
  have F__law_draw_plain := fun_mk (st := s__law_draw_plain) l30 c30 k30
  have m__law_draw_plain := PySem.W.mg_of X G a30
  have b__law_draw_plain := F__law_draw_plain.binds (ps := ["script", "at", "size", "nulls"]) fun _ _ _ _ _ _ us hl => match us, hl with | [_, _, _, _], _ => rfl
  have F__law_draw_table := fun_mk (st := s__law_draw_table) l31 c31 k31
  have m__law_draw_table := PySem.W.mg_of X G a31
  have b__law_draw_table := F__law_draw_table.binds (ps := ["script", "at", "size", "kind", "wide", "row"]) fun _ _ _ _ _ _ us hl => match us, hl with | [_, _, _, _, _, _], _ => rfl
  have F__law_echelon := fun_mk (st := s__law_echelon) l32 c32 k32
  have m__law_echelon := PySem.W.mg_of X G a32
  have b__law_echelon := F__law_echelon.binds (ps := ["told", "found", "size"]) fun _ _ _ _ _ _ us hl => match us, hl with | [_, _, _], _ => rfl
  have F__law_expands := fun_mk (st := s__law_expands) l33 c33 k33
  have m__law_expands := PySem.W.mg_of X G a33
  have b__law_expands := F__law_expands.binds (ps := ["table", "low", "told"]) fun _ _ _ _ _ _ us hl => match us, hl with | [_, _, _], _ => rfl
  have F__law_judged := fun_mk (st := s__law_judged) l34 c34 k34
  have m__law_judged := PySem.W.mg_of X G a34
  have b__law_judged := F__law_judged.binds (ps := ["answer", "table", "low"]) fun _ _ _ _ _ _ us hl => match us, hl with | [_, _, _], _ => rfl
  have F__law_shows := fun_mk (st := s__law_shows) l35 c35 k35
  have m__law_shows := PySem.W.mg_of X G a35
  have b__law_shows := F__law_shows.binds (ps := ["table", "low", "squares"]) fun _ _ _ _ _ _ us hl => match us, hl with | [_, _, _], _ => rfl
  have F__law_papers_right := fun_mk (st := s__law_papers_right) l36 c36 k36
  have m__law_papers_right := PySem.W.mg_of X G a36
  have b__law_papers_right := F__law_papers_right.binds (ps := ["form", "table", "low", "papers"]) fun _ _ _ _ _ _ us hl => match us, hl with | [_, _, _, _], _ => rfl
  have F__law_told_papers := fun_mk (st := s__law_told_papers) l37 c37 k37
  have m__law_told_papers := PySem.W.mg_of X G a37
  have b__law_told_papers := F__law_told_papers.binds (ps := ["squares", "size", "place"]) fun _ _ _ _ _ _ us hl => match us, hl with | [_, _, _], _ => rfl
  have F__law_own_right := fun_mk (st := s__law_own_right) l38 c38 k38
  have m__law_own_right := PySem.W.mg_of X G a38
  have b__law_own_right := F__law_own_right.binds (ps := ["script", "size", "wide", "place"]) fun _ _ _ _ _ _ us hl => match us, hl with | [_, _, _, _], _ => rfl
  have F__law_alike := fun_mk (st := s__law_alike) l39 c39 k39
  have m__law_alike := PySem.W.mg_of X G a39
  have b__law_alike := F__law_alike.binds (ps := ["one", "two"]) fun _ _ _ _ _ _ us hl => match us, hl with | [_, _], _ => rfl
  have F_law := fun_mk (st := s_law) l40 c40 k40
  have m_law := PySem.W.mg_of X G a40
  refine ⟨PySem.W.fnOf "law" "law" (defArgs s_law) (defBody s_law) (defScope s_law) .none kV40 dc40 pm40 an40 cd40 ct40, fun s v => .of_eq rfl, fun base _ _ => ?_⟩
  have U : Gls mg c_Form c_Judgement := { g_Form := G_Form, g_Judgement := G_Judgement }
  have O : Obs K c_Form c_Judgement := { clF := CL_Form, F_size := na_Form_size, F_entries := na_Form_entries, F_bottom := na_Form_bottom, clR := CL_Judgement, R_holds := na_Judgement_holds, R_squares := na_Judgement_squares, R_point := na_Judgement_point }
  have V0 : Frm K c_Form c_Judgement := { kF := EX.kit_sub i_Form y_Form s_Form_Form s_Form_Form, kR := EX.kit_sub i_Judgement y_Judgement s_Judgement_Judgement s_Judgement_Judgement, f1 := oc_Form, r1 := oc_Judgement, c2 := cn0, c3 := ct0, f4 := om_Form, r4 := om_Judgement }
  obtain ⟨gF, kbF⟩ := kb_Form FO_Form
  obtain ⟨gL, kbL⟩ := kb_FormL FO_Form
  have C_frozen_numbers : Cal l.prog w K mg base 1 "frozen_numbers" ["value"] (spFz K 1) := ⟨_, _, ok_frozen_numbers F_frozen_numbers T, m_frozen_numbers, F_frozen_numbers.kp, b_frozen_numbers⟩
  have C_frozen_part : Cal l.prog w K mg base 2 "frozen_part" ["value"] (spFz K 2) := ⟨_, _, ok_frozen_part F_frozen_part T C_frozen_numbers, m_frozen_part, F_frozen_part.kp, b_frozen_part⟩
  have C_frozen : Cal l.prog w K mg base 3 "frozen" ["value"] (spFz K 3) := ⟨_, _, ok_frozen F_frozen T C_frozen_part, m_frozen, F_frozen.kp, b_frozen⟩
  have C_lowered : Cal l.prog w K mg base 1 "lowered" ["numbers", "bottom"] spLow := ⟨_, _, ok_lowered F_lowered T, m_lowered, F_lowered.kp, b_lowered⟩
  have C_fraction : Cal l.prog w K mg base 1 "fraction" ["top", "bottom"] spFraction := ⟨_, _, ok_fraction F_fraction T, m_fraction, F_fraction.kp, b_fraction⟩
  have C_check_square : Cal l.prog w K mg base 1 "check_square" ["lines"] (spSquare K) := ⟨_, _, ok_check_square F_check_square T, m_check_square, F_check_square.kp, b_check_square⟩
  have C_check_symmetric : Cal l.prog w K mg base 1 "check_symmetric" ["lines"] (spSymm K) := ⟨_, _, ok_check_symmetric F_check_symmetric T, m_check_symmetric, F_check_symmetric.kp, b_check_symmetric⟩
  have C__law_cell : Cal l.prog w K mg base 1 "_law_cell" ["script", "k"] (spCell K) := ⟨_, _, ok__law_cell F__law_cell T, m__law_cell, F__law_cell.kp, b__law_cell⟩
  have C__law_digits : Cal l.prog w K mg base 1 "_law_digits" ["cell", "sizes"] (spDigits K) := ⟨_, _, ok__law_digits F__law_digits T, m__law_digits, F__law_digits.kp, b__law_digits⟩
  have C__law_whole : Cal l.prog w K mg base 1 "_law_whole" ["value"] spLaw_whole := ⟨_, _, ok__law_whole F__law_whole T, m__law_whole, F__law_whole.kp, b__law_whole⟩
  have C__law_gcd : Cal l.prog w K mg base 1 "_law_gcd" ["one", "two"] spGcd := ⟨_, _, ok__law_gcd F__law_gcd T, m__law_gcd, F__law_gcd.kp, b__law_gcd⟩
  have C__law_is_point : Cal l.prog w K mg base 2 "_law_is_point" ["value", "size"] (spIsPoint K) := ⟨_, _, ok__law_is_point F__law_is_point T C__law_whole, m__law_is_point, F__law_is_point.kp, b__law_is_point⟩
  have C__law_dot : Cal l.prog w K mg base 1 "_law_dot" ["one", "two"] (spDot K) := ⟨_, _, ok__law_dot F__law_dot T, m__law_dot, F__law_dot.kp, b__law_dot⟩
  have C_unit_point : Cal l.prog w K mg base 1 "unit_point" ["size", "index"] (spUnit K) := ⟨_, _, ok_unit_point F_unit_point T, m_unit_point, F_unit_point.kp, b_unit_point⟩
  have C_side_index : Cal l.prog w K mg base 1 "side_index" ["line", "index"] (spSide K) := ⟨_, _, ok_side_index F_side_index T, m_side_index, F_side_index.kp, b_side_index⟩
  have C_bad_point : Cal l.prog w K mg base 2 "bad_point" ["table", "index"] (spBad K) := ⟨_, _, ok_bad_point F_bad_point T C_unit_point C_side_index, m_bad_point, F_bad_point.kp, b_bad_point⟩
  have C_reduced : Cal l.prog w K mg base 1 "reduced" ["table", "index", "divisor"] (spReduced K) := ⟨_, _, ok_reduced F_reduced T, m_reduced, F_reduced.kp, b_reduced⟩
  have C_eliminated : Cal l.prog w K mg base 3 "eliminated" ["entries"] (spElim K) := ⟨_, _, ok_eliminated F_eliminated T C_bad_point C_reduced, m_eliminated, F_eliminated.kp, b_eliminated⟩
  have C_settled : Cal l.prog w K mg base 1 "settled" ["pivots", "point"] (spSettled K) := ⟨_, _, ok_settled F_settled T, m_settled, F_settled.kp, b_settled⟩
  have C_echelon_square : Cal l.prog w K mg base 2 "echelon_square" ["pivot", "bottom"] (spEch K) := ⟨_, _, ok_echelon_square F_echelon_square T C_fraction, m_echelon_square, F_echelon_square.kp, b_echelon_square⟩
  have C_check_sizes : Cal l.prog w K mg base 1 "check_sizes" ["one", "two"] (spSizes K c_Form) := ⟨_, _, ok_check_sizes F_check_sizes T O, m_check_sizes, F_check_sizes.kp, b_check_sizes⟩
  have C_combined_entries : Cal l.prog w K mg base 1 "combined_entries" ["one", "first", "two", "second"] (spComb K c_Form) := ⟨_, _, ok_combined_entries F_combined_entries T O, m_combined_entries, F_combined_entries.kp, b_combined_entries⟩
  have C__law_value : Cal l.prog w K mg base 2 "_law_value" ["table", "one", "two"] (spLawV K) := ⟨_, _, ok__law_value F__law_value T C__law_dot, m__law_value, F__law_value.kp, b__law_value⟩
  have C__law_shared : Cal l.prog w K mg base 2 "_law_shared" ["line"] (spShared K) := ⟨_, _, ok__law_shared F__law_shared T C__law_gcd, m__law_shared, F__law_shared.kp, b__law_shared⟩
  have C__law_leads : Cal l.prog w K mg base 2 "_law_leads" ["table"] (spLeads K) := ⟨_, _, ok__law_leads F__law_leads T C__law_gcd, m__law_leads, F__law_leads.kp, b__law_leads⟩
  have C__law_draw_part : Cal l.prog w K mg base 2 "_law_draw_part" ["cell", "size", "k", "echelon", "wide"] spPart := ⟨_, _, ok__law_draw_part F__law_draw_part T C__law_digits, m__law_draw_part, F__law_draw_part.kp, b__law_draw_part⟩
  have C__law_weighed : Cal l.prog w K mg base 1 "_law_weighed" ["size", "drawn"] spWeighed := ⟨_, _, ok__law_weighed F__law_weighed T, m__law_weighed, F__law_weighed.kp, b__law_weighed⟩
  have C__law_draw_plain : Cal l.prog w K mg base 2 "_law_draw_plain" ["script", "at", "size", "nulls"] (spPlain K) := ⟨_, _, ok__law_draw_plain F__law_draw_plain T C__law_digits C__law_cell, m__law_draw_plain, F__law_draw_plain.kp, b__law_draw_plain⟩
  have C__law_draw_table : Cal l.prog w K mg base 3 "_law_draw_table" ["script", "at", "size", "kind", "wide", "row"] (spDrawT K) := ⟨_, _, ok__law_draw_table F__law_draw_table T C__law_cell C__law_draw_part C__law_draw_plain C__law_weighed, m__law_draw_table, F__law_draw_table.kp, b__law_draw_table⟩
  have C__law_expands : Cal l.prog w K mg base 2 "_law_expands" ["table", "low", "told"] (spExp K) := ⟨_, _, ok__law_expands F__law_expands T C__law_gcd, m__law_expands, F__law_expands.kp, b__law_expands⟩
  have C__law_shows : Cal l.prog w K mg base 3 "_law_shows" ["table", "low", "squares"] (spShows K) := ⟨_, _, ok__law_shows F__law_shows T C__law_expands, m__law_shows, F__law_shows.kp, b__law_shows⟩
  have C__law_echelon : Cal l.prog w K mg base 3 "_law_echelon" ["told", "found", "size"] (spEchL K) := ⟨_, _, ok__law_echelon F__law_echelon T C__law_whole C__law_gcd C__law_is_point C__law_shared, m__law_echelon, F__law_echelon.kp, b__law_echelon⟩
  have C__law_judged : Cal l.prog w K mg base 4 "_law_judged" ["answer", "table", "low"] (spJudged K c_Judgement) := ⟨_, _, ok__law_judged F__law_judged T U O V0 C__law_leads C__law_is_point C__law_value C__law_echelon C__law_expands, m__law_judged, F__law_judged.kp, b__law_judged⟩
  have C__law_alike : Cal l.prog w K mg base 1 "_law_alike" ["one", "two"] (spAlike K c_Judgement) := ⟨_, _, ok__law_alike F__law_alike T O, m__law_alike, F__law_alike.kp, b__law_alike⟩
  have C__law_told_papers : Cal l.prog w K mg base 1 "_law_told_papers" ["squares", "size", "place"] (spToldP K) := ⟨_, _, ok__law_told_papers F__law_told_papers T, m__law_told_papers, F__law_told_papers.kp, b__law_told_papers⟩
  have C_Form : CalK l.prog w K mg base 4 "Form" c_Form 1 ["bottom"] (spForm K c_Form) := ⟨_, _, _, gF, MK_Form, ok_iForm FO_Form T O C_frozen C_check_square C_check_symmetric C_lowered, G_Form, kbF⟩
  have C_cls : CalL l.prog w K mg base 4 c_Form 1 (spForm K c_Form) := ⟨_, _, _, gL, MK_Form, ok_iForm FO_Form T O C_frozen C_check_square C_check_symmetric C_lowered, kbL⟩
  have C_Judgement : CalC l.prog w K mg base 1 "Judgement" c_Judgement ["self", "holds", "squares", "point"] (spJudg K c_Judgement) := ⟨_, _, MK_Judgement, ok_iJudgement FO_Judgement T O, G_Judgement, BO_Judgement⟩
  have C_mZero : CalCM l.prog w K mg base 6 c_Form "zero" (spZero K c_Form) := ⟨_, _, _, ⟨rd_Form, cga_Form⟩, ⟨cm_mZero, ⟨_, cr_mZero⟩, cfi_mZero⟩, raw0 (ok_mZero FM_mZero T O C_cls) BM_mZero⟩
  have C_mSquare : CalCM l.prog w K mg base 6 c_Form "square" (spSq1 K c_Form) := ⟨_, _, _, ⟨rd_Form, cga_Form⟩, ⟨cm_mSquare, ⟨_, cr_mSquare⟩, cfi_mSquare⟩, raw0 (ok_mSquare FM_mSquare T O C_cls) BM_mSquare⟩
  have C_add : FAddOk l.prog w K mg base c_Form := ⟨_, _, ok_mAdd FM_mAdd T O C_check_sizes C_combined_entries C_Form, sf_Form, me_mAdd, mf_mAdd, BM_mAdd⟩
  have C_eq : FEqOk l.prog w K mg base c_Form := ⟨_, _, ok_mEq FM_mEq T U O V0, me_mEq, mf_mEq, BM_mEq⟩
  have C_mScaled : CalM l.prog w K mg base 6 c_Form "scaled" ["self", "factor"] (spFScaled K c_Form) := ⟨_, _, ok_mScaled FM_mScaled T O C_Form, ⟨me_mScaled, mf_mScaled, mp_mScaled⟩, BM_mScaled⟩
  have C_judge : Cal l.prog w K mg base 4 "judge" ["form"] (spJudge K c_Form c_Judgement) := ⟨_, _, ok_judge F_judge T O C_eliminated C_settled C_echelon_square C_Judgement, m_judge, F_judge.kp, b_judge⟩
  have C_is_squares : Cal l.prog w K mg base 7 "is_squares" ["form", "squares"] (spIsSq K c_Form) := ⟨_, _, ok_is_squares F_is_squares T U O V0 nF C_mZero C_mSquare C_mScaled C_add C_eq, m_is_squares, F_is_squares.kp, b_is_squares⟩
  have C__law_papers_right : Cal l.prog w K mg base 8 "_law_papers_right" ["form", "table", "low", "papers"] (spPapers K c_Form) := ⟨_, _, ok__law_papers_right F__law_papers_right T C_is_squares C__law_shows, m__law_papers_right, F__law_papers_right.kp, b__law_papers_right⟩
  have C__law_own_right : Cal l.prog w K mg base 9 "_law_own_right" ["script", "size", "wide", "place"] (spOwn K) := ⟨_, _, ok__law_own_right F__law_own_right T O C__law_cell C__law_draw_part C__law_weighed C_Form C__law_papers_right, m__law_own_right, F__law_own_right.kp, b__law_own_right⟩
  exact ok_law F_law T O C__law_cell C__law_digits C__law_draw_table C_Form C_judge C__law_judged C__law_told_papers C__law_papers_right C__law_own_right C__law_alike
theorem walk {l : PySem.W.OpenLaw} {q : Program} {loose : List Str} {XP : (Str → Option Value) → Heap → Prop} {YP : World → Heap → Prop} {d : DefRec} {K : Params → PySem.W.Frag} (hn : l.most = some 63) (hdf : d.params.defaults = [])
    (hY : ∀ (w : World) (h : Heap), YP w h → (K w.params).In h)
    (F : ∀ (w : World) (mg : Str → Option Value) (fa : Addr) (h : Heap), (K w.params).In h → h.Ns mainGlobals mg → mg d.name = some (.ref fa) →
      ∃ fd : FuncData, (∀ (s : Shared) (u : Value), BindsTo s fd ⟨[u], []⟩ [("script", u)]) ∧ ∀ base : Heap, (K w.params).In base → base.Ns mainGlobals mg → FnOk l.prog w (K w.params) mg base CX0 12 fa fd ["script"] (spLaw (K w.params))) :
    PySem.W.WalkO q loose XP YP l.row.toRowW d [] (fun f vs => PySem.call f vs) :=
  L2.walk_of (n := 63) (k := 12) (x := "script") (CX := fun _ => CX0) (sp := fun w => spLaw (K w.params)) hn (by decide) hdf ⟨rfl, by decide, by decide⟩ hY F (fun _ _ a ns hl _ hS => ⟨a, ns, rfl, hS, hl, fun _ => rfl⟩) fun _ _ _ _ _ z => z
end P01
open PySem PySem.W PyProof.Rows
set_option maxRecDepth 100000 in
set_option maxHeartbeats 0 in
theorem PySem.Challenge.cw_wholecables_k01_judge_whole_holds : PySem.Challenge.rw_wholecables_k01_judge_whole.Holds := by
  w_on; o_law; k_head; (case hw => w_witness2)
  k_fill
  refine P01.walk (l := PySem.Challenge.rw_wholecables_k01_judge_whole) rfl rfl (fun w h Y => PySem.W.kIn_of Y) ?F
  case F =>
    intro w mg fa h KX G hmg
    refine' P01.all_mk KX G hmg ?a1 ?l1 ?c1 ?k1 ?a2 ?l2 ?c2 ?k2 ?a3 ?l3 ?c3 ?k3 ?a4 ?l4 ?c4 ?k4 ?a5 ?l5 ?c5 ?k5 ?a6 ?l6 ?c6 ?k6 ?a7 ?l7 ?c7 ?k7 ?a8 ?l8 ?c8 ?k8 ?a9 ?l9 ?c9 ?k9 ?a10 ?l10 ?c10 ?k10 ?a11 ?l11 ?c11 ?k11 ?a12 ?l12 ?c12 ?k12 ?a13 ?l13 ?c13 ?k13 ?a14 ?l14 ?c14 ?k14 ?a15 ?l15 ?c15 ?k15 ?a16 ?l16 ?c16 ?k16 ?a17 ?l17 ?c17 ?k17 ?a18 ?l18 ?c18 ?k18 ?a19 ?l19 ?c19 ?k19 ?a20 ?l20 ?c20 ?k20 ?a21 ?l21 ?c21 ?k21 ?a22 ?l22 ?c22 ?k22 ?a23 ?l23 ?c23 ?k23 ?a24 ?l24 ?c24 ?k24 ?a25 ?l25 ?c25 ?k25 ?a26 ?l26 ?c26 ?k26 ?a27 ?l27 ?c27 ?k27 ?a28 ?l28 ?c28 ?k28 ?a29 ?l29 ?c29 ?k29 ?a30 ?l30 ?c30 ?k30 ?a31 ?l31 ?c31 ?k31 ?a32 ?l32 ?c32 ?k32 ?a33 ?l33 ?c33 ?k33 ?a34 ?l34 ?c34 ?k34 ?a35 ?l35 ?c35 ?k35 ?a36 ?l36 ?c36 ?k36 ?a37 ?l37 ?c37 ?k37 ?a38 ?l38 ?c38 ?k38 ?a39 ?l39 ?c39 ?k39 ?a40 ?l40 ?c40 ?k40 ?z0 ?z1 ?z2 ?z3 ?z4 ?z5 ?z6 ?z7 ?z8 ?z9 ?z10 ?z11 ?z12 ?z13 ?z14 ?z15 ?g_gcd ?a_Form ?a_Judgement ?pg_Form ?hd_Form ?po_Form ?sa_Form ?mk_Form ?kc_Form ?na_Form_size ?na_Form_entries ?na_Form_bottom ?in_Form ?isf_Form ?lf_Form ?cf_Form ?kf_Form ?kd_Form ?pg_Judgement ?hd_Judgement ?po_Judgement ?sa_Judgement ?mk_Judgement ?kc_Judgement ?na_Judgement_holds ?na_Judgement_squares ?na_Judgement_point ?in_Judgement ?isf_Judgement ?lf_Judgement ?cf_Judgement ?kf_Judgement ?me_mAdd ?mf_mAdd ?ml_mAdd ?mc_mAdd ?mp_mAdd ?me_mEq ?mf_mEq ?ml_mEq ?mc_mEq ?mp_mEq ?me_mScaled ?mf_mScaled ?ml_mScaled ?mc_mScaled ?mp_mScaled ?rd_Form ?cga_Form ?cm_mZero ?cr_mZero ?cfi_mZero ?ml_mZero ?mc_mZero ?mp_mZero ?cm_mSquare ?cr_mSquare ?cfi_mSquare ?ml_mSquare ?mc_mSquare ?mp_mSquare ?i_Form ?y_Form ?oc_Form ?om_Form ?i_Judgement ?y_Judgement ?oc_Judgement ?om_Judgement ?nF ?sf_Form ?cn0 ?ct0 ?s_Form_Form ?s_Judgement_Judgement
    (case a1 => k_is)
    (case l1 => k_is)
    (case c1 => k_is)
    (case k1 => k_is)
    (case a2 => k_is)
    (case l2 => k_is)
    (case c2 => k_is)
    (case k2 => k_is)
    (case a3 => k_is)
    (case l3 => k_is)
    (case c3 => k_is)
    (case k3 => k_is)
    (case a4 => k_is)
    (case l4 => k_is)
    (case c4 => k_is)
    (case k4 => k_is)
    (case a5 => k_is)
    (case l5 => k_is)
    (case c5 => k_is)
    (case k5 => k_is)
    (case a6 => k_is)
    (case l6 => k_is)
    (case c6 => k_is)
    (case k6 => k_is)
    (case a7 => k_is)
    (case l7 => k_is)
    (case c7 => k_is)
    (case k7 => k_is)
    (case a8 => k_is)
    (case l8 => k_is)
    (case c8 => k_is)
    (case k8 => k_is)
    (case a9 => k_is)
    (case l9 => k_is)
    (case c9 => k_is)
    (case k9 => k_is)
    (case a10 => k_is)
    (case l10 => k_is)
    (case c10 => k_is)
    (case k10 => k_is)
    (case a11 => k_is)
    (case l11 => k_is)
    (case c11 => k_is)
    (case k11 => k_is)
    (case a12 => k_is)
    (case l12 => k_is)
    (case c12 => k_is)
    (case k12 => k_is)
    (case a13 => k_is)
    (case l13 => k_is)
    (case c13 => k_is)
    (case k13 => k_is)
    (case a14 => k_is)
    (case l14 => k_is)
    (case c14 => k_is)
    (case k14 => k_is)
    (case a15 => k_is)
    (case l15 => k_is)
    (case c15 => k_is)
    (case k15 => k_is)
    (case a16 => k_is)
    (case l16 => k_is)
    (case c16 => k_is)
    (case k16 => k_is)
    (case a17 => k_is)
    (case l17 => k_is)
    (case c17 => k_is)
    (case k17 => k_is)
    (case a18 => k_is)
    (case l18 => k_is)
    (case c18 => k_is)
    (case k18 => k_is)
    (case a19 => k_is)
    (case l19 => k_is)
    (case c19 => k_is)
    (case k19 => k_is)
    (case a20 => k_is)
    (case l20 => k_is)
    (case c20 => k_is)
    (case k20 => k_is)
    (case a21 => k_is)
    (case l21 => k_is)
    (case c21 => k_is)
    (case k21 => k_is)
    (case a22 => k_is)
    (case l22 => k_is)
    (case c22 => k_is)
    (case k22 => k_is)
    (case a23 => k_is)
    (case l23 => k_is)
    (case c23 => k_is)
    (case k23 => k_is)
    (case a24 => k_is)
    (case l24 => k_is)
    (case c24 => k_is)
    (case k24 => k_is)
    (case a25 => k_is)
    (case l25 => k_is)
    (case c25 => k_is)
    (case k25 => k_is)
    (case a26 => k_is)
    (case l26 => k_is)
    (case c26 => k_is)
    (case k26 => k_is)
    (case a27 => k_is)
    (case l27 => k_is)
    (case c27 => k_is)
    (case k27 => k_is)
    (case a28 => k_is)
    (case l28 => k_is)
    (case c28 => k_is)
    (case k28 => k_is)
    (case a29 => k_is)
    (case l29 => k_is)
    (case c29 => k_is)
    (case k29 => k_is)
    (case a30 => k_is)
    (case l30 => k_is)
    (case c30 => k_is)
    (case k30 => k_is)
    (case a31 => k_is)
    (case l31 => k_is)
    (case c31 => k_is)
    (case k31 => k_is)
    (case a32 => k_is)
    (case l32 => k_is)
    (case c32 => k_is)
    (case k32 => k_is)
    (case a33 => k_is)
    (case l33 => k_is)
    (case c33 => k_is)
    (case k33 => k_is)
    (case a34 => k_is)
    (case l34 => k_is)
    (case c34 => k_is)
    (case k34 => k_is)
    (case a35 => k_is)
    (case l35 => k_is)
    (case c35 => k_is)
    (case k35 => k_is)
    (case a36 => k_is)
    (case l36 => k_is)
    (case c36 => k_is)
    (case k36 => k_is)
    (case a37 => k_is)
    (case l37 => k_is)
    (case c37 => k_is)
    (case k37 => k_is)
    (case a38 => k_is)
    (case l38 => k_is)
    (case c38 => k_is)
    (case k38 => k_is)
    (case a39 => k_is)
    (case l39 => k_is)
    (case c39 => k_is)
    (case k39 => k_is)
    (case a40 => k_is)
    (case l40 => k_is)
    (case c40 => k_is)
    (case k40 => k_is)
    (case z0 => k_is)
    (case z1 => k_is)
    (case z2 => k_is)
    (case z3 => k_is)
    (case z4 => k_is)
    (case z5 => k_is)
    (case z6 => k_is)
    (case z7 => k_is)
    (case z8 => k_is)
    (case z9 => k_is)
    (case z10 => k_is)
    (case z11 => k_is)
    (case z12 => k_is)
    (case z13 => k_is)
    (case z14 => k_is)
    (case z15 => k_is)
    (case g_gcd => k_is)
    (case a_Form => k_is)
    (case a_Judgement => k_is)
    (case pg_Form => k_is)
    (case hd_Form => k_is)
    (case po_Form => k_is)
    (case sa_Form => k_is)
    (case mk_Form => k_is)
    (case kc_Form => k_is)
    (case na_Form_size => k_is)
    (case na_Form_entries => k_is)
    (case na_Form_bottom => k_is)
    (case in_Form => k_is)
    (case isf_Form => k_is)
    (case lf_Form => k_is)
    (case cf_Form => k_is)
    (case kf_Form => k_is)
    (case kd_Form => k_is)
    (case pg_Judgement => k_is)
    (case hd_Judgement => k_is)
    (case po_Judgement => k_is)
    (case sa_Judgement => k_is)
    (case mk_Judgement => k_is)
    (case kc_Judgement => k_is)
    (case na_Judgement_holds => k_is)
    (case na_Judgement_squares => k_is)
    (case na_Judgement_point => k_is)
    (case in_Judgement => k_is)
    (case isf_Judgement => k_is)
    (case lf_Judgement => k_is)
    (case cf_Judgement => k_is)
    (case kf_Judgement => k_is)
    (case me_mAdd => k_is)
    (case mf_mAdd => k_is)
    (case ml_mAdd => k_is)
    (case mc_mAdd => k_is)
    (case mp_mAdd => k_is)
    (case me_mEq => k_is)
    (case mf_mEq => k_is)
    (case ml_mEq => k_is)
    (case mc_mEq => k_is)
    (case mp_mEq => k_is)
    (case me_mScaled => k_is)
    (case mf_mScaled => k_is)
    (case ml_mScaled => k_is)
    (case mc_mScaled => k_is)
    (case mp_mScaled => k_is)
    (case rd_Form => k_is)
    (case cga_Form => k_is)
    (case cm_mZero => k_is)
    (case cr_mZero => k_is)
    (case cfi_mZero => k_is)
    (case ml_mZero => k_is)
    (case mc_mZero => k_is)
    (case mp_mZero => k_is)
    (case cm_mSquare => k_is)
    (case cr_mSquare => k_is)
    (case cfi_mSquare => k_is)
    (case ml_mSquare => k_is)
    (case mc_mSquare => k_is)
    (case mp_mSquare => k_is)
    (case i_Form => k_is)
    (case y_Form => k_is)
    (case oc_Form => k_is)
    (case om_Form => k_is)
    (case i_Judgement => k_is)
    (case y_Judgement => k_is)
    (case oc_Judgement => k_is)
    (case om_Judgement => k_is)
    (case nF => k_is)
    (case sf_Form => k_is)
    (case cn0 => k_is)
    (case ct0 => k_is)
    (case s_Form_Form => k_is)
    (case s_Judgement_Judgement => k_is)
