import PyProof.Rows.All
import Wide.All
import OpenK.AllK
import Wide.FinOn
import HandS.Base
import HandS.Call
import HandS.List
import HandS.Comp
import HandS.Iter
import HandS.Walk
import HandS.Zip
import HandS.Words
import HandS.TupAny
import KE.GoesMore
import KE.GoesZip
import KE.KCallOwn
import HandS.IsInst
import HandS.Text
import HandS.Dict
import HandS.DictComp
import HandS.Flt
import HandS.TryOnly
import HandS.Ends
import HandS.WordsList
import HandS.Exc
import HandS.ExcOwn
import HandS.ExcCtx
import HandS.ExcInit
import HandS.ExcField
import HandS.ExcIs
import HandS.HotCalls
import HandS.Codes
import KE.KExcIs
import HandS.ExcValue
import KE.KOwnIter
import HandS.OwnEq
import HandS.IterNext
import KE.GoesComp
import HandS.Gcd
import HandS.Wide
import HandS.Rev
import HandS.MakeKwOnly
import KE.SortData
import KE.DataCmp
import KE.DataMinMax
import KE.DatumOrd
import KE.KSortTupAny
import HandS.Deep
import HandS.GenBody
import HandS.GenCall
import HandS.GenYield
import PyProof.GenComp
import HandS.GenList
import HandS.Style
import HandS.Defaults
import PySem.Challenge.RW_wholecables_k15_least_cut
set_option Elab.async false
set_option linter.all false
set_option maxRecDepth 100000
set_option maxHeartbeats 4000000
set_option maxHeartbeats 4000000
/-! Nests of ints: lists and tuples of any depth, and the same as tuples alone; comprehensions by what each turn gives; a comprehension in a comprehension. -/
namespace WK
open PySem PySem.Spec PyProof.Rows L2
inductive Td where
  | int (i : Int)
  | tup (ts : List Td)
mutual
def Td.dep : Td → Nat
  | .int _ => 0
  | .tup ts => Td.deps ts + 1
def Td.deps : List Td → Nat
  | [] => 0
  | t :: ts => max t.dep (Td.deps ts)
end
mutual
def Td.sm : Td → Prop
  | .int _ => True
  | .tup ts => ts.length ≤ 16000000 ∧ Td.sms ts
def Td.sms : List Td → Prop
  | [] => True
  | t :: ts => t.sm ∧ Td.sms ts
end
mutual
def Td.py : Td → PyData
  | .int i => .int i
  | .tup ts => .tuple (Td.pys ts)
def Td.pys : List Td → List PyData
  | [] => []
  | t :: ts => t.py :: Td.pys ts
end
theorem deps_le {ts : List Td} {t : Td} {n : Nat} (h : Td.deps ts ≤ n) (m : t ∈ ts) : t.dep ≤ n := by
  induction ts with
  | nil => cases m
  | cons x ts ih =>
    simp only [Td.deps] at h
    rcases List.mem_cons.mp m with z | z
    · rw [z]; omega
    · exact ih (by omega) z
theorem sms_of {ts : List Td} {t : Td} (h : Td.sms ts) (m : t ∈ ts) : t.sm := by
  induction ts with
  | nil => cases m
  | cons x ts ih =>
    simp only [Td.sms] at h
    rcases List.mem_cons.mp m with z | z
    · rw [z]; exact h.1
    · exact ih h.2 z
theorem sms_all {ts : List Td} (h : ∀ t ∈ ts, t.sm) : Td.sms ts := by
  induction ts with
  | nil => trivial
  | cons x ts ih => exact ⟨h x List.mem_cons_self, ih fun t m => h t (List.mem_cons_of_mem _ m)⟩
theorem deps_all {ts : List Td} {n : Nat} (h : ∀ t ∈ ts, t.dep ≤ n) : Td.deps ts ≤ n := by
  induction ts with
  | nil => exact Nat.zero_le _
  | cons x ts ih =>
    have h1 := h x List.mem_cons_self
    have h2 := ih fun t m => h t (List.mem_cons_of_mem _ m)
    simp only [Td.deps]
    omega
mutual
inductive Sn (K : PySem.W.Frag) (H : Hp) : V → Td → Prop
  | int (i : Int) : Sn K H (.int i) (.int i)
  | lst {a : Addr} {vs : List V} {ts : List Td} : H a = some (.lst vs) → SnAll K H vs ts → Sn K H (.ref a) (.tup ts)
  | tup {a : Addr} {vs : List V} {ts : List Td} : SqT K H a vs → SnAll K H vs ts → Sn K H (.ref a) (.tup ts)
inductive SnAll (K : PySem.W.Frag) (H : Hp) : List V → List Td → Prop
  | nil : SnAll K H [] []
  | cons {v : V} {vs : List V} {t : Td} {ts : List Td} : Sn K H v t → SnAll K H vs ts → SnAll K H (v :: vs) (t :: ts)
end
mutual
inductive Fz (K : PySem.W.Frag) (H : Hp) : V → Td → Prop
  | int (i : Int) : Fz K H (.int i) (.int i)
  | tup {a : Addr} {vs : List V} {ts : List Td} : SqT K H a vs → FzAll K H vs ts → Fz K H (.ref a) (.tup ts)
inductive FzAll (K : PySem.W.Frag) (H : Hp) : List V → List Td → Prop
  | nil : FzAll K H [] []
  | cons {v : V} {vs : List V} {t : Td} {ts : List Td} : Fz K H v t → FzAll K H vs ts → FzAll K H (v :: vs) (t :: ts)
end
/-- tuples stay -/
def Tk (K : PySem.W.Frag) (H H' : Hp) : Prop := ∀ a xs, SqT K H a xs → SqT K H' a xs
theorem Same_seqT {K : PySem.W.Frag} {H H' : Hp} {a : Addr} {xs : List V} (e : Same H H') (h : SqT K H a xs) : SqT K H' a xs := by
  rcases h with (h | ⟨o, h⟩) | h
  · exact .inl (.inl (e _ _ h))
  · exact .inl (.inr ⟨o, e _ _ h⟩)
  · exact .inr h
theorem Same.tk {K : PySem.W.Frag} {H H' : Hp} (e : Same H H') : Tk K H H' := fun _ _ h => Same_seqT e h
theorem tk_at {K : PySem.W.Frag} {H H' : Hp} {D : Addr} {o : HO} (hD : H D = some o) (no : ∀ xs, o ≠ .tup xs) (nf : ∀ b xs, o ≠ .frz b (.tup xs)) (e : ∀ b o, b ≠ D → H b = some o → H' b = some o) : Tk K H H' := by
  intro a xs h
  rcases h with (h | ⟨b, h⟩) | h
  · exact .inl (.inl (e _ _ (fun z => by rw [z, hD] at h; cases h; exact no _ rfl) h))
  · exact .inl (.inr ⟨b, e _ _ (fun z => by rw [z, hD] at h; cases h; exact nf _ _ rfl) h⟩)
  · exact .inr h
theorem tk_lst {K : PySem.W.Frag} {H H' : Hp} {D : Addr} {l : List V} (hD : H D = some (.lst l)) (e : ∀ b o, b ≠ D → H b = some o → H' b = some o) : Tk K H H' := tk_at hD (fun _ z => by cases z) (fun _ _ z => by cases z) e
theorem tk_ins {K : PySem.W.Frag} {H H' : Hp} {D C : Addr} {dx : Addr} {l : List (Str × V)} (hD : H D = some (.ins C dx l)) (e : ∀ b o, b ≠ D → H b = some o → H' b = some o) : Tk K H H' := tk_at hD (fun _ z => by cases z) (fun _ _ z => by cases z) e
mutual
theorem Sn.same {K : PySem.W.Frag} {H H' : Hp} (e : Same H H') : ∀ {v : V} {t : Td}, Sn K H v t → Sn K H' v t
  | _, _, .int i => .int i
  | _, _, .lst h a => .lst (e _ _ h) (SnAll.same e a)
  | _, _, .tup h a => .tup (Same_seqT e h) (SnAll.same e a)
theorem SnAll.same {K : PySem.W.Frag} {H H' : Hp} (e : Same H H') : ∀ {vs : List V} {ts : List Td}, SnAll K H vs ts → SnAll K H' vs ts
  | _, _, .nil => .nil
  | _, _, .cons h t => .cons (Sn.same e h) (SnAll.same e t)
end
mutual
theorem Fz.tk {K : PySem.W.Frag} {H H' : Hp} (e : Tk K H H') : ∀ {v : V} {t : Td}, Fz K H v t → Fz K H' v t
  | _, _, .int i => .int i
  | _, _, .tup h a => .tup (e _ _ h) (FzAll.tk e a)
theorem FzAll.tk {K : PySem.W.Frag} {H H' : Hp} (e : Tk K H H') : ∀ {vs : List V} {ts : List Td}, FzAll K H vs ts → FzAll K H' vs ts
  | _, _, .nil => .nil
  | _, _, .cons h t => .cons (Fz.tk e h) (FzAll.tk e t)
end
mutual
theorem Fz.sn {K : PySem.W.Frag} {H : Hp} : ∀ {v : V} {t : Td}, Fz K H v t → Sn K H v t
  | _, _, .int i => .int i
  | _, _, .tup h a => .tup h (FzAll.sn a)
theorem FzAll.sn {K : PySem.W.Frag} {H : Hp} : ∀ {vs : List V} {ts : List Td}, FzAll K H vs ts → SnAll K H vs ts
  | _, _, .nil => .nil
  | _, _, .cons h t => .cons (Fz.sn h) (FzAll.sn t)
end
mutual
theorem Fz.dp {K : PySem.W.Frag} {H : Hp} : ∀ {v : V} {t : Td}, Fz K H v t → Dp K H v t.py
  | _, _, .int i => by simp only [Td.py]; exact .int i
  | _, _, .tup h a => by simp only [Td.py]; exact .tup h (FzAll.dp a)
theorem FzAll.dp {K : PySem.W.Frag} {H : Hp} : ∀ {vs : List V} {ts : List Td}, FzAll K H vs ts → DpAll K H vs (Td.pys ts)
  | _, _, .nil => by simp only [Td.pys]; exact .nil
  | _, _, .cons h t => by simp only [Td.pys]; exact .cons (Fz.dp h) (FzAll.dp t)
end
theorem SnAll.len {K : PySem.W.Frag} {H : Hp} {vs : List V} {ts : List Td} (h : SnAll K H vs ts) : vs.length = ts.length := by
  induction vs generalizing ts with
  | nil => cases h; rfl
  | cons v vs ih => cases h with | cons h t => simp only [List.length_cons, ih t]
theorem FzAll.len {K : PySem.W.Frag} {H : Hp} {vs : List V} {ts : List Td} (h : FzAll K H vs ts) : vs.length = ts.length := h.sn.len
theorem SnAll.get {K : PySem.W.Frag} {H : Hp} {vs : List V} {ts : List Td} (h : SnAll K H vs ts) {i : Nat} {v : V} (e : vs[i]? = some v) : ∃ t, ts[i]? = some t ∧ Sn K H v t := by
  induction vs generalizing ts i with
  | nil => simp at e
  | cons x vs ih =>
    cases h with
    | cons h t =>
      cases i with
      | zero => cases e; exact ⟨_, rfl, h⟩
      | succ i => exact ih t e
theorem FzAll.get {K : PySem.W.Frag} {H : Hp} {vs : List V} {ts : List Td} (h : FzAll K H vs ts) {i : Nat} {v : V} (e : vs[i]? = some v) : ∃ t, ts[i]? = some t ∧ Fz K H v t := by
  induction vs generalizing ts i with
  | nil => simp at e
  | cons x vs ih =>
    cases h with
    | cons h t =>
      cases i with
      | zero => cases e; exact ⟨_, rfl, h⟩
      | succ i => exact ih t e
theorem FzAll.ints {K : PySem.W.Frag} {H : Hp} : ∀ {ns : List Int} {vs : List V}, FzAll K H vs (ns.map Td.int) → vs = ns.map V.int
  | [], _, .nil => rfl
  | n :: ns, _, .cons (.int _) t => by rw [FzAll.ints t]; rfl
theorem SnAll.ints {K : PySem.W.Frag} {H : Hp} : ∀ {ns : List Int} {vs : List V}, SnAll K H vs (ns.map Td.int) → vs = ns.map V.int
  | [], _, .nil => rfl
  | n :: ns, _, .cons (.int _) t => by rw [SnAll.ints t]; rfl
theorem FzAll.of_ints {K : PySem.W.Frag} {H : Hp} : ∀ (ns : List Int), FzAll K H (ns.map V.int) (ns.map Td.int)
  | [] => .nil
  | n :: ns => .cons (.int n) (FzAll.of_ints ns)
theorem SnAll.zero {K : PySem.W.Frag} {H : Hp} : ∀ {vs : List V} {ts : List Td}, SnAll K H vs ts → Td.deps ts ≤ 0 → FzAll K H vs ts
  | _, _, .nil, _ => .nil
  | _, _, .cons (.int i) t, h => .cons (.int i) (SnAll.zero t (by simp only [Td.deps] at h; omega))
  | _, _, .cons (.lst _ _) t, h => by simp only [Td.deps, Td.dep] at h; omega
  | _, _, .cons (.tup _ _) t, h => by simp only [Td.deps, Td.dep] at h; omega
/-- lists of things, item by item -/
def Rs {α : Type} (R : Hp → V → α → Prop) (H : Hp) (vs : List V) (zs : List α) : Prop := vs.length = zs.length ∧ ∀ (i : Nat) (v : V) (z : α), vs[i]? = some v → zs[i]? = some z → R H v z
def Stb {α : Type} (K : PySem.W.Frag) (R : Hp → V → α → Prop) : Prop := ∀ H H' v z, Tk K H H' → R H v z → R H' v z
theorem Rs.tk {α : Type} {K : PySem.W.Frag} {R : Hp → V → α → Prop} (s : Stb K R) {H H' : Hp} {vs : List V} {zs : List α} (h : Rs R H vs zs) (e : Tk K H H') : Rs R H' vs zs := ⟨h.1, fun i v z a b => s _ _ _ _ e (h.2 i v z a b)⟩
theorem Rs.nil {α : Type} {R : Hp → V → α → Prop} {H : Hp} : Rs R H [] [] := ⟨rfl, fun i v z h => by simp at h⟩
theorem Rs.snoc {α : Type} {R : Hp → V → α → Prop} {H : Hp} {vs : List V} {zs : List α} {v : V} {z : α} (h : Rs R H vs zs) (r : R H v z) : Rs R H (vs ++ [v]) (zs ++ [z]) := by
  refine ⟨by rw [List.length_append, List.length_append, h.1]; rfl, fun i u y hu hy => ?_⟩
  have hl := h.1
  by_cases hi : i < vs.length
  · rw [List.getElem?_append_left hi] at hu
    rw [List.getElem?_append_left (by omega)] at hy
    exact h.2 i u y hu hy
  · rw [List.getElem?_append_right (by omega)] at hu
    rw [List.getElem?_append_right (by omega)] at hy
    have e1 : i - vs.length = 0 := by
      rcases Nat.eq_zero_or_pos (i - vs.length) with z | z
      · exact z
      · rw [List.getElem?_eq_none (by simp only [List.length_cons, List.length_nil]; omega)] at hu; cases hu
    have e2 : i - zs.length = 0 := by omega
    rw [e1] at hu
    rw [e2] at hy
    cases hu
    cases hy
    exact r
def RI : Hp → V → Int → Prop := fun _ v z => v = .int z
def RB : Hp → V → Bool → Prop := fun _ v z => v = .bl z
theorem stb_RI {K : PySem.W.Frag} : Stb K RI := fun _ _ _ _ _ h => h
theorem stb_RB {K : PySem.W.Frag} : Stb K RB := fun _ _ _ _ _ h => h
theorem stb_Fz {K : PySem.W.Frag} : Stb K (Fz K) := fun _ _ _ _ e h => h.tk e
theorem Rs.maps {α : Type} {R : Hp → V → α → Prop} {f : α → V} (hf : ∀ H v z, R H v z → v = f z) {H : Hp} : ∀ {vs : List V} {zs : List α}, Rs R H vs zs → vs = zs.map f := fun {vs zs} h => by
  refine List.ext_getElem? fun i => ?_
  rw [List.getElem?_map]
  have hl := h.1
  by_cases hi : i < vs.length
  · have hv := List.getElem?_eq_getElem hi
    have hz : zs[i]? = some zs[i] := List.getElem?_eq_getElem (by omega)
    rw [hv, hz, hf _ _ _ (h.2 i _ _ hv hz)]
    rfl
  · rw [List.getElem?_eq_none (by omega), List.getElem?_eq_none (by omega)]
    rfl
theorem Rs.ints {H : Hp} {vs : List V} {zs : List Int} (h : Rs RI H vs zs) : vs = zs.map V.int := h.maps fun _ _ _ e => e
theorem Rs.bls {H : Hp} {vs : List V} {zs : List Bool} (h : Rs RB H vs zs) : vs = zs.map V.bl := h.maps fun _ _ _ e => e
theorem Rs.fz {K : PySem.W.Frag} {H : Hp} : ∀ {vs : List V} {ts : List Td}, Rs (Fz K) H vs ts → FzAll K H vs ts
  | [], [], _ => .nil
  | [], _ :: _, h => by have := h.1; simp at this
  | _ :: _, [], h => by have := h.1; simp at this
  | v :: vs, t :: ts, h => .cons (h.2 0 v t rfl rfl) (Rs.fz ⟨by have := h.1; simp at this; exact this, fun i u z hu hz => h.2 (i + 1) u z hu hz⟩)
theorem new_same {H : Hp} {p : Addr} (h : H p = none) (o : HO) : Same H (upd H p o) := fun b u q => by rw [upd_ne (ne_of_none q h)]; exact q
theorem ys_at {xs : List V} {i : Nat} {H H' : Hp} {x : V} (y : YAt xs i H x H') : Same H H' := by rw [y.1]; exact fun _ _ h => h
theorem ys_fn {f : Nat → V} {i : Nat} {H H' : Hp} {x : V} (y : YFn f i H x H') : Same H H' := by rw [y.1]; exact fun _ _ h => h
theorem ys_pair {xs ys : Nat → Option V} {i : Nat} {H H' : Hp} {x : V} (y : YPair xs ys i H x H') : Same H H' := by
  obtain ⟨T, _, _, _, h1, h2, _⟩ := y
  rw [h2]
  exact new_same h1 _
theorem walk_zT {K : PySem.W.Frag} {a b : Addr} {xs ys : List V} {n : Nat} (hn : n = min xs.length ys.length) : Walk (RZ.ItzT K a b) n (fun H => SqT K H a xs ∧ SqT K H b ys) (YPair (fun i => xs[i]?) (fun i => ys[i]?)) := by
  subst hn
  refine ⟨fun i _ hi q => ?_, fun _ q => ⟨xs, ys, q.1, q.2, by omega⟩, fun i H v H' _ q y => ?_⟩
  · have h1 : i < xs.length := by omega
    have h2 : i < ys.length := by omega
    exact ⟨xs, ys, xs[i], ys[i], q.1, q.2, by simp [h1], by simp [h2]⟩
  · obtain ⟨T, x, z, h1, h2, h3, h4, h5⟩ := y
    exact ⟨T, x, z, h1, h2, h3, h4 xs q.1, h5 ys q.2⟩
theorem sizes {n : Nat} (h : n ≤ 16000000) : n < sizeLine := Nat.lt_of_le_of_lt h (by rw [sizeLine_eq]; decide)
/-- what stays while the list at D grows -/
def StbD {α : Type} (D : Addr) (R : Hp → V → α → Prop) : Prop := ∀ H H' v z, (∃ l, H D = some (.lst l)) → (∀ b o, b ≠ D → H b = some o → H' b = some o) → R H v z → R H' v z
theorem Stb.at {α : Type} {K : PySem.W.Frag} {R : Hp → V → α → Prop} (s : Stb K R) (D : Addr) : StbD D R := fun _ _ _ _ ⟨_, hl⟩ e r => s _ _ _ _ (tk_lst hl e) r
theorem Rs.tkD {α : Type} {D : Addr} {R : Hp → V → α → Prop} (s : StbD D R) {H H' : Hp} {vs : List V} {zs : List α} (h : Rs R H vs zs) (hD : ∃ l, H D = some (.lst l)) (e : ∀ b o, b ≠ D → H b = some o → H' b = some o) : Rs R H' vs zs := ⟨h.1, fun i v z a b => s _ _ _ _ hD e (h.2 i v z a b)⟩
/-- a list of ints apart from D -/
def RL (D : Addr) : Hp → V → List Int → Prop := fun H v r => ∃ p, v = .ref p ∧ p ≠ D ∧ H p = some (.lst (r.map V.int))
theorem stb_RL {D : Addr} : StbD D (RL D) := fun _ _ _ _ _ e ⟨p, h1, h2, h3⟩ => ⟨p, h1, h2, e _ _ h2 h3⟩
/-- a comprehension: each turn gives one thing, or nothing -/
theorem lc_g {α β : Type} {J : It} {n : Nat} {G : Hp → Prop} {Y : Nat → Hp → V → Hp → Prop} (w : Walk J n G Y) {g : TG} {tt : TT} {te : TE} {vs : List Nat} {σ : L2.St} {H1 : Hp} {D : Addr} {Qd : Hp → Prop}
    (R : Hp → V → α → Prop) (st : StbD D R) (xs : List β) (hn : n = xs.length) (hl : xs.length ≤ 16000000) (hD : H1 D = none) (hG : ∀ H, Same H1 H → G H) (hY : ∀ i H x H', Y i H x H' → Same H H') (f : β → Option α)
    (hs : ∀ i b x H H', xs[i]? = some b → Same H1 H → Same H1 H' → Y i H x H' → (∃ l, H' D = some (.lst l)) → ∀ (A : V → Hp → Prop) (B : Hp → Prop), (∀ y z H4, f b = some z → Same H' H4 → R H4 y z → A y H4) → (f b = none → ∀ H4, Same H' H4 → B H4) →
      g x (wipe σ vs) H' fun σ2 H2 => wipe σ2 vs = wipe σ vs ∧ tt σ2 H2 fun b H3 => if b = true then te σ2 H3 A else B H3)
    (hd : ∀ H l, Same H1 H → H D = some (.lst l) → Rs R H l (xs.filterMap f) → Qd H) :
    ∃ W : Nat → Nat → Hp → Prop, (∃ m, W 0 m (upd H1 D (.lst []))) ∧ ∀ i m H, W i m H →
      (J.stop i H ∧ Qd H) ∨ (J.go i H ∧ ∃ Nx : Hp → Prop, (∀ H', Nx H' → ∃ m', m' < m ∧ W (i + 1) m' H') ∧ ∀ x H', J.yld i H x H' → g x (wipe σ vs) H' fun σ2 H2 => wipe σ2 vs = wipe σ vs ∧ tt σ2 H2 fun b H3 =>
        if b = true then te σ2 H3 fun y H4 => ∃ acc, H4 D = some (.lst acc) ∧ acc.length < sizeLine ∧ Nx (upd H4 D (.lst (acc ++ [y]))) else Nx H3) := by
  subst hn
  refine lc_it w (fun i H => Same H1 H ∧ ∃ l, H D = some (.lst l) ∧ Rs R H l ((xs.take i).filterMap f) ∧ l.length ≤ i) ⟨new_same hD _, [], upd_same, by rw [List.take_zero]; exact Rs.nil, Nat.le_refl _⟩ (fun i H _ p => hG H p.1) ?_ ?_
  · rintro i x H H' hi ⟨sm, l, hl1, rs, hlen⟩ y
    have hb : xs[i]? = some xs[i] := List.getElem?_eq_getElem hi
    have sy := hY i H x H' y
    have et : xs.take (i + 1) = xs.take i ++ [xs[i]] := by rw [List.take_add_one, hb]; rfl
    refine hs i _ x H H' hb sm (sm.trans sy) y ⟨l, sy _ _ hl1⟩ _ _ (fun v z H4 hz s4 r => ?_) (fun hz H4 s4 => ?_)
    · have h4 : H4 D = some (.lst l) := s4 _ _ (sy _ _ hl1)
      refine ⟨l, h4, sizes (by omega), fun b o e => ?_, l ++ [v], upd_same, ?_, by rw [List.length_append]; simp only [List.length_cons, List.length_nil]; omega⟩
      · rw [upd_ne (ne_of_none e hD)]
        exact s4 _ _ (sy _ _ (sm _ _ e))
      · rw [et, List.filterMap_append]
        have e1 : [xs[i]].filterMap f = [z] := by rw [List.filterMap_cons, hz]; rfl
        rw [e1]
        refine Rs.snoc (rs.tkD st ⟨l, hl1⟩ fun b o hb e => ?_) (st _ _ _ _ ⟨l, h4⟩ (fun b o hb e => ?_) r)
        · rw [upd_ne hb]
          exact s4 _ _ (sy _ _ e)
        · rw [upd_ne hb]
          exact e
    · refine ⟨sm.trans (sy.trans s4), l, s4 _ _ (sy _ _ hl1), ?_, by omega⟩
      rw [et, List.filterMap_append]
      have e1 : [xs[i]].filterMap f = [] := by rw [List.filterMap_cons, hz]; rfl
      rw [e1, List.append_nil]
      exact rs.tkD st ⟨l, hl1⟩ fun b o _ e => s4 _ _ (sy _ _ e)
  · rintro H ⟨sm, l, hl1, rs, _⟩
    rw [List.take_length] at rs
    exact hd H l sm hl1 rs
/-- the same for what stays while tuples stay -/
theorem lc_f {α β : Type} {K : PySem.W.Frag} {J : It} {n : Nat} {G : Hp → Prop} {Y : Nat → Hp → V → Hp → Prop} (w : Walk J n G Y) {g : TG} {tt : TT} {te : TE} {vs : List Nat} {σ : L2.St} {H1 : Hp} {D : Addr} {Qd : Hp → Prop}
    (R : Hp → V → α → Prop) (st : Stb K R) (xs : List β) (hn : n = xs.length) (hl : xs.length ≤ 16000000) (hD : H1 D = none) (hG : ∀ H, Same H1 H → G H) (hY : ∀ i H x H', Y i H x H' → Same H H') (f : β → Option α)
    (hs : ∀ i b x H H', xs[i]? = some b → Same H1 H → Same H1 H' → Y i H x H' → ∀ (A : V → Hp → Prop) (B : Hp → Prop), (∀ y z H4, f b = some z → Same H' H4 → R H4 y z → A y H4) → (f b = none → ∀ H4, Same H' H4 → B H4) →
      g x (wipe σ vs) H' fun σ2 H2 => wipe σ2 vs = wipe σ vs ∧ tt σ2 H2 fun b H3 => if b = true then te σ2 H3 A else B H3)
    (hd : ∀ H l, Same H1 H → H D = some (.lst l) → Rs R H l (xs.filterMap f) → Qd H) :
    ∃ W : Nat → Nat → Hp → Prop, (∃ m, W 0 m (upd H1 D (.lst []))) ∧ ∀ i m H, W i m H →
      (J.stop i H ∧ Qd H) ∨ (J.go i H ∧ ∃ Nx : Hp → Prop, (∀ H', Nx H' → ∃ m', m' < m ∧ W (i + 1) m' H') ∧ ∀ x H', J.yld i H x H' → g x (wipe σ vs) H' fun σ2 H2 => wipe σ2 vs = wipe σ vs ∧ tt σ2 H2 fun b H3 =>
        if b = true then te σ2 H3 fun y H4 => ∃ acc, H4 D = some (.lst acc) ∧ acc.length < sizeLine ∧ Nx (upd H4 D (.lst (acc ++ [y]))) else Nx H3) := lc_g w R (st.at D) xs hn hl hD hG hY f (fun i b x H H' h1 h2 h3 h4 _ => hs i b x H H' h1 h2 h3 h4) hd
/-- each turn gives one thing -/
theorem lc_m {α β : Type} {K : PySem.W.Frag} {J : It} {n : Nat} {G : Hp → Prop} {Y : Nat → Hp → V → Hp → Prop} (w : Walk J n G Y) {g : TG} {tt : TT} {te : TE} {vs : List Nat} {σ : L2.St} {H1 : Hp} {D : Addr} {Qd : Hp → Prop}
    (R : Hp → V → α → Prop) (st : Stb K R) (xs : List β) (hn : n = xs.length) (hl : xs.length ≤ 16000000) (hD : H1 D = none) (hG : ∀ H, Same H1 H → G H) (hY : ∀ i H x H', Y i H x H' → Same H H') (f : β → α)
    (hs : ∀ i b x H H', xs[i]? = some b → Same H1 H → Same H1 H' → Y i H x H' → ∀ (A : V → Hp → Prop) (B : Hp → Prop), (∀ y H4, Same H' H4 → R H4 y (f b) → A y H4) →
      g x (wipe σ vs) H' fun σ2 H2 => wipe σ2 vs = wipe σ vs ∧ tt σ2 H2 fun b H3 => if b = true then te σ2 H3 A else B H3)
    (hd : ∀ H l, Same H1 H → H D = some (.lst l) → Rs R H l (xs.map f) → Qd H) :
    ∃ W : Nat → Nat → Hp → Prop, (∃ m, W 0 m (upd H1 D (.lst []))) ∧ ∀ i m H, W i m H →
      (J.stop i H ∧ Qd H) ∨ (J.go i H ∧ ∃ Nx : Hp → Prop, (∀ H', Nx H' → ∃ m', m' < m ∧ W (i + 1) m' H') ∧ ∀ x H', J.yld i H x H' → g x (wipe σ vs) H' fun σ2 H2 => wipe σ2 vs = wipe σ vs ∧ tt σ2 H2 fun b H3 =>
        if b = true then te σ2 H3 fun y H4 => ∃ acc, H4 D = some (.lst acc) ∧ acc.length < sizeLine ∧ Nx (upd H4 D (.lst (acc ++ [y]))) else Nx H3) := by
  refine lc_f w R st xs hn hl hD hG hY (fun b => some (f b)) (fun i b x H H' hb s1 s2 y A B ha _ => hs i b x H H' hb s1 s2 y A B fun v H4 s4 r => ha v _ H4 rfl s4 r) fun H l s1 hl1 rs => hd H l s1 hl1 ?_
  rw [show (fun b => some (f b)) = some ∘ f from rfl, List.filterMap_eq_map] at rs
  exact rs
theorem lc_gm {α β : Type} {J : It} {n : Nat} {G : Hp → Prop} {Y : Nat → Hp → V → Hp → Prop} (w : Walk J n G Y) {g : TG} {tt : TT} {te : TE} {vs : List Nat} {σ : L2.St} {H1 : Hp} {D : Addr} {Qd : Hp → Prop}
    (R : Hp → V → α → Prop) (st : StbD D R) (xs : List β) (hn : n = xs.length) (hl : xs.length ≤ 16000000) (hD : H1 D = none) (hG : ∀ H, Same H1 H → G H) (hY : ∀ i H x H', Y i H x H' → Same H H') (f : β → α)
    (hs : ∀ i b x H H', xs[i]? = some b → Same H1 H → Same H1 H' → Y i H x H' → (∃ l, H' D = some (.lst l)) → ∀ (A : V → Hp → Prop) (B : Hp → Prop), (∀ y H4, Same H' H4 → R H4 y (f b) → A y H4) →
      g x (wipe σ vs) H' fun σ2 H2 => wipe σ2 vs = wipe σ vs ∧ tt σ2 H2 fun b H3 => if b = true then te σ2 H3 A else B H3)
    (hd : ∀ H l, Same H1 H → H D = some (.lst l) → Rs R H l (xs.map f) → Qd H) :
    ∃ W : Nat → Nat → Hp → Prop, (∃ m, W 0 m (upd H1 D (.lst []))) ∧ ∀ i m H, W i m H →
      (J.stop i H ∧ Qd H) ∨ (J.go i H ∧ ∃ Nx : Hp → Prop, (∀ H', Nx H' → ∃ m', m' < m ∧ W (i + 1) m' H') ∧ ∀ x H', J.yld i H x H' → g x (wipe σ vs) H' fun σ2 H2 => wipe σ2 vs = wipe σ vs ∧ tt σ2 H2 fun b H3 =>
        if b = true then te σ2 H3 fun y H4 => ∃ acc, H4 D = some (.lst acc) ∧ acc.length < sizeLine ∧ Nx (upd H4 D (.lst (acc ++ [y]))) else Nx H3) := by
  refine lc_g w R st xs hn hl hD hG hY (fun b => some (f b)) (fun i b x H H' hb s1 s2 y hd2 A B ha _ => hs i b x H H' hb s1 s2 y hd2 A B fun v H4 s4 r => ha v _ H4 rfl s4 r) fun H l s1 hl1 rs => hd H l s1 hl1 ?_
  rw [show (fun b => some (f b)) = some ∘ f from rfl, List.filterMap_eq_map] at rs
  exact rs
/-- a comprehension in a comprehension -/
def rl (scope sc : Scope) : Scope := { scope with names := scope.names.map fun (n, k) => if (k == .free && sc.kind == .function && sc.names.lookup n == some .cell) then (n, .cell) else (n, k) }
theorem blk_nest {N : List Str} {scope inner sc0 : Scope} {own : List (Str × Nat)} {cl : List (Str × Addr)} {C : Addr} {env : Env} (e : env.scope = sc0) (h : blkC N (rl scope sc0) inner own = true) : BlkOk N (compEnvC scope cl C env).scope inner own := by
  subst e
  exact blkOk_by h
theorem pi_tupK {X : Cx} {K : PySem.W.Frag} {tg e : Expr} {te : TE} (hK : X.K = K) (h : PE X e te) : PI X tg e (iTup K te) := by
  subst hK
  exact pi_tup h
theorem sl_tupAK {X : Cx} {K : PySem.W.Frag} (hK : X.K = K) : SlR X (rSlA K) := by
  subst hK
  exact sl_tupA
theorem pe_fldK {X : Cx} {K : PySem.W.Frag} {e : Expr} {ta : TE} {f : Str} {p : Pos} (hK : X.K = K) (h : PE X e ta) (hb : attributeBase e f X.env (eval e X.env) = eval e X.env) : PE X (.Attribute e f p) (tFld K ta f) := by
  subst hK
  exact pe_fld h hb
theorem pi_listK {X : Cx} {K : PySem.W.Frag} {tg e : Expr} {te : TE} (hK : X.K = K) (h : PE X e te) : PI X tg e (iList K te) := by
  subst hK
  exact pi_list h
end WK
/-! Ties of a web, their strengths over the common part, rows, matrices. -/
namespace P15
open PySem L2 WK
def gI (t b : Int) : Int := ((Nat.gcd t.natAbs b.natAbs : Nat) : Int)
theorem gI_pos {t b : Int} (ht : 0 < t) : 0 < gI t b := by
  have : 0 < Nat.gcd t.natAbs b.natAbs := Nat.gcd_pos_of_pos_left _ (by omega)
  unfold gI
  omega
theorem gI_pos' {t b : Int} (hb : 0 < b) : 0 < gI t b := by
  have : 0 < Nat.gcd t.natAbs b.natAbs := Nat.gcd_pos_of_pos_right _ (by omega)
  unfold gI
  omega
theorem gI_le {t b : Int} (ht : 0 < t) : gI t b ≤ t := by
  have : Nat.gcd t.natAbs b.natAbs ≤ t.natAbs := Nat.le_of_dvd (by omega) (Nat.gcd_dvd_left _ _)
  unfold gI
  omega
theorem gI_dvd1 {t b : Int} : gI t b ∣ t := by
  unfold gI
  exact Int.ofNat_dvd_left.mpr (Nat.gcd_dvd_left _ _)
theorem gI_dvd2 {t b : Int} : gI t b ∣ b := by
  unfold gI
  exact Int.ofNat_dvd_left.mpr (Nat.gcd_dvd_right _ _)
/-- the common part of a bottom and some numbers -/
def gf (b : Int) (ns : List Int) : Int := ns.foldl gI b
theorem gf_pos {b : Int} (hb : 0 < b) : ∀ (ns : List Int), 0 < gf b ns := fun ns => by
  induction ns generalizing b with
  | nil => exact hb
  | cons n ns ih => exact ih (gI_pos hb)
theorem gf_le {b : Int} (hb : 0 < b) : ∀ (ns : List Int), gf b ns ≤ b := fun ns => by
  induction ns generalizing b with
  | nil => exact Int.le_refl _
  | cons n ns ih => exact Int.le_trans (ih (gI_pos hb)) (gI_le hb)
theorem gf_dvd {b : Int} : ∀ (ns : List Int), gf b ns ∣ b ∧ ∀ n ∈ ns, gf b ns ∣ n := fun ns => by
  induction ns generalizing b with
  | nil => exact ⟨Int.dvd_refl _, fun n h => by cases h⟩
  | cons n ns ih =>
    have h := ih (b := gI b n)
    refine ⟨Int.dvd_trans h.1 gI_dvd1, fun m hm => ?_⟩
    rcases List.mem_cons.mp hm with e | e
    · rw [e]
      exact Int.dvd_trans h.1 gI_dvd2
    · exact h.2 m e
theorem gf_snoc (b : Int) (ns : List Int) (n : Int) : gf b (ns ++ [n]) = gI (gf b ns) n := by
  unfold gf
  rw [List.foldl_append]
  rfl
abbrev B (n : Nat) (x : Int) : Prop := x.natAbs < 2 ^ n
theorem B.mono {m n : Nat} {x : Int} (h : B m x) (hl : m ≤ n) : B n x := Nat.lt_of_lt_of_le h (Nat.pow_le_pow_right (by decide) hl)
theorem B.mul {m n : Nat} {x y : Int} (hx : B m x) (hy : B n y) : B (m + n) (x * y) := by
  show (x * y).natAbs < 2 ^ (m + n)
  rw [Int.natAbs_mul, Nat.pow_add]
  exact Nat.mul_lt_mul'' hx hy
theorem B.le {n : Nat} {x y : Int} (h0 : 0 ≤ x) (h : x ≤ y) (hy : B n y) : B n x := Nat.lt_of_le_of_lt (by omega) hy
theorem B.div {n : Nat} {x g : Int} (hg : 0 < g) (hx : B n x) : B n (x / g) := by
  show (x / g).natAbs < 2 ^ n
  exact Nat.lt_of_le_of_lt (Int.natAbs_ediv_le_natAbs x g) hx
abbrev T3 := Int × Int × Int
def td3 (t : T3) : Td := .tup [.int t.1, .int t.2.1, .int t.2.2]
def imin (i j : Int) : Int := if j < i then j else i
def imax (i j : Int) : Int := if j > i then j else i
def srt (t : T3) : T3 := (imin t.1 t.2.1, imax t.1 t.2.1, t.2.2)
/-- a tie of a web with pl places -/
structure OkT (pl : Int) (t : T3) : Prop where
  ne : t.1 ≠ t.2.1
  a0 : 0 ≤ t.1
  a1 : t.1 < pl
  b0 : 0 ≤ t.2.1
  b1 : t.2.1 < pl
  s1 : 1 ≤ t.2.2
  s2 : B 400 t.2.2
/-- the ties as a web keeps them, and its bottom -/
def wg (ts : List T3) (b : Int) : Int := gf b (ts.map (·.2.2))
def wt (ts : List T3) (b : Int) : List T3 := ts.map fun t => (imin t.1 t.2.1, imax t.1 t.2.1, t.2.2 / wg ts b)
def wb (ts : List T3) (b : Int) : Int := b / wg ts b
/-- the row of a tie -/
def b2 (p : Bool) : Int := if p then 1 else 0
def trow (pl : Int) (t : T3) : List Int := (List.range pl.toNat).map fun (k : Nat) => b2 (decide (V.int (0 + (k : Int)) = V.int t.1)) - b2 (decide (V.int (0 + (k : Int)) = V.int t.2.1))
abbrev RW := List Int × Int
def tdr (p : RW) : Td := .tup [.tup (p.1.map Td.int), .int p.2]
def wsum (ps : List RW) (i j : Nat) : Int := (ps.map fun p => p.2 * p.1.getD i 0 * p.1.getD j 0).sum
def wmat (n : Nat) (ps : List RW) : List (List Int) := (List.range n).map fun i => (List.range n).map fun j => wsum ps i j
def tdm (m : List (List Int)) : Td := .tup (m.map fun r => .tup (r.map Td.int))
theorem wsum_sym (ps : List RW) (i j : Nat) : wsum ps i j = wsum ps j i := by
  unfold wsum
  congr 1
  refine List.map_congr_left fun p _ => ?_
  rw [Int.mul_assoc, Int.mul_comm (p.1.getD i 0), ← Int.mul_assoc]
end P15
set_option maxHeartbeats 4000000
/-! enumerate over a tuple. -/
namespace WE
open PySem PySem.Spec PyProof.Rows L2
/-- enumerate(v): its two new cells -/
theorem meets_enB {v : Value} {o : Obj} {G : Heap → Prop} (B : Begins v o G) :
    Meets (Builtin.«enumerate.__new__» ⟨[.type "enumerate", v], []⟩) (fun _ R s => G s.heap ∧
      R (.ok (.ret (.ref (s.heap.push o).objs.size))) { s with heap := (s.heap.push o).push { cls := .type "enumerate", data := .fields #[.none, .bool false, .ref s.heap.objs.size, rawInt 0, .none, .none] } }) :=
  .of_wp fun prog w A R s h => by
    obtain ⟨hp, g, d, tk, os⟩ := s
    obtain ⟨h1, h⟩ := h
    have hsub := sub_enumerate
    have q1 : ∀ {A' : Around} {E : Value → Shared → Prop} {Q : Value → Shared → Prop}, Q (.ref hp.objs.size) ⟨hp.push o, g, d, tk, os⟩ → wpAny (model prog w) A' (pyIter v) Q E ⟨hp, g, d, tk, os⟩ :=
      fun q => B.iter prog w _ _ ⟨hp, g, d, tk, os⟩ _ h1 q
    wp_walk using q1
    refine wpAny_stack_any fun st => wpAny_pure ?_
    split
    · rename_i c _ _ _ _ _
      cases (c == Value.type "enumerate") <;> (wp_walk using q1; exact ⟨_, rfl, h⟩)
    · wp_walk using q1
      exact ⟨_, rfl, h⟩
theorem enB {prog : Program} {w : World} {A : Around} {E : Value → Shared → Prop} {s : Shared} {v : Value} {o : Obj} {G : Heap → Prop} {Q : Value → Shared → Prop} (B : Begins v o G) (h1 : G s.heap)
    (h : ∀ h', IsEnum h' (s.heap.objs.size + 1) s.heap.objs.size 0 .none → h'.get? s.heap.objs.size = some o → h'.objs.size = s.heap.objs.size + 2 →
      (∀ b o, s.heap.get? b = some o → h'.get? b = some o) → Q (.ref (s.heap.objs.size + 1)) { s with heap := h' }) :
    wpAny (model prog w) A (call (.type "enumerate") [v]) Q E s := by
  refine callType_new F.called_enumerate (by decide) (F.typeCall_enumerate_1 _) (F.newCall_enumerate_1 _) (fun obj => F.args_object_init_2 obj _) F.entry_enumerate_new (meets_enB B) ⟨h1, ?_⟩
  have hz : (s.heap.push o).objs.size = s.heap.objs.size + 1 := Heap.size_push ..
  show _ ∧ _
  rw [hz]
  have he : IsEnum ((s.heap.push o).push { cls := .type "enumerate", data := .fields #[.none, .bool false, .ref s.heap.objs.size, rawInt 0, .none, .none] }) (s.heap.objs.size + 1) s.heap.objs.size 0 .none := by
    have := Heap.get?_push_size (s.heap.push o) (o := { cls := .type "enumerate", data := .fields #[.none, .bool false, .ref s.heap.objs.size, rawInt 0, .none, .none] }) rfl
    rw [hz] at this
    exact this
  exact ⟨⟨_, he, rfl⟩, h _ he (Heap.get?_push_of_some _ (Heap.get?_push_size _ B.free)) (by rw [Heap.size_push, hz]) fun b o x => Heap.get?_push_of_some _ (Heap.get?_push_of_some _ x)⟩
/-- the tuple at a, each item in a new pair with its place -/
def IteT (K : PySem.W.Frag) (a : Addr) : It :=
  ⟨fun i H => ∃ (xs : List V) (x : V), SqT K H a xs ∧ xs[i]? = some x, fun i H v H' => ∃ T x, v = .ref T ∧ H T = none ∧ H' = upd H T (.tup [.int (i : Nat), x]) ∧ ∀ xs, SqT K H a xs → xs[i]? = some x, fun i H => ∃ xs : List V, SqT K H a xs ∧ xs.length ≤ i⟩
theorem turn_enT {P : Program} {w : World} {K : PySem.W.Frag} {elts : List Expr} {kk : Nat} {tpos : Pos} (a e it : Addr) :
    Turn P w K (.Tuple elts kk tpos) (IteT K a) [e, it] e (fun i h => (∃ old, IsEnum h e it ((i : Nat) : Int) old) ∧ h.IsTupleIter it a i ∧ e ≠ it) where
  mem := List.mem_cons_self
  obj := fun i h st b hb => by
    obtain ⟨⟨old, he⟩, ⟨o, ho, hc, hd⟩, _⟩ := st
    rcases List.mem_cons.mp hb with z | z
    · rw [z]
      exact ⟨_, he, fun v q => nomatch q⟩
    · rw [List.mem_singleton.mp z]
      exact ⟨o, ho, fun v q => by rw [hd] at q; cases q⟩
  keep := fun i h h' st k => by
    obtain ⟨⟨old, he⟩, hi, hne⟩ := st
    exact ⟨⟨old, k e (by simp) _ he⟩, hi.at fun o q => k it (by simp) o q, hne⟩
  item := by
    intro X hP hw hK hc i pins s σ H E I hf st hg
    subst hP hw hK
    obtain ⟨⟨old, he⟩, hit, hne⟩ := st
    obtain ⟨xs, x, hq, hx⟩ := hg
    obtain ⟨its, rv, p, hz⟩ := I.tuple hq
    obtain ⟨u, hu, ru⟩ := rv.get hx
    have hel : e < s.heap.objs.size := Heap.lt_size he
    have hil : it < s.heap.objs.size := by
      obtain ⟨_, q, _⟩ := hit
      exact Heap.lt_size q
    have hai : a ≠ it := fun z => by
      obtain ⟨o1, g1, d1, _⟩ := p
      obtain ⟨o2, g2, d2, _⟩ := hit
      rw [z, g2] at g1
      cases g1
      rw [d2] at d1
      injection d1 with d3
      exact absurd d3 (by decide)
    have hae : e ∉ [it, a] := fun z => by
      rcases List.mem_cons.mp z with z | z
      · exact hne z
      · obtain ⟨o1, g1, d1, _⟩ := p
        rw [← List.mem_singleton.mp z, he] at g1
        cases g1
        injection d1 with d3
        exact absurd d3 (by decide)
    have hlt : i < its.toArray.size := by
      rw [List.size_toArray]
      exact (List.getElem?_eq_some_iff.mp hu).1
    refine wpAny_pyNext_enum_itemD (Draws.tuple (prog := X.prog) (w := X.w) (A := X.A.in1) (I.ok.hd hc) it a hai its.toArray) he ⟨hit, p⟩ hlt hne hae fun u' h' tk hP' ho hst hT hsz hk => ?_
    have eu : u' = u := by
      have e1 : its.toArray[i]? = some u := by rw [List.getElem?_toArray]; exact hu
      exact Option.some.inj ((show its.toArray[i]? = some u' from hP').symm.trans e1)
    subst eu
    refine ⟨_, rfl, wpAny_letOwnedTupleGo_enum (s := { s with heap := h', toks := tk + 1 }) ho fun h'' he' sb => ?_⟩
    have hT2 : h''.get? s.heap.objs.size = some { cls := .type "tuple", data := .seq #[.int i tk, u'] } := (sb.2 _ (Nat.ne_of_gt hel)).trans hT
    have new : ObjOk X.prog X.w (upd H s.heap.objs.size (.tup [.int (i : Nat), x])) h'' s.heap.objs.size (.tup [.int (i : Nat), x]) :=
      ⟨by show 2 ≤ sizeLine; decide, [.int i tk, u'], .cons ⟨_, rfl⟩ (.cons ru .nil), ⟨_, hT2, rfl, _, rfl⟩⟩
    have I1 : Inv X pins σ (upd H s.heap.objs.size (.tup [.int (i : Nat), x])) { s with heap := h'', toks := tk + 1 } :=
      I.turnedNew (ch := [e, it]) (fun b ob hb q => (sb.2 b (fun z => hb (by simp [z]))).trans (hk b ob (fun z => hb (by simp [z])) (fun z => hb (by simp [z])) q)) hf (Nat.le_refl _) new
    refine ⟨.ref s.heap.objs.size, _, I1, rfl, ⟨_, x, rfl, I.hok.fresh (Nat.le_refl _), rfl, fun ys hy => by rw [I.tuple_inj hy hq]; exact hx⟩, ⟨⟨u', ?_⟩, hst.1.at fun o q => (sb.2 it (Ne.symm hne)).trans q, hne⟩, fun b hb => ?_⟩
    · have e1 : ((i + 1 : Nat) : Int) = (i : Int) + 1 := by omega
      rw [e1]
      exact he'
    · have hb' : b < s.heap.objs.size := by
        rcases List.mem_cons.mp hb with z | z
        · rw [z]
          exact hel
        · rw [List.mem_singleton.mp z]
          exact hil
      rw [upd_ne (Nat.ne_of_lt hb')]
      exact (hf b hb).1
  done := by
    intro X hP hw hK hc i pins s σ H E I hf st hg
    subst hP hw hK
    obtain ⟨⟨old, he⟩, hit, hne⟩ := st
    obtain ⟨xs, hq, hx⟩ := hg
    obtain ⟨its, rv, p, hz⟩ := I.tuple hq
    obtain ⟨f0, f1, f2, f3, f4, f5⟩ := hf it (by simp)
    have hl := rv.length
    have hT : s.TypeIs (.ref e) "enumerate" := ⟨_, he, rfl⟩
    unfold pyNext
    refine wpAny_bind (wpAny_attempt (wpAny_callSpecial?_slot (name := Str.ofString "__next__") hT F.slot_enumerate_next
      (wpAny_call_entry F.slot_enumerate_next hT F.entry_enumerate_next ?_ (F.args_enumerate_next_1 _))))
    show wpAny _ _ (field (.ref e) 2 >>= _) _ _ _
    refine wpAny_bind (wpAny_field he rfl (x := .ref it) rfl ?_)
    refine wpAny_bind (wpAny_nextOf_tuple_end (I.ok.hd hc) hit p (by simp; omega) fun h' x eb hx' => ?_)
    obtain ⟨o, ho, hcl⟩ := hx'
    refine wpAny_bind (wpAny_isInstance (T := "StopIteration") (b := true) ⟨o, ho, hcl⟩ isSubtype_stop ?_)
    exact wpAny_pure ⟨rfl, I.turned (t' := s.toks) (fun b o hb q => eb b o hb q) f0 f1 f3 f4 f5⟩
  self := fun A i s Q E st h => let ⟨⟨_, he⟩, _⟩ := st; wpAny_pyIter_enum he h
def iEnT (K : PySem.W.Frag) (ta : TA) : TI := fun σ H R => ta σ H fun vs H1 => ∃ a xs, vs = [.ref a] ∧ SqT K H1 a xs ∧ R (IteT K a) H1
theorem pi_enT {X : Cx} {e : Expr} {ta : TA} {p pos tpos : Pos} {elts : List Expr} {kk : Nat} (hg : Gl X "enumerate") (hm : X.mg "enumerate" = none) (ha : PA X [e] ta) (hs : starEach [e] X.env = [(false, eval e X.env)] := by rfl) :
    PI X (.Tuple elts kk tpos) (.Call (.Name "enumerate" p) [e] [] pos) (iEnT X.K ta) := by
  refine ⟨fun pins s σ H R I h => ?_⟩
  refine Call_ (ld_blt I hg hm boot_enumerate (PyProof.Rows.callWith_type1 (thn (ha.run pos pins s σ H _ I h) fun us s1 ⟨vs, H1, I1, r1, q1⟩ => ?_) hs rfl))
  obtain ⟨a, xs, ex, hq, q⟩ := q1
  subst ex
  obtain ⟨u, rfl, ru⟩ := vals1 r1
  cases ru
  obtain ⟨its, rv, p', hz⟩ := I1.tuple hq
  refine enB (begins_tuple a its.toArray) p' fun h' he hit hsz hk => wpAny_pyIter_enum he ?_
  have I2 : Inv X pins σ H1 { s1 with heap := h' } := I1.kept (t' := s1.toks) hk
  refine ⟨s1.heap.objs.size + 1, [s1.heap.objs.size + 1, s1.heap.objs.size], _, _, H1, rfl, I2, turn_enT a (s1.heap.objs.size + 1) s1.heap.objs.size, ⟨⟨.none, he⟩, ⟨_, hit, rfl, rfl⟩, Nat.succ_ne_self _⟩, fun b hb => ?_, q⟩
  have hle : s1.heap.objs.size ≤ b := by
    rcases List.mem_cons.mp hb with z | z
    · rw [z]
      exact Nat.le_add_right _ _
    · rw [List.mem_singleton.mp z]
      exact Nat.le_refl _
  exact I1.fpOk hle (I1.hok.fresh hle)
theorem walk_enT {K : PySem.W.Frag} {a : Addr} {xs : List V} : Walk (IteT K a) xs.length (fun H => SqT K H a xs) (YPair (fun i => some (.int (i : Nat))) (fun i => xs[i]?)) := by
  refine ⟨fun i _ hi q => ⟨xs, xs[i], q, by simp [hi]⟩, fun _ q => ⟨xs, q, Nat.le_refl _⟩, fun i H v H' _ q y => ?_⟩
  obtain ⟨T, x, h1, h2, h3, h4⟩ := y
  exact ⟨T, .int (i : Nat), x, h1, h2, h3, rfl, h4 xs q⟩
end WE
set_option maxHeartbeats 4000000
/-! zip of two sequences, each of them a list or a tuple. -/
namespace WZ
open PySem PySem.Spec PyProof.Rows L2
/-- a list (true) or a tuple (false) -/
def Sq (k : Bool) (K : PySem.W.Frag) (H : Hp) (a : Addr) (xs : List V) : Prop := if k = true then SqL K H a xs else SqT K H a xs
def Ob (k : Bool) (h : Heap) (a : Addr) (its : Array Value) : Prop := if k = true then h.IsList a its else h.IsTuple a its
def Ir (k : Bool) (h : Heap) (it a : Addr) (i : Nat) : Prop := if k = true then h.IsListIter it a i else h.IsTupleIter it a i
def itO (k : Bool) (a : Addr) : Obj := if k = true then { cls := .type "list_iterator", data := .fields #[.ref a, .int 0 0] } else { cls := .type "tuple_iterator", data := .fields #[.ref a, .int 0 0] }
theorem Ir.at {k : Bool} {h h' : Heap} {it a : Addr} {i : Nat} (x : Ir k h it a i) (e : ∀ o, h.get? it = some o → h'.get? it = some o) : Ir k h' it a i := by
  cases k with
  | true => exact (show h.IsListIter it a i from x).at e
  | false => exact (show h.IsTupleIter it a i from x).at e
theorem Ir.obj {k : Bool} {h : Heap} {it a : Addr} {i : Nat} (x : Ir k h it a i) : ∃ o, h.get? it = some o ∧ ∀ v, o.data ≠ .cell v := by
  cases k with
  | true =>
    obtain ⟨o, e, _, d⟩ := (show h.IsListIter it a i from x)
    exact ⟨o, e, fun v q => by rw [d] at q; cases q⟩
  | false =>
    obtain ⟨o, e, _, d⟩ := (show h.IsTupleIter it a i from x)
    exact ⟨o, e, fun v q => by rw [d] at q; cases q⟩
theorem Ob.lt {k : Bool} {h : Heap} {a : Addr} {its : Array Value} (x : Ob k h a its) : a < h.objs.size := by
  cases k with
  | true =>
    obtain ⟨o, e, _⟩ := (show h.IsList a its from x)
    exact Heap.lt_size e
  | false =>
    obtain ⟨o, e, _⟩ := (show h.IsTuple a its from x)
    exact Heap.lt_size e
theorem draw {prog : Program} {w : World} {A : Around} (hh : A.handled = none) (k : Bool) (it a : Addr) (hne : a ≠ it) (items : Array Value) :
    Draws prog w A it [it, a] items.size (fun i v => items[i]? = some v) (fun i h => Ir k h it a i ∧ Ob k h a items) := by
  cases k with
  | true => exact Draws.list hh it a hne items
  | false => exact Draws.tuple hh it a hne items
theorem begin {k : Bool} (a : Addr) (items : Array Value) : Begins (.ref a) (itO k a) fun h => Ob k h a items := by
  cases k with
  | true => exact begins_list a items
  | false => exact begins_tuple a items
theorem obj_of {X : Cx} {pins : List (Addr × Obj)} {σ : L2.St} {H : Hp} {s : Shared} {k : Bool} {a : Addr} {xs : List V} (I : Inv X pins σ H s) (h : Sq k X.K H a xs) : ∃ its : List Value, Vals xs its ∧ Ob k s.heap a its.toArray := by
  cases k with
  | true =>
    obtain ⟨its, rv, p, _⟩ := I.list (show SqL X.K H a xs from h)
    exact ⟨its, rv, p.isList⟩
  | false =>
    obtain ⟨its, rv, p, _⟩ := I.tuple (show SqT X.K H a xs from h)
    exact ⟨its, rv, p⟩
theorem inj {X : Cx} {pins : List (Addr × Obj)} {σ : L2.St} {H : Hp} {s : Shared} {k : Bool} {a : Addr} {xs ys : List V} (I : Inv X pins σ H s) (h : Sq k X.K H a xs) (h' : Sq k X.K H a ys) : xs = ys := by
  cases k with
  | true => exact I.list_inj h h'
  | false => exact I.tuple_inj h h'
/-- the sequences at a and b as they stand at each turn, the items in new pairs -/
def ItzA (K : PySem.W.Frag) (k l : Bool) (a b : Addr) : It :=
  ⟨fun i H => ∃ (xs ys : List V) (x y : V), Sq k K H a xs ∧ Sq l K H b ys ∧ xs[i]? = some x ∧ ys[i]? = some y,
    fun i H v H' => ∃ T x y, v = .ref T ∧ H T = none ∧ H' = upd H T (.tup [x, y]) ∧ (∀ xs, Sq k K H a xs → xs[i]? = some x) ∧ ∀ ys, Sq l K H b ys → ys[i]? = some y,
    fun i H => ∃ xs ys : List V, Sq k K H a xs ∧ Sq l K H b ys ∧ i ≤ xs.length ∧ i ≤ ys.length ∧ (i = xs.length ∨ i = ys.length)⟩
theorem turn_zipA {P : Program} {w : World} {K : PySem.W.Frag} {k l : Bool} {elts : List Expr} {kk : Nat} {tpos : Pos} {a b z TI TO i1 i2 : Addr} (D : ZipSep2 z TI TO i1 i2 [i1, a] [i2, b]) :
    Turn P w K (.Tuple elts kk tpos) (ItzA K k l a b) [z, TI, TO, i1, i2] z (fun i h => IsZip h z TI TO .none ∧ IsTupOf2 h TI (.ref i1) (.ref i2) ∧ (∃ x y, IsTupOf2 h TO x y) ∧ Ir k h i1 a i ∧ Ir l h i2 b i) where
  mem := by simp
  obj := fun i h st c hc => by
    obtain ⟨hz, hTI, ⟨x, y, hTO⟩, h1, h2⟩ := st
    have e' : c = z ∨ c = TI ∨ c = TO ∨ c = i1 ∨ c = i2 := by simpa using hc
    rcases e' with q | q | q | q | q
    · rw [q]; exact ⟨_, hz, fun v q => nomatch q⟩
    · rw [q]; exact ⟨_, hTI, fun v q => nomatch q⟩
    · rw [q]; exact ⟨_, hTO, fun v q => nomatch q⟩
    · rw [q]; exact h1.obj
    · rw [q]; exact h2.obj
  keep := fun i h h' st k => by
    obtain ⟨hz, hTI, ⟨x, y, hTO⟩, h1, h2⟩ := st
    exact ⟨k z (by simp) _ hz, k TI (by simp) _ hTI, ⟨x, y, k TO (by simp) _ hTO⟩, h1.at fun o q => k i1 (by simp) o q, h2.at fun o q => k i2 (by simp) o q⟩
  item := by
    intro X hP hw hK hc i pins s σ H E I hf st hg
    subst hP hw hK
    obtain ⟨hz, hTI, ⟨x0, y0, hTO⟩, h1, h2⟩ := st
    obtain ⟨xs, ys, x, y, hqx, hqy, hx, hy⟩ := hg
    obtain ⟨its, rv, p⟩ := obj_of I hqx
    obtain ⟨its2, rv2, p2⟩ := obj_of I hqy
    obtain ⟨u, hu, ru⟩ := rv.get hx
    obtain ⟨u2, hu2, ru2⟩ := rv2.get hy
    have hzl : z < s.heap.objs.size := Heap.lt_size hz
    have l1 : i < its.toArray.size := by
      rw [List.size_toArray]
      exact (List.getElem?_eq_some_iff.mp hu).1
    have l2 : i < its2.toArray.size := by
      rw [List.size_toArray]
      exact (List.getElem?_eq_some_iff.mp hu2).1
    have n1 : a ≠ i1 := fun e => by
      have := D.sep1_2
      obtain ⟨o, ho, _⟩ := h1.obj
      cases k with
      | true =>
        obtain ⟨o1, g1, c1, d1⟩ := (show s.heap.IsListIter i1 a i from h1)
        obtain ⟨o2, g2, c2, _⟩ := (show s.heap.IsList a its.toArray from p)
        rw [e, g1] at g2
        cases g2
        rw [c1] at c2
        injection c2 with c3
        exact absurd c3 (by decide)
      | false =>
        obtain ⟨o1, g1, c1, d1⟩ := (show s.heap.IsTupleIter i1 a i from h1)
        obtain ⟨o2, g2, c2, _⟩ := (show s.heap.IsTuple a its.toArray from p)
        rw [e, g1] at g2
        cases g2
        rw [c1] at c2
        injection c2 with c3
        exact absurd c3 (by decide)
    have n2 : b ≠ i2 := fun e => by
      cases l with
      | true =>
        obtain ⟨o1, g1, c1, d1⟩ := (show s.heap.IsListIter i2 b i from h2)
        obtain ⟨o2, g2, c2, _⟩ := (show s.heap.IsList b its2.toArray from p2)
        rw [e, g1] at g2
        cases g2
        rw [c1] at c2
        injection c2 with c3
        exact absurd c3 (by decide)
      | false =>
        obtain ⟨o1, g1, c1, d1⟩ := (show s.heap.IsTupleIter i2 b i from h2)
        obtain ⟨o2, g2, c2, _⟩ := (show s.heap.IsTuple b its2.toArray from p2)
        rw [e, g1] at g2
        cases g2
        rw [c1] at c2
        injection c2 with c3
        exact absurd c3 (by decide)
    refine wpAny_pyNext_zipD2_item D (draw (prog := X.prog) (w := X.w) (A := X.A.in1) (I.ok.hd hc) k i1 a n1 its.toArray) (draw (prog := X.prog) (w := X.w) (A := X.A.in1) (I.ok.hd hc) l i2 b n2 its2.toArray) hz hTI hTO ⟨h1, p⟩ ⟨h2, p2⟩ l1 l2 fun x1 x2 h' tk hx1 hx2 z' TO' h1' h2' hT hsz hk => ?_
    have eu : x1 = u := by
      have e1 : its.toArray[i]? = some u := by rw [List.getElem?_toArray]; exact hu
      exact Option.some.inj ((show its.toArray[i]? = some x1 from hx1).symm.trans e1)
    have eu2 : x2 = u2 := by
      have e1 : its2.toArray[i]? = some u2 := by rw [List.getElem?_toArray]; exact hu2
      exact Option.some.inj ((show its2.toArray[i]? = some x2 from hx2).symm.trans e1)
    subst eu eu2
    refine ⟨_, rfl, wpAny_letOwnedTupleGo_zip (s := { s with heap := h', toks := tk }) z' fun h'' z'' sb => ?_⟩
    have hT2 : h''.get? s.heap.objs.size = some { cls := .type "tuple", data := .seq #[x1, x2] } := (sb.2 _ (Nat.ne_of_gt hzl)).trans hT
    have new : ObjOk X.prog X.w (upd H s.heap.objs.size (.tup [x, y])) h'' s.heap.objs.size (.tup [x, y]) :=
      ⟨by show 2 ≤ sizeLine; decide, [x1, x2], .cons ru (.cons ru2 .nil), ⟨_, hT2, rfl, _, rfl⟩⟩
    have I1 : Inv X pins σ (upd H s.heap.objs.size (.tup [x, y])) { s with heap := h'', toks := tk } :=
      I.turnedNew (t' := tk) (ch := [z, TI, TO, i1, i2]) (fun c o hb q => (sb.2 c (fun q' => hb (by simp [q']))).trans (hk c o (fun q' => hb (by simp [q'])) (fun q' => hb (by simp [q'])) (fun q' => hb (by simp [q'])) (fun q' => hb (by simp [q'])) q)) hf (Nat.le_refl _) new
    refine ⟨.ref s.heap.objs.size, _, I1, rfl, ⟨_, x, y, rfl, I.hok.fresh (Nat.le_refl _), rfl, fun l hl => by rw [inj I hl hqx]; exact hx, fun l hl => by rw [inj I hl hqy]; exact hy⟩, ⟨z'', ?_, ⟨x1, x2, ?_⟩, ?_, ?_⟩, fun c hcm => ?_⟩
    · exact (sb.2 _ D.TIz).trans (hk _ _ D.TIz D.TITO D.TIi1 D.TIi2 hTI)
    · exact (sb.2 _ D.TOz).trans TO'
    · exact h1'.1.at fun o q => (sb.2 _ (Ne.symm D.zi1)).trans q
    · exact h2'.1.at fun o q => (sb.2 _ (Ne.symm D.zi2)).trans q
    · have hlt : c < s.heap.objs.size := by
        have e' : c = z ∨ c = TI ∨ c = TO ∨ c = i1 ∨ c = i2 := by simpa using hcm
        rcases e' with q | q | q | q | q
        · rw [q]; exact hzl
        · rw [q]; exact Heap.lt_size hTI
        · rw [q]; exact Heap.lt_size hTO
        · rw [q]; obtain ⟨_, e1, _⟩ := h1.obj; exact Heap.lt_size e1
        · rw [q]; obtain ⟨_, e2, _⟩ := h2.obj; exact Heap.lt_size e2
      rw [upd_ne (Nat.ne_of_lt hlt)]
      exact (hf c hcm).1
  done := by
    intro X hP hw hK hc i pins s σ H E I hf st hg
    subst hP hw hK
    obtain ⟨hz, hTI, ⟨x0, y0, hTO⟩, h1, h2⟩ := st
    obtain ⟨xs, ys, hqx, hqy, g1, g2, hend⟩ := hg
    obtain ⟨its, rv, p⟩ := obj_of I hqx
    obtain ⟨its2, rv2, p2⟩ := obj_of I hqy
    have l1 := rv.length
    have l2 := rv2.length
    have n1 : a ≠ i1 := fun e => by
      cases k with
      | true =>
        obtain ⟨o1, g1, c1, d1⟩ := (show s.heap.IsListIter i1 a i from h1)
        obtain ⟨o2, g2, c2, _⟩ := (show s.heap.IsList a its.toArray from p)
        rw [e, g1] at g2
        cases g2
        rw [c1] at c2
        injection c2 with c3
        exact absurd c3 (by decide)
      | false =>
        obtain ⟨o1, g1, c1, d1⟩ := (show s.heap.IsTupleIter i1 a i from h1)
        obtain ⟨o2, g2, c2, _⟩ := (show s.heap.IsTuple a its.toArray from p)
        rw [e, g1] at g2
        cases g2
        rw [c1] at c2
        injection c2 with c3
        exact absurd c3 (by decide)
    have n2 : b ≠ i2 := fun e => by
      cases l with
      | true =>
        obtain ⟨o1, g1, c1, d1⟩ := (show s.heap.IsListIter i2 b i from h2)
        obtain ⟨o2, g2, c2, _⟩ := (show s.heap.IsList b its2.toArray from p2)
        rw [e, g1] at g2
        cases g2
        rw [c1] at c2
        injection c2 with c3
        exact absurd c3 (by decide)
      | false =>
        obtain ⟨o1, g1, c1, d1⟩ := (show s.heap.IsTupleIter i2 b i from h2)
        obtain ⟨o2, g2, c2, _⟩ := (show s.heap.IsTuple b its2.toArray from p2)
        rw [e, g1] at g2
        cases g2
        rw [c1] at c2
        injection c2 with c3
        exact absurd c3 (by decide)
    refine wpAny_pyNext_zipD2_end D (draw (prog := X.prog) (w := X.w) (A := X.A.in1) (I.ok.hd hc) k i1 a n1 its.toArray) (draw (prog := X.prog) (w := X.w) (A := X.A.in1) (I.ok.hd hc) l i2 b n2 its2.toArray) hz hTI hTO ⟨h1, p⟩ ⟨h2, p2⟩ (by rw [List.size_toArray]; omega) (by rw [List.size_toArray]; omega) (by rw [List.size_toArray, List.size_toArray]; omega) fun h' tk hk => ⟨rfl, I.turnedL (t' := tk) (ch := [z, TI, TO, i1, i2]) (fun c o hb q =>
      hk c o (fun q' => hb (by simp [q'])) (fun q' => hb (by simp [q'])) (fun q' => hb (by simp [q'])) (fun q' => hb (by simp [q'])) q) hf⟩
  self := fun A i s Q E st h => wpAny_pyIter_zip st.1 h
theorem sep {n a b : Nat} (la : a < n) (lb : b < n) : ZipSep2 (n + 4) (n + 2) (n + 3) n (n + 1) [n, a] [n + 1, b] := by
  constructor
  all_goals
    try simp only [List.mem_cons, List.not_mem_nil, or_false, not_or, ne_eq, true_or]
    try simp only [Nat.add_right_inj, Nat.reduceEqDiff, not_false_eq_true]
    try first | (refine ⟨True.intro, fun (h : n + 4 = b) => by omega⟩) | (refine ⟨True.intro, fun (h : n + 3 = b) => by omega⟩) | exact fun (h : n = n + 1) => by omega | (refine ⟨fun (h : n + 4 = n) => by omega, fun (h : n + 4 = a) => by omega⟩) | (refine ⟨fun (h : n + 3 = n) => by omega, fun (h : n + 3 = a) => by omega⟩) | (refine ⟨fun (h : n + 4 = n + 1) => by omega, fun (h : n + 4 = b) => by omega⟩) | (refine ⟨fun (h : n + 3 = n + 1) => by omega, fun (h : n + 3 = b) => by omega⟩) | (refine ⟨fun (h : n = n + 1) => by omega, fun (h : n = b) => by omega⟩) | (refine ⟨fun (h : n + 1 = n) => by omega, fun (h : n + 1 = a) => by omega⟩) | exact fun (h : n + 2 = n) => by omega | exact fun (h : n + 2 = n + 1) => by omega | exact fun (h : n + 2 = n + 4) => by omega | exact fun (h : n + 3 = n + 4) => by omega | exact fun (h : n + 2 = n + 3) => by omega
theorem walk_zA {K : PySem.W.Frag} {k l : Bool} {a b : Addr} {xs ys : List V} {n : Nat} (hx : n = xs.length) (hy : n = ys.length) : Walk (ItzA K k l a b) n (fun H => Sq k K H a xs ∧ Sq l K H b ys) (YPair (fun i => xs[i]?) (fun i => ys[i]?)) := by
  subst hx
  refine ⟨fun i _ hi q => ?_, fun _ q => ⟨xs, ys, q.1, q.2, Nat.le_refl _, by omega, .inl rfl⟩, fun i H v H' _ q y => ?_⟩
  · have h1 : i < xs.length := by omega
    have h2 : i < ys.length := by omega
    exact ⟨xs, ys, xs[i], ys[i], q.1, q.2, by simp [h1], by simp [h2]⟩
  · obtain ⟨T, x, z, h1, h2, h3, h4, h5⟩ := y
    exact ⟨T, x, z, h1, h2, h3, h4 xs q.1, h5 ys q.2⟩
def iZipB (K : PySem.W.Frag) (ta : TA) : TI := fun σ H R => ta σ H fun vs H1 => ∃ (k l : Bool) (a b : Addr) (xs ys : List V), vs = [.ref a, .ref b] ∧ Sq k K H1 a xs ∧ Sq l K H1 b ys ∧ R (ItzA K k l a b) H1
theorem pi_zipB {X : Cx} {e e2 : Expr} {ta : TA} {p pos tpos : Pos} {elts : List Expr} {kk : Nat} (hg : Gl X "zip") (hm : X.mg "zip" = none) (ha : PA X [e, e2] ta)
    (hs : starEach [e, e2] X.env = (false, eval e X.env) :: starEach [e2] X.env := by rfl) (hpl : (backTo pos (starEach [e2] X.env)).any (·.1) = false := by rfl) :
    PI X (.Tuple elts kk tpos) (.Call (.Name "zip" p) [e, e2] [] pos) (iZipB X.K ta) := by
  refine ⟨fun pins s σ H R I h => ?_⟩
  refine Call_ (ld_blt I hg hm PyProof.Rows.boot_zip (PyProof.Rows.callWith_type1 (thn (ha.run pos pins s σ H _ I h) fun us s1 ⟨vs, H1, I1, r1, q1⟩ => ?_) hs hpl))
  obtain ⟨k, l, a, b, xs, ys, ex, hqx, hqy, q⟩ := q1
  subst ex
  cases r1 with
  | cons r rr =>
    cases rr with
    | cons r' rr =>
      cases rr
      cases r
      cases r'
      obtain ⟨its, rv, p1⟩ := obj_of I1 hqx
      obtain ⟨its2, rv2, p2⟩ := obj_of I1 hqy
      have la := p1.lt
      have lb := p2.lt
      refine zip_begins2 (begin (k := k) a its.toArray) (begin (k := l) b its2.toArray) p1 p2 fun h' hz hTI hTO h1 h2 hsz hk => wpAny_pyIter_zip hz ?_
      have I2 : Inv X pins σ H1 { s1 with heap := h' } := I1.kept (t' := s1.toks) hk
      have D : ZipSep2 (s1.heap.objs.size + 4) (s1.heap.objs.size + 2) (s1.heap.objs.size + 3) s1.heap.objs.size (s1.heap.objs.size + 1) [s1.heap.objs.size, a] [s1.heap.objs.size + 1, b] := by
        exact sep la lb
      refine ⟨s1.heap.objs.size + 4, [s1.heap.objs.size + 4, s1.heap.objs.size + 2, s1.heap.objs.size + 3, s1.heap.objs.size, s1.heap.objs.size + 1], _, _, H1, rfl, I2, turn_zipA (k := k) (l := l) D, ⟨hz, hTI, ⟨_, _, hTO⟩, ?_, ?_⟩, fun c hcm => ?_, q⟩
      · cases k with
        | true => exact ⟨_, h1, rfl, rfl⟩
        | false => exact ⟨_, h1, rfl, rfl⟩
      · cases l with
        | true => exact ⟨_, h2, rfl, rfl⟩
        | false => exact ⟨_, h2, rfl, rfl⟩
      · have hle : s1.heap.objs.size ≤ c := by
          have e' : c = s1.heap.objs.size + 4 ∨ c = s1.heap.objs.size + 2 ∨ c = s1.heap.objs.size + 3 ∨ c = s1.heap.objs.size ∨ c = s1.heap.objs.size + 1 := by simpa using hcm
          rcases e' with z | z | z | z | z
          · rw [z]; exact Nat.le_add_right _ _
          · rw [z]; exact Nat.le_add_right _ _
          · rw [z]; exact Nat.le_add_right _ _
          · rw [z]; exact Nat.le_refl _
          · rw [z]; exact Nat.le_add_right _ _
        exact I1.fpOk hle (I1.hok.fresh hle)
end WZ
set_option maxHeartbeats 4000000
/-! An instance of one's own class is called: x(e, ..), where x is a local name. -/
namespace WC
open PySem PySem.Spec PyProof.Rows L2
theorem keeper_inst {M : Model} {h : Heap} {x : Addr} {o : Obj} (ho : h.get? x = some o) (hd : o.data = .plain) : PySem.W.Looks M h (keeperOf (.ref x)) .caller := by
  refine PySem.W.Looks.andThen (PySem.W.Looks.ld (part := none) ho) ?_
  rw [hd]
  exact PySem.W.Looks.now
theorem callWith_inst {M : Model} {A : Around} {E : Value → Shared → Prop} {s : Shared} {env : Env} {pos : Pos} {x : Addr} {o : Obj} {e : Expr} {es : List Expr} {Q : Value → Shared → Prop} (hd : o.data = .plain)
    (h : wpAny M A (spliced (backTo pos (starEach (e :: es) env))) (fun us s1 => s1.heap.get? x = some o ∧ wpAny M A (call (.ref x) us) Q E s1) E s)
    (he : starEach (e :: es) env = (false, eval e env) :: starEach es env) (hpl : (backTo pos (starEach es env)).any (·.1) = false) :
    wpAny M A (callWith pos (.ref x) [] (backTo pos (starEach (e :: es) env)) []) Q E s := by
  rw [he] at h ⊢
  have hs : ((backTo pos ((false, eval e env) :: starEach es env)).any (·.1) || ([] : List (Option Str × Sem Value)).any (·.1.isNone)) = false := by
    show ((false || (backTo pos (starEach es env)).any (·.1)) || false) = false
    rw [hpl]
    rfl
  unfold callWith
  refine wpAny_bind (wpAny_holding (wpAny_mono (PySem.Calls.evalArgs_plain (Q := fun a s1 => s1.heap.get? x = some o ∧ a.kw = [] ∧ wpAny M A (call (.ref x) a.pos) Q E s1) (wpAny_mono h (fun us s1 z => ⟨z.1, rfl, z.2⟩) fun _ _ y => y)) (fun a s1 z => ?_) fun _ _ y => y))
  obtain ⟨z1, z2, z3⟩ := z
  obtain ⟨ap, ak⟩ := a
  dsimp only at z2 z3
  subst z2
  refine wpAny_bind (wpAny_standAt ?_)
  dsimp only
  simp only [hs]
  refine wpAny_bind ((keeper_inst z1 hd).here ?_)
  refine wpAny_bind (wpAny_mono (wpAny_operateT (m := call (.ref x) ([] ++ ap)) z3) (fun r s2 hr => wpAny_bind (wpAny_holding (wpAny_point (wpAny_pure hr)))) fun _ _ y => y)
/-- what a class must have that its instances may be called -/
structure Cl (K : PySem.W.Frag) (C f : Addr) : Prop where
  at_ : PySem.W.findIn K (.ref C) "__call__" = some (some (.ref f))
  fn : PySem.W.isFn K (.ref f) = true
  fi : PySem.W.fnIn K f = true
/-- the i-th slot holds an instance of the class at C -/
def tCallI (i : Nat) (C : Addr) (sp : Sp) (E : XK) (t : TA) : TE := fun σ H Q => ∃ a dx fs, σ[i]? = some (some (.ref a)) ∧ H a = some (.ins C dx fs) ∧ t σ H fun vs H1 => H1 a = some (.ins C dx fs) ∧ sp (.ref a :: vs) H1 Q E
theorem pe_callI {X : Cx} {CX : CXT} {k i : Nat} {f C : Addr} {fd : FuncData} {ps : List Str} {sp : Sp} {E : XK} {x : Str} {p pos : Pos} {e : Expr} {es : List Expr} {t : TA}
    (F : FnOk X.prog X.w X.K X.mg X.base CX k f fd ps sp) (L : Cl X.K C f) (hr : Room k X.A) (hN : X.N[i]? = some x) (hv : Vis X.env.scope x) (hb : Binds X.K fd ps []) (hx : Passes CX X E) (ha : PA X (e :: es) t)
    (hdb : (x == ("__debug__" : Str)) = false := by decide) (hcd : (x == ("__classdict__" : Str)) = false := by decide)
    (he : starEach (e :: es) X.env = (false, eval e X.env) :: starEach es X.env := by rfl) (hpl : (backTo pos (starEach es X.env)).any (·.1) = false := by rfl) :
    PE X (.Call (.Name x p) (e :: es) [] pos) (tCallI i C sp E t) := by
  refine ⟨fun pins s σ H Q I h => ?_⟩
  obtain ⟨a, dx, fs, hs, hi, ht⟩ := h
  refine wpAny_Call_Name_kw (thn ((pe_var (pos := p) hN hv hdb hcd).run pins s σ H (fun v H1 => v = .ref a ∧ H1 = H) I ⟨.ref a, hs, rfl, rfl⟩) fun u s1 ⟨v, H1, I1, r1, q1⟩ => ?_)
  obtain ⟨rfl, rfl⟩ := q1
  cases r1
  refine callWith_inst (o := PySem.W.instObj C dx) rfl (thn (ha.run pos pins s1 σ _ _ I1 ht) fun us s2 ⟨vs, H2, I2, r, q⟩ => ?_) he hpl
  obtain ⟨q1, q2⟩ := q
  obtain ⟨mA, O, _⟩ := ins_get I2.hok q1
  obtain ⟨od, J, _⟩ := O.look
  refine ⟨O.obj, ?_⟩
  have r3 : Vals (.ref a :: vs) (.ref a :: us) := .cons rfl r
  have hl : ((.ref a :: us) ++ ([] : List Value)).length = ps.length := by rw [List.append_nil, ← r3.length]; exact F.len _ _ _ _ q2
  have run := F.run X.A X.stack s2 H2 ⟨.ref a :: us, []⟩ (.ref a :: us) (.ref a :: vs) Q E hr I2.env0 (by have := hb s2 (.ref a :: us) I2.kIn hl; rw [List.append_nil] at this; exact this) r3 q2
  refine wpAny_call (codeAny_mono (PySem.W.kco_code (a := ⟨us, []⟩) I2.kIn J rfl L.at_ L.fn L.fi run) fun r s' hq => ?_)
  cases r with
  | error e => exact hx pins σ H2 s2 e s' I2 hq
  | ok fl =>
    cases fl with
    | ret u => exact I2.after hq
    | next => exact False.elim hq
    | brk => exact False.elim hq
    | cont => exact False.elim hq
/-- a square of a wide int -/
def CSq (i j : Int) : Prop := j = 2 ∧ i.natAbs < 2 ^ 4000
theorem op_sq {X : Cx} : OpR X (binaryOp .Pow) (rI CSq fun i j => .int (i ^ j.toNat)) := opI fun i j _ _ _ _ _ hc q => by
  have hb := PyProof.Rows.intBits_le hc.2
  exact PyProof.Rows.pow_int (by rw [hc.1]; decide) (by rw [hc.1]; omega) q
end WC
/-! A rule for «match e: case 'a': .. case _: ..» over a text. -/
namespace L2
open PySem PySem.Spec PyProof.Rows
/-- the cases of a match, of a value -/
structure PM (X : Cx) (cs : List MatchCase) (t : V → TS) : Prop where
  run : ∀ (pins : List (Addr × Obj)) (s : Shared) (σ : St) (H : Hp) (D : Ends) (v : V) (u : Value) (first : Bool), Inv X pins σ H s → RelV v u → t v D σ H → wpAny (model X.prog X.w) X.A (matchCases cs X.env u first) (SP X pins D) X.xe s
section
variable {X : Cx}
def tMNil : V → TS := fun _ D σ H => D.nx σ H
def tMStr (x : Str) (tb : TS) (tr : V → TS) : V → TS := fun v D σ H => ∃ y, v = .str y ∧ if decide (y = x) = true then tb D σ H else tr (.str y) D σ H
def tMAny (tb : TS) : V → TS := fun _ D σ H => tb D σ H
theorem pm_nil : PM X [] tMNil := ⟨fun pins s σ H D v u first I r h => wpAny_matchCases_nil ⟨σ, H, I, h⟩⟩
theorem pm_str {x : Str} {j p1 p2} {body : List Stmt} {rest : List MatchCase} {tb : TS} {tr : V → TS} (hb : PSs X body tb) (hr : PM X rest tr) :
    PM X (⟨.MatchValue (.Constant (.str x) j p1) p2, none, body⟩ :: rest) (tMStr x tb tr) := by
  refine ⟨fun pins s σ H D v u first I r h => ?_⟩
  obtain ⟨y, rfl, q⟩ := h
  obtain ⟨t, rfl⟩ := r
  refine wpAny_matchCases_cons (wpAny_matchPattern_Value (Calls.Constant_str ?_))
  refine eq_str ?_
  refine wpAny_truthy_bool ?_
  by_cases e : y = x
  · have e1 : (y == x) = true := by rw [e]; exact beq_self_eq_true x
    rw [if_pos (decide_eq_true e)] at q
    first
      | rw [e1]
      | (rw [decide_eq_true e])
    show wpAny _ X.A (assignInOrder [] []) _ _ _
    exact wpAny_assignInOrder_none (hb.run pins _ σ H D (I.tok _) q)
  · have e1 : (y == x) = false := beq_eq_false_iff_ne.mpr e
    rw [if_neg (by rw [decide_eq_false e]; exact Bool.false_ne_true)] at q
    first
      | rw [e1]
      | (rw [decide_eq_false e])
    exact hr.run pins _ σ H D (.str y) _ false (I.tok _) ⟨t, rfl⟩ q
theorem pm_any {p2} {body : List Stmt} {tb : TS} (hb : PSs X body tb) : PM X [⟨.MatchAs none none p2, none, body⟩] (tMAny tb) := by
  refine ⟨fun pins s σ H D v u first I r h => ?_⟩
  refine wpAny_matchCases_cons (wpAny_matchPattern_Capture ?_)
  show wpAny _ X.A (assignInOrder [] []) _ _ _
  exact wpAny_assignInOrder_none (hb.run pins _ σ H D I h)
def tMatch (te : TE) (t : V → TS) : TS := fun D σ H => te σ H fun v H1 => t v D σ H1
theorem ps_match {e : Expr} {cs : List MatchCase} {pos : Pos} {te : TE} {t : V → TS} (he : PE X e te) (hc : PM X cs t) : PS X (.Match e cs pos) (tMatch te t) := by
  refine ⟨fun pins s σ H D I h => ?_⟩
  refine wpAny_Match (thn (he.run pins s σ H _ I h) fun u s1 ⟨v, H1, I1, r1, q1⟩ => ?_)
  exact hc.run pins s1 σ H1 D v u true I1 r1 q1
/-! the rules that speak of the written part, with K said outright: for a comprehension's block, where the context is bound -/
section
variable {X : Cx}
theorem ix_tupK {K : PySem.W.Frag} (h : X.K = K) : IxR X (rIxT K) := by subst h; exact ix_tup
theorem ix_listK {K : PySem.W.Frag} (h : X.K = K) : IxR X (rIxL K) := by subst h; exact ix_list
theorem sl_listK {K : PySem.W.Frag} (h : X.K = K) : SlR X (rSlL K) := by subst h; exact sl_list
theorem sl_tupK {K : PySem.W.Frag} (h : X.K = K) : SlR X (rSlT K) := by subst h; exact sl_tup
theorem op_in_seqK {K : PySem.W.Frag} (h : X.K = K) : OpR X (compareOp .In) (rIn K false) := by subst h; exact op_in_seq
theorem op_notIn_seqK {K : PySem.W.Frag} (h : X.K = K) : OpR X (compareOp .NotIn) (rIn K true) := by subst h; exact op_notIn_seq
theorem call_len_seqK {K : PySem.W.Frag} (h : X.K = K) : CallR X (.builtin "len") (fun xs H Q => ∃ p ys, xs = [.ref p] ∧ (SqL K H p ys ∨ SqT K H p ys) ∧ Q (.int ys.length) H) := by subst h; exact call_len_seq
theorem call_isiK1 {K : PySem.W.Frag} (h : X.K = K) : CallR X (.builtin "isinstance") (rIsi K) := by subst h; exact call_isi
theorem cr_allK {K : PySem.W.Frag} (h : X.K = K) (hc : X.calm = true) : CallR X (.builtin "all") (rAll K) := by subst h; exact cr_all hc
theorem cr_anyK {K : PySem.W.Frag} (h : X.K = K) (hc : X.calm = true) : CallR X (.builtin "any") (rAny K) := by subst h; exact cr_any hc
theorem cr_sumK {K : PySem.W.Frag} (h : X.K = K) (hc : X.calm = true) : CallR X (.builtin "sum") (rSum K) := by subst h; exact cr_sum hc
end
end
end L2
/-! Rules for «one or the other», max of three ints, the written part's letter said outright. -/
namespace L2
open PySem PySem.Spec PyProof.Rows
section
variable {X : Cx}
theorem pi_or {tg iter : Expr} {w1 w2 : TI} (h1 : PI X tg iter w1) (h2 : PI X tg iter w2) : PI X tg iter (fun σ H R => w1 σ H R ∨ w2 σ H R) :=
  ⟨fun pins s σ H R I h => h.elim (h1.run pins s σ H R I) (h2.run pins s σ H R I)⟩
theorem pg_or {tg : Expr} {g1 g2 : TG} (h1 : PG X tg g1) (h2 : PG X tg g2) : PG X tg (fun v σ H Q => g1 v σ H Q ∨ g2 v σ H Q) :=
  ⟨fun pins s σ H v u Q I r h => h.elim (h1.run pins s σ H v u Q I r) (h2.run pins s σ H v u Q I r)⟩
theorem ix_or : IxR X (fun x y H Q => rIxL X.K x y H Q ∨ rIxT X.K x y H Q) := ix_list.or ix_tup
theorem ix_orK {K : PySem.W.Frag} (h : X.K = K) : IxR X (fun x y H Q => rIxL K x y H Q ∨ rIxT K x y H Q) := by subst h; exact ix_or
theorem call_max3I (hc : X.calm = true) : CallR X (.builtin "max") (fun xs H Q => ∃ i j k : Int, xs = [.int i, .int j, .int k] ∧ Q (.int (if k > (if j > i then j else i) then k else (if j > i then j else i))) H) := by
  intro pins s σ H xs us Q I r h
  obtain ⟨i, j, k, rfl, q⟩ := h
  have e : nuMax3 (.int i) (.int j) (.int k) = some (.int (if k > (if j > i then j else i) then k else (if j > i then j else i))) := by
    have two : ∀ a b : Int, nuMax2 (.int a) (.int b) = some (.int (if b > a then b else a)) := fun a b => by
      show some (if decide (a < b) = true then V.int b else V.int a) = _
      by_cases h : b > a
      · rw [if_pos (decide_eq_true (show a < b from h)), if_pos h]
      · rw [if_neg (by rw [decide_eq_false (show ¬ a < b from h)]; exact Bool.false_ne_true), if_neg h]
    unfold nuMax3
    rw [two i j]
    exact two _ k
  exact call_max3Nu hc pins s σ H _ us Q I r ⟨_, _, _, _, rfl, e, q⟩
theorem call_list_ofK {K : PySem.W.Frag} (h : X.K = K) : CallR X (.type "list") (fun xs H Q => ∃ p ys, xs = [.ref p] ∧ (SqL K H p ys ∨ SqT K H p ys) ∧ ∀ l, H l = none → Q (.ref l) (upd H l (.lst ys))) := by subst h; exact call_list_of
theorem call_tuple_ofK {K : PySem.W.Frag} (h : X.K = K) : CallR X (.type "tuple") (fun xs H Q => ∃ p ys, xs = [.ref p] ∧ ((SqL K H p ys ∧ ∀ l, H l = none → Q (.ref l) (upd H l (.tup ys))) ∨ (SqT K H p ys ∧ Q (.ref p) H))) := by subst h; exact call_tuple_of
theorem pg_tupK {K : PySem.W.Frag} {es : List Expr} {k : Nat} {t : TGs} {n : Nat} {pos : Pos} (hK : X.K = K) (hc : X.calm = true) (h : PGs X es t)
    (hn : (assignEach es X.env).length = n := by rfl) (hst : (assignEach es X.env).findIdx? (·.1) = none := by rfl) : PG X (.Tuple es k pos) (gTup K n t) := by subst hK; exact pg_tup hc h hn hst
theorem pg_lstK {K : PySem.W.Frag} {es : List Expr} {k : Nat} {t : TGs} {n : Nat} {pos : Pos} (hK : X.K = K) (hc : X.calm = true) (h : PGs X es t)
    (hn : (assignEach es X.env).length = n := by rfl) (hst : (assignEach es X.env).findIdx? (·.1) = none := by rfl) : PG X (.Tuple es k pos) (gLst K n t) := by subst hK; exact pg_lst hc h hn hst
end
section
variable {X : Cx}
/-- y = {..}, a dict comprehension stored in its own statement -/
theorem ps_setDc {i : Nat} {y : Str} {py : Pos} {kx vx tg iter : Expr} {ifs : List Expr} {scope : Scope} {own : List (Str × Nat)} {pos spos : Pos} {wi : TI} {g : TG} {tt : TT} {tk tv : TE} (hc : X.calm = true) (hN : X.N.Nodup) (hy : X.N[i]? = some y) (hyl : X.env.scope.names.lookup y = some .local)
    (hsw : swapsWith (.DictComp kx vx [⟨tg, iter, ifs, 0⟩] scope pos) (some (.Name y py)) spos.line X.env = pure true) (hi : PI X tg iter wi) (ok : BlkOk X.N X.env.scope scope own)
    (hg : ∀ (s : Shared) (H : Hp) (C : Addr) (cl : List (Str × Addr)) (fp : List Addr), PG (X.blk s H scope (compEnvC scope cl C X.env) fp) tg g) (ht : ∀ (s : Shared) (H : Hp) (C : Addr) (cl : List (Str × Addr)) (fp : List Addr), PTs (X.blk s H scope (compEnvC scope cl C X.env) fp) ifs tt)
    (hk : ∀ (s : Shared) (H : Hp) (C : Addr) (cl : List (Str × Addr)) (fp : List Addr), PE (X.blk s H scope (compEnvC scope cl C X.env) fp) kx tk)
    (he : ∀ (s : Shared) (H : Hp) (C : Addr) (cl : List (Str × Addr)) (fp : List Addr), PE (X.blk s H scope (compEnvC scope cl C X.env) fp) vx tv) (hs : ∀ x, foldedSetIterable iter X.env x = pure x := by intro _; rfl) :
    PS X (.Assign [.Name y py] (.DictComp kx vx [⟨tg, iter, ifs, 0⟩] scope pos) spos) (tAsg (tDc wi g tt tk tv (own.map (·.2))) (gName i)) := by
  refine ⟨fun pins s σ H D I h => ?_⟩
  rw [exec_Assign_Name_used _ _ _ _ hsw]
  refine wpAny_bind (wpAny_standAt (wpAny_bind ?_))
  show wpAny _ X.A (do let _ ← comprehension (.DictComp kx vx [⟨tg, iter, ifs, 0⟩] scope pos) scope X.env (firstIterPos [⟨tg, iter, ifs, 0⟩] pos) newDict false (eval iter X.env) (some (assign (.Name y py) X.env))) _ _ s
  have h : tDc wi g tt tk tv (own.map (·.2)) σ H (fun x H1 => gName i x σ H1 D.nx) := h
  refine wpAny_bind (thn (dc_core (Qf := fun _ s' => SP X pins D .next s') hc hN I hi ok hg ht hk he hs h fun L C s' m H' I' q hn f => ?_) fun _ s' hq => wpAny_pure (wpAny_pure hq))
  show wpAny _ _ (assign (.Name y py) X.env (.ref L)) _ _ _
  refine wpAny_assign_Name (store_ok2 (v := V.ref L) I' hN hy (.inl hyl) rfl (fun s2 I2 hex => ?_) (.inr hyl))
  obtain ⟨a, sb, ha⟩ := hex
  obtain ⟨f0, f1, f2, f3, f4, f5⟩ := f
  have haC : C ≠ a := ha.elim (fun z => by rw [z]; exact f1) fun z e => f4 y a z e.symm
  exact ⟨m, hn.sameBut sb haC, fun h3 sb3 => ⟨_, H', I2.turned (t' := s2.toks) (fun b o hb e => (sb3.2 b hb).trans e) f0 f1 f3 f4 f5, q⟩⟩
theorem sw_trueD {kx vx : Expr} {gs : List Comprehension} {scope : Scope} {pos py : Pos} {y : Str} {l : Nat} {env : Env} (hk : env.scope.kind = .function) (hy : env.scope.names.lookup y = some .local) (hl : (py.line == pos.line) = true)
    (ha : (scope.names.any fun (n, k) => n == y && (k == .local || k == .cell)) = false) : swapsWith (.DictComp kx vx gs scope pos) (some (.Name y py)) l env = pure true := by
  have ky : env.kindOf y = some .local := hy
  have hb : env.blockKind = .function := by
    unfold Env.blockKind
    rw [hk]
    rfl
  unfold swapsWith
  simp only [hb, ky, ha, Expr.pos, hl]
  rfl
end
/-- a dict comprehension over a list that stays -/
theorem dc_list {K : PySem.W.Frag} {a : Addr} {xs : List V} {g : TG} {tt : TT} {tk tv : TE} {vs : List Nat} {σ : St} {H1 : Hp} {D : Addr} {Qd : Hp → Prop} (Pv : Nat → Hp → Prop) (h0 : Pv 0 (upd H1 D (.dK []))) (hl : ∀ i H, i ≤ xs.length → Pv i H → SqL K H a xs)
    (hs : ∀ i x H, xs[i]? = some x → Pv i H → g x (wipe σ vs) H fun σ2 H2 => wipe σ2 vs = wipe σ vs ∧ tt σ2 H2 fun b H3 =>
      if b = true then tk σ2 H3 fun y H4 => tv σ2 H4 fun z H5 => ∃ kvs k, y = kV k ∧ H5 D = some (.dK kvs) ∧ kvs.length < sizeLine ∧ Pv (i + 1) (upd H5 D (.dK (putK kvs k z))) else Pv (i + 1) H3) (hd : ∀ H, Pv xs.length H → Qd H) :
    ∃ W : Nat → Nat → Hp → Prop, (∃ m, W 0 m (upd H1 D (.dK []))) ∧ ∀ i m H, W i m H →
      ((Itl K a).stop i H ∧ Qd H) ∨ ((Itl K a).go i H ∧ ∃ Nx : Hp → Prop, (∀ H', Nx H' → ∃ m', m' < m ∧ W (i + 1) m' H') ∧ ∀ x H', (Itl K a).yld i H x H' → g x (wipe σ vs) H' fun σ2 H2 => wipe σ2 vs = wipe σ vs ∧ tt σ2 H2 fun b H3 =>
        if b = true then tk σ2 H3 fun y H4 => tv σ2 H4 fun z H5 => ∃ kvs k, y = kV k ∧ H5 D = some (.dK kvs) ∧ kvs.length < sizeLine ∧ Nx (upd H5 D (.dK (putK kvs k z))) else Nx H3) := by
  refine ⟨fun i m H => m = xs.length - i ∧ i ≤ xs.length ∧ Pv i H, ⟨xs.length, by simp, Nat.zero_le _, h0⟩, ?_⟩
  rintro i m H ⟨rfl, hi, p⟩
  have q := hl i H hi p
  rcases Nat.lt_or_ge i xs.length with hlt | hge
  · refine .inr ⟨⟨xs, xs[i], q, by simp [hlt]⟩, Pv (i + 1), fun H' p' => ⟨xs.length - (i + 1), by omega, rfl, hlt, p'⟩, ?_⟩
    rintro x H' ⟨rfl, y⟩
    exact hs i x _ (y xs q) p
  · obtain rfl : i = xs.length := Nat.le_antisymm hi hge
    exact .inl ⟨⟨xs, q, Nat.le_refl _⟩, hd H p⟩
/-- a dict comprehension over the list or the tuple in slot i, which stays -/
theorem tDc_or {K : PySem.W.Frag} {a : Addr} {xs : List V} {i : Nat} {g : TG} {tt : TT} {tk tv : TE} {vs : List Nat} {σ : St} {H : Hp} {Q : VK} (hi : σ[i]? = some (some (V.ref a))) (hx : H a = some (.lst xs) ∨ H a = some (.tup xs)) (Pv : Addr → Nat → Hp → Prop)
    (h0 : ∀ D, H D = none → Pv D 0 (upd H D (.dK []))) (hl : ∀ D, H D = none → ∀ j H', Pv D j H' → ∀ u, H a = some u → H' a = some u)
    (hs : ∀ D, H D = none → ∀ j x H', xs[j]? = some x → Pv D j H' → g x (wipe σ vs) H' fun σ2 H2 => wipe σ2 vs = wipe σ vs ∧ tt σ2 H2 fun b H3 =>
      if b = true then tk σ2 H3 fun y H4 => tv σ2 H4 fun z H5 => ∃ kvs k, y = kV k ∧ H5 D = some (.dK kvs) ∧ kvs.length < sizeLine ∧ Pv D (j + 1) (upd H5 D (.dK (putK kvs k z))) else Pv D (j + 1) H3)
    (hd : ∀ D, H D = none → ∀ H', Pv D xs.length H' → Q (.ref D) H') : tDc (fun σ H R => iList K (tVar i) σ H R ∨ iTup K (tVar i) σ H R) g tt tk tv vs σ H Q := by
  rcases hx with hx | hx
  · exact .inl ⟨_, hi, a, rfl, ⟨_, SqL.of hx⟩, fun D hD => dc_list (K := K) (a := a) (xs := xs) (Pv D) (h0 D hD) (fun j H' _ p => SqL.of (hl D hD j H' p _ hx)) (hs D hD) (hd D hD)⟩
  · exact .inr ⟨_, hi, a, rfl, ⟨_, SqT.of hx⟩, fun D hD => dc_tup (K := K) (a := a) (xs := xs) (Pv D) (h0 D hD) (fun j H' _ p => SqT.of (hl D hD j H' p _ hx)) (hs D hD) (hd D hD)⟩
/-- a loop over the list or the tuple in slot i, which stays -/
theorem tFor_or {K : PySem.W.Frag} {a : Addr} {xs : List V} {i : Nat} {g : TG} {tb : TS} {D : Ends} {σ : St} {H : Hp} (hi : σ[i]? = some (some (V.ref a))) (hx : H a = some (.lst xs) ∨ H a = some (.tup xs)) (Pv : Nat → St → Hp → Prop)
    (h0 : Pv 0 σ H) (hl : ∀ j σ' H', Pv j σ' H' → ∀ u, H a = some u → H' a = some u)
    (hs : ∀ j x σ' H', xs[j]? = some x → Pv j σ' H' → g x σ' H' fun σ2 H2 => tb { D with nx := Pv (j + 1), ct := Pv (j + 1), bk := D.nx } σ2 H2)
    (hd : ∀ σ' H', Pv xs.length σ' H' → D.nx σ' H') : tFor (fun σ H R => iList K (tVar i) σ H R ∨ iTup K (tVar i) σ H R) g tb D σ H := by
  rcases hx with hx | hx
  · exact .inl ⟨_, hi, a, rfl, ⟨_, SqL.of hx⟩, for_list (K := K) (a := a) (xs := xs) Pv h0 (fun j σ' H' _ p => SqL.of (hl j σ' H' p _ hx)) hs hd⟩
  · exact .inr ⟨_, hi, a, rfl, ⟨_, SqT.of hx⟩, for_tup (K := K) (a := a) (xs := xs) Pv h0 (fun j σ' H' _ p => SqT.of (hl j σ' H' p _ hx)) hs hd⟩
/-- a comprehension over the list or the tuple in slot i, which stays -/
theorem tLc_or {K : PySem.W.Frag} {a : Addr} {xs : List V} {i : Nat} {g : TG} {tt : TT} {te : TE} {vs : List Nat} {σ : St} {H : Hp} {Q : VK} (hi : σ[i]? = some (some (V.ref a))) (hx : H a = some (.lst xs) ∨ H a = some (.tup xs)) (Pv : Addr → Nat → Hp → Prop)
    (h0 : ∀ D, H D = none → Pv D 0 (upd H D (.lst []))) (hl : ∀ D, H D = none → ∀ j H', Pv D j H' → ∀ u, H a = some u → H' a = some u)
    (hs : ∀ D, H D = none → ∀ j x H', xs[j]? = some x → Pv D j H' → g x (wipe σ vs) H' fun σ2 H2 => wipe σ2 vs = wipe σ vs ∧ tt σ2 H2 fun b H3 =>
      if b = true then te σ2 H3 fun y H4 => ∃ acc, H4 D = some (.lst acc) ∧ acc.length < sizeLine ∧ Pv D (j + 1) (upd H4 D (.lst (acc ++ [y]))) else Pv D (j + 1) H3)
    (hd : ∀ D, H D = none → ∀ H', Pv D xs.length H' → Q (.ref D) H') : tLc (fun σ H R => iList K (tVar i) σ H R ∨ iTup K (tVar i) σ H R) g tt te vs σ H Q := by
  rcases hx with hx | hx
  · exact .inl ⟨_, hi, a, rfl, ⟨_, SqL.of hx⟩, fun D hD => lc_list (K := K) (a := a) (xs := xs) (Pv D) (h0 D hD) (fun j H' _ p => SqL.of (hl D hD j H' p _ hx)) (hs D hD) (hd D hD)⟩
  · exact .inr ⟨_, hi, a, rfl, ⟨_, SqT.of hx⟩, fun D hD => lc_tup (K := K) (a := a) (xs := xs) (Pv D) (h0 D hD) (fun j H' _ p => SqT.of (hl D hD j H' p _ hx)) (hs D hD) (hd D hD)⟩
end L2
/-! Own errors: made, raised, caught, asked of; defs that raise; defs that are called in a suite. All over the errors whose context is None. -/
namespace EX
open PySem PySem.Spec PyProof.Rows L2
/-- a def that may raise, by its body -/
theorem okR {P : Program} {w : World} {K : PySem.W.Frag} {mg : Str → Option Value} {base : Heap} {x qual : Str} {st : Stmt} {f : Addr} {fd : FuncData} {N ps : List Str} {k : Nat} {sp : Sp} (F : Fun K x qual st f fd) (S : FnScope N ps (defScope st))
    (len : ∀ vs H Q E, sp vs H Q E → vs.length = ps.length)
    (body : ∀ (cdv : Value) (A : Around) (outer : List Env) (s : Shared) (H : Hp) (vs : List V) (Q : VK) (E : XK), Room k (A.deeper (envOfC qual (defScope st) s.heap.objs.size f cdv)) → sp vs H Q E →
      ∃ t, PSs (cxOf (L2N.CX P w) P w K mg base N qual (defScope st) f cdv A outer s H E) (defBody st) t ∧ t { nx := fun _ H' => Q .non H', rt := Q } (start N vs) H) :
    FnOk P w K mg base (L2N.CX P w) (k + 1) f fd ps sp := by
  obtain ⟨oc, od, kV, doc, pm, an, cdv, ct, osl, rfl, lk, hcd⟩ := F.ex
  exact fn_of lk hcd S len fun A outer s H vs Q E hr hsp => body cdv A outer s H vs Q E hr hsp
/-- a def that does not raise, called while an error is handled, by its body -/
theorem okH {P : Program} {w : World} {K : PySem.W.Frag} {mg : Str → Option Value} {base : Heap} {x qual : Str} {st : Stmt} {f : Addr} {fd : FuncData} {N ps : List Str} {k : Nat} {sp : Sp} (F : Fun K x qual st f fd) (S : FnScope N ps (defScope st))
    (len : ∀ vs H Q E, sp vs H Q E → vs.length = ps.length)
    (body : ∀ (cdv : Value) (A : Around) (outer : List Env) (s : Shared) (H : Hp) (vs : List V) (Q : VK) (E : XK) (p : Addr × Obj), L2H.RoomH k (A.deeper (envOfC qual (defScope st) s.heap.objs.size f cdv)) → L2H.Hot1 A p → sp vs H Q E →
      ∃ t, PSs (L2H.cxH CX0 P w K mg base N qual (defScope st) f cdv A outer s H E p).nox (defBody st) t ∧ t { nx := fun _ H' => Q .non H', rt := Q } (start N vs) H) :
    L2H.FnH P w K mg base CX0 (k + 1) f fd ps sp := by
  obtain ⟨oc, od, kV, doc, pm, an, cdv, ct, osl, rfl, lk, hcd⟩ := F.ex
  refine L2H.fn_ofH lk hcd S len fun A outer s H vs Q E p hot hr hsp => ?_
  obtain ⟨t, h, q⟩ := body cdv A outer s H vs Q E p hr hot hsp
  exact ⟨t, h.nox, q⟩
/-- defs as their callers see them: one that may raise; one that is called in a suite -/
def CalX (P : Program) (w : World) (K : PySem.W.Frag) (mg : Str → Option Value) (base : Heap) (k : Nat) (x : Str) (ps : List Str) (sp : Sp) : Prop :=
  ∃ (f : Addr) (fd : FuncData), FnOk P w K mg base (L2N.CX P w) k f fd ps sp ∧ mg x = some (.ref f) ∧ PySem.W.keepIn K (.ref f) = true ∧ Binds K fd ps []
def CalH (P : Program) (w : World) (K : PySem.W.Frag) (mg : Str → Option Value) (base : Heap) (k : Nat) (x : Str) (ps : List Str) (sp : Sp) : Prop :=
  ∃ (f : Addr) (fd : FuncData), L2H.FnH P w K mg base CX0 k f fd ps sp ∧ mg x = some (.ref f) ∧ PySem.W.keepIn K (.ref f) = true ∧ Binds K fd ps []
section
variable {X : Cx} {k : Nat} {x : Str} {ps : List Str} {sp : Sp} {p pos : Pos} {e : Expr} {es : List Expr} {t : TA} {W : WX}
/-- f(..) that may raise; W: what is wished of what is raised -/
theorem pe_calX (C : CalX X.prog X.w X.K X.mg X.base k x ps sp) (hr : Room k X.A) (hg : Gl X x) (tk : L2N.Takes X W) (ha : PA X (e :: es) t)
    (hdb : (x == ("__debug__" : Str)) = false := by decide) (he : starEach (e :: es) X.env = (false, eval e X.env) :: starEach es X.env := by rfl) (hpl : (backTo pos (starEach es X.env)).any (·.1) = false := by rfl) :
    PE X (.Call (.Name x p) (e :: es) [] pos) (tCallS sp (WE W) t) := by
  obtain ⟨f, fd, G, m, kp, b⟩ := C
  exact pe_callS G hr hg m kp b (L2N.passAt tk) ha hdb he hpl
theorem passH {X : Cx} {σ : L2.St} : PassesAt CX0 X σ E0 := fun _ _ _ _ _ _ h => h.elim
/-- f(..) in a suite -/
theorem pe_calH (C : CalH X.prog X.w X.K X.mg X.base k x ps sp) (hr : L2H.RoomH k X.A) (hc : L2H.HotC X) (hg : Gl X x) (ha : PA X (e :: es) t)
    (hdb : (x == ("__debug__" : Str)) = false := by decide) (he : starEach (e :: es) X.env = (false, eval e X.env) :: starEach es X.env := by rfl) (hpl : (backTo pos (starEach es X.env)).any (·.1) = false := by rfl) :
    PE X (.Call (.Name x p) (e :: es) [] pos) (tCallS sp (fun _ => E0) t) := by
  obtain ⟨f, fd, G, m, kp, b⟩ := C
  exact L2H.pe_callH G hr hc hg m kp b (fun _ => passH) ha hdb he hpl
/-- the suite of an error whose context is None bears it -/
theorem hot_of {X : Cx} {a : Addr} {oe : Obj} {cls : Value} {d : Option Addr} {pn : List (Addr × Obj)} (hz : L2N.Zn cls d oe) (hf : ∃ vs, oe.data = .fields vs) : L2H.HotC (X.suite a ((a, oe) :: pn)) := by
  obtain ⟨vs, e⟩ := hf
  exact ⟨(a, oe), ⟨rfl, vs, e, hz.2.2 vs e⟩, List.mem_cons_self⟩
theorem roomS {X : Cx} {k : Nat} {a : Addr} {pn : List (Addr × Obj)} (hr : Room k X.A) : L2H.RoomH k (X.suite a pn).A := ⟨hr.dp, hr.un⟩
/-- nothing is let out -/
theorem takesN {X : Cx} : L2N.Takes X (fun _ _ _ _ => False) := fun _ _ h => by
  obtain ⟨_, _, _, _, _, _, _, _, _, _, _, _, _, _, _, _, z⟩ := h
  exact z.elim
theorem passN {X : Cx} {E : XK} : Passes CX0 X E := fun _ _ _ _ _ _ _ h => h.elim
end
/-! ### making -/
section
variable {X : Cx} {C : Addr} {bmB : List Value} {B newId initId : String}
/-- X(), an own class without an __init__ -/
theorem pmk0 {x : Str} {p pos : Pos} (F : ExcBaseFacts B newId initId bmB) (q : PySem.W.excIn X.K C bmB newId = true) (gC : X.mg x = some (.ref C)) (kC : PySem.W.keepIn X.K (.ref C) = true) (r : Raises X (.ref C)) (hg : Gl X x)
    (hdb : (x == ("__debug__" : Str)) = false := by decide) : L2N.PMk X (.Call (.Name x p) [] [] pos) (fun _ H Q => Q (.ref C) none H) := by
  intro pins s σ H Q I h
  refine wpAny_Call_Name_kw (ld_glob I hg gC (PySem.W.callWith_K0 I.kIn kC ?_) hdb)
  obtain ⟨bm, N, nm, qn, bs, hdct, sn, sub, ab, col, dd, k0, k1, k2, k3, k5, mN, hC, hN, hni, T⟩ := exc_obj I.kIn q
  exact wpAny_call_exc_subT F T hC hN hni (fun h' e hm => L2N.mk_of I hm r h (I.hok.gone hm.new)) (Nat.zero_le _)
/-- X(..), an own class with an __init__ -/
theorem pmkI {CX : CXT} {x : Str} {fI : Addr} {k : Nat} {fd : FuncData} {ps : List Str} {sp : Sp} {e : Expr} {es : List Expr} {ta : TA} {p pos : Pos} (T : OexC X.K C) (iC : PySem.W.findIn X.K (.ref C) "__init__" = some (some (.ref fI)))
    (tI : PySem.W.typeIn X.K (.ref fI) = some (.type "function")) (F1 : FnOk X.prog X.w X.K X.mg X.base CX k fI fd ps sp) (hr : Room (k + 1) X.A) (hb : Binds X.K fd ps []) (hx : Passes CX X (fun _ _ _ => False)) (hg : Gl X x) (hm : X.mg x = some (.ref C)) (ha : PA X (e :: es) ta)
    (hdb : (x == ("__debug__" : Str)) = false := by decide) (he : starEach (e :: es) X.env = (false, eval e X.env) :: starEach es X.env := by rfl) (hpl : (backTo pos (starEach es X.env)).any (·.1) = false := by rfl) :
    L2N.PMk X (.Call (.Name x p) (e :: es) [] pos) (tMkO C sp [] ta) := by
  intro pins s σ H Q I h
  obtain ⟨nm, q, N, bs, bm, sn, sub, ab, col, dd, k0, k1, k2, k3, k5, hC, hbm⟩ := T.cls
  refine wpAny_Call_Name_kw (ld_glob I hg hm (PySem.W.callWith_K (h₀ := X.base) I.ok.mod.kin T.kC (thn (ha.run pos pins s σ H _ I h) fun us s1 hh => ?_) he hpl) hdb)
  obtain ⟨vs, H1, I1, r1, hz, q1⟩ := hh
  refine ⟨I1.kIn, ?_⟩
  show wpAny _ _ (call (.ref C) us) _ _ _
  obtain ⟨hp, g, dr, tk, os⟩ := s1
  have fresh := I1.hok.fresh (Nat.le_succ hp.objs.size)
  have hq := q1 (hp.objs.size + 1) fresh
  rw [List.append_nil] at hq
  generalize eh : (hp.push (PySem.W.kdv_tup us)).push (PySem.HandSPX.excO C hp.objs.size) = hn
  have kk : ∀ b o, hp.get? b = some o → hn.get? b = some o := fun b o z => by
    rw [← eh]
    exact Heap.get?_push_of_some _ (Heap.get?_push_of_some _ z)
  have hget : hn.get? (hp.objs.size + 1) = some (PySem.HandSPX.excO C hp.objs.size) := by
    rw [← eh]
    heap_get
  have I2 : Inv X pins σ (upd H1 (hp.objs.size + 1) (exo (hp.objs.size + 1) C none)) ⟨hn, g, dr, tk, os⟩ := I1.laid (t' := tk) kk (Nat.le_succ _) (exo_ok hget)
  have r2 : Vals (V.ref (hp.objs.size + 1) :: vs) (Value.ref (hp.objs.size + 1) :: us) := .cons rfl r1
  have hl : (Value.ref (hp.objs.size + 1) :: us).length = ps.length := r2.length.symm.trans (F1.len _ _ _ _ hq)
  have hb' := hb _ (Value.ref (hp.objs.size + 1) :: us) I2.kIn (by rw [List.append_nil]; exact hl)
  rw [List.append_nil] at hb'
  have hus : us.length ≤ sizeLine := by
    rw [← Vals.length r1]
    exact Nat.le_trans hz (by rw [sizeLine_eq]; decide)
  have run := F1.run _ X.stack _ _ ⟨Value.ref (hp.objs.size + 1) :: us, []⟩ _ _ _ (fun _ _ _ => False) (hr.make C us []) (I2.env0.make C us []) hb' r2 hq
  rw [← eh] at run
  refine wpAny_call (PySem.HandSPX.call_own F.excBase_ValueError (fun Y => PySem.HandSPX.refsVE_contains Y bm hbm) (I1.kIn _ _ hC) (PySem.W.looks_findIn I1.kIn iC) (fun self => PySem.W.bind_fn I1.kIn self tI) hus (codeAny_mono run fun r s' hq' => ?_))
  rw [eh] at hq'
  cases r with
  | error er => exact hx pins σ _ _ er s' I2 hq'
  | ok fl =>
    cases fl with
    | next => exact hq'.elim
    | brk => exact hq'.elim
    | cont => exact hq'.elim
    | ret u =>
      obtain ⟨v, H2, os2, bare2, un2, hok2, rv, ev, d, fs, ea, ed, hd1, q2⟩ := hq'
      subst ev
      obtain ⟨h2, g2, d2, t2, os'⟩ := s'
      obtain ⟨t0, G, J, kG, ge, hoe, na⟩ := mk_end0 (d2 := d2) (t2 := t2) I1 (Nat.le_succ _) kk un2 hok2 os2 bare2 ea ed hd1
      exact ⟨rv, hp.objs.size + 1, _, _, ⟨G, g2, d2, t2, os'⟩, _, .ref C, some d, rfl, J, kG, ge, hoe, ⟨rfl, rfl, fun vs z => by cases z; rfl⟩, rfl, rfl, na, rfl, bare2, raises_own T.exC T.tyC, q2⟩
end
/-! ### asking of a caught error -/
/-- what the class at C must say for its instances to be asked of -/
structure XCls (K : PySem.W.Frag) (C : Addr) : Prop where
  cl : (PySem.W.clsIn K C).isSome = true
  ga : PySem.W.findIn K (.ref C) "__getattribute__" = some (some (.builtin "BaseException.__getattribute__"))
  gg : PySem.W.findIn K (.ref C) "__getattr__" = some none
  su : PySem.W.subIn K (.ref C) (.type "BaseException") = some true
  ca : PySem.W.findIn K (.ref C) "__class__" = some (some (.builtin "object.__class__"))
  cn : PySem.W.specialIn K (.builtin "object.__class__") "__get__" = some (some (.builtin "getset_descriptor.__get__"))
  ct : PySem.W.takesIn K (.builtin "object.__class__") = some true
  cm : PySem.W.mroIn K C (.type "object") = some true
  hd : PySem.W.hasDictIn K C = true
  ty : PySem.W.typeIn K (.ref C) = some (.type "type")
  kp : PySem.W.keepIn K (.ref C) = true
def xclsB (K : PySem.W.Frag) (C : Addr) : Bool :=
  (PySem.W.clsIn K C).isSome && decide (PySem.W.findIn K (.ref C) "__getattribute__" = some (some (.builtin "BaseException.__getattribute__"))) && decide (PySem.W.findIn K (.ref C) "__getattr__" = some none) &&
  decide (PySem.W.subIn K (.ref C) (.type "BaseException") = some true) && decide (PySem.W.findIn K (.ref C) "__class__" = some (some (.builtin "object.__class__"))) &&
  decide (PySem.W.specialIn K (.builtin "object.__class__") "__get__" = some (some (.builtin "getset_descriptor.__get__"))) && decide (PySem.W.takesIn K (.builtin "object.__class__") = some true) &&
  decide (PySem.W.mroIn K C (.type "object") = some true) && PySem.W.hasDictIn K C && decide (PySem.W.typeIn K (.ref C) = some (.type "type")) && PySem.W.keepIn K (.ref C)
theorem xcls_of {K : PySem.W.Frag} {C : Addr} (h : xclsB K C = true) : XCls K C := by
  unfold xclsB at h
  simp only [Bool.and_eq_true, decide_eq_true_eq] at h
  obtain ⟨⟨⟨⟨⟨⟨⟨⟨⟨⟨a, b⟩, c⟩, d⟩, e⟩, f⟩, g⟩, h⟩, i⟩, j⟩, k⟩ := h
  exact ⟨a, b, c, d, e, f, g, h, i, j, k⟩
theorem XCls.xf {K : PySem.W.Frag} {C : Addr} (T : XCls K C) : XfC K C := ⟨T.ga, T.gg, T.su, T.hd⟩
theorem XCls.raises {X : Cx} {C : Addr} (T : XCls X.K C) : Raises X (.ref C) := raises_own T.su T.ty
theorem XCls.kit {K : PySem.W.Frag} {C x : Addr} {ox : Obj} {od : Option Obj} (T : XCls K C) : PySem.W.KitX K (.ref x) (.ref C) (fun h => PySem.W.InstAt h x ox C od) := PySem.W.kitx_exc T.cl T.ga T.gg T.su T.ca T.cn T.ct T.cm
/-- the class at C beside the class at D, as isinstance and except see them: b tells whether C is D or stands below it -/
structure Below (K : PySem.W.Frag) (C D : Addr) (b : Bool) : Prop where
  one : PySem.W.kitOne K (.ref C) (.ref D) = some b
  exm : PySem.W.exmOne K (.ref C) (.ref D) = some b
theorem exm_kit {K : PySem.W.Frag} {C D : Addr} {b : Bool} (T : XCls K C) (hs : PySem.W.subIn K (.ref C) (.ref D) = some b) (U : XCls K D) (hne : (Value.ref C == Value.ref D) = true → b = true) : Below K C D b := by
  have h2 : ((PySem.W.clsIn K D).isSome && PySem.W.typeIn K (.ref D) == some (.type "type")) = true := by
    rw [U.cl, U.ty]
    rfl
  have h3 : PySem.W.kitCls K (.ref C) (.ref D) = some b := by
    show (if _ then _ else _) = _
    rw [if_pos h2]
    exact hs
  refine ⟨?_, ?_⟩
  · show (if _ then _ else _) = _
    by_cases e : (Value.ref C == Value.ref D) = true
    · rw [if_pos e, hne e]
    · rw [if_neg e]
      exact h3
  · show (if _ then _ else _) = _
    have e : (PySem.W.subIn K (.ref D) (.type "BaseException") == some true) = true := by rw [U.su]; rfl
    rw [if_pos e]
    exact h3
/-- isinstance and except, from what the written part says of two classes -/
theorem kit_sub {K : PySem.W.Frag} {C D : Addr} {b : Bool} (i : PySem.W.isClsIn K D = true) (t : PySem.W.typeIn K (.ref D) = some (.type "type")) (s : PySem.W.subIn K (.ref C) (.ref D) = some b) (r : PySem.W.subIn K (.ref C) (.ref C) = some true) : PySem.W.kitOne K (.ref C) (.ref D) = some b := by
  have h2 : ((PySem.W.clsIn K D).isSome && PySem.W.typeIn K (.ref D) == some (.type "type")) = true := by
    have i' : (PySem.W.clsIn K D).isSome = true := i
    rw [i', t]
    rfl
  show (if _ then _ else _) = _
  by_cases e : (Value.ref C == Value.ref D) = true
  · rw [if_pos e]
    have e' : Value.ref C = Value.ref D := eq_of_beq e
    rw [← e', r] at s
    exact s
  · rw [if_neg e]
    show (if _ then _ else _) = _
    rw [if_pos h2]
    exact s
theorem kit_blt {K : PySem.W.Frag} {C : Addr} {T : String} {b : Bool} (m : PySem.W.kitMeta T = true) (s : PySem.W.subIn K (.ref C) (.type T) = some b) : PySem.W.kitOne K (.ref C) (.type T) = some b := by
  show (if _ then _ else _) = _
  rw [if_neg (by exact Bool.false_ne_true)]
  show (if _ then _ else _) = _
  rw [if_pos m]
  exact s
theorem exm_sub {K : PySem.W.Frag} {C D : Addr} {b : Bool} (i : PySem.W.isClsIn K D = true) (t : PySem.W.typeIn K (.ref D) = some (.type "type")) (e : PySem.W.subIn K (.ref D) (.type "BaseException") = some true) (s : PySem.W.subIn K (.ref C) (.ref D) = some b) : PySem.W.exmOne K (.ref C) (.ref D) = some b := by
  have h2 : ((PySem.W.clsIn K D).isSome && PySem.W.typeIn K (.ref D) == some (.type "type")) = true := by
    have i' : (PySem.W.clsIn K D).isSome = true := i
    rw [i', t]
    rfl
  have h1 : (PySem.W.subIn K (.ref D) (.type "BaseException") == some true) = true := by
    rw [e]
    rfl
  show (if _ then _ else _) = _
  rw [if_pos h1]
  show (if _ then _ else _) = _
  rw [if_pos h2]
  exact s
/-- where the error's own dict stands -/
def DictAt (H : Hp) (d : Option Addr) : Prop := d = none ∨ ∃ (dd : Addr) (fs : List (Str × V)), d = some dd ∧ H dd = some (.xd fs)
theorem inst_of {X : Cx} {pins : List (Addr × Obj)} {σ : L2.St} {H : Hp} {s : Shared} {a D : Addr} {oe : Obj} {d : Option Addr} {pn : List (Addr × Obj)} (I : Inv (X.suite a ((a, oe) :: pn)) pins σ H s) (hz : Zc (.ref D) d oe) (hf : ∃ vs, oe.data = .fields vs) (hd : DictAt H d) :
    ∃ od, PySem.W.InstAt s.heap a oe D od := by
  obtain ⟨hget, _⟩ := I.pin (a, oe) (List.mem_append_left _ List.mem_cons_self)
  obtain ⟨vs, hv⟩ := hf
  have no : PySem.W.notCls oe = true := by unfold PySem.W.notCls; rw [hv]
  rcases hd with rfl | ⟨dd, fs, rfl, hx⟩
  · exact ⟨none, hget, hz.1, no, by rw [hz.2]; trivial⟩
  · have hx : ObjOk X.prog X.w H s.heap dd (.xd fs) := I.hok dd _ hx
    obtain ⟨mA, hns, _⟩ := hx
    obtain ⟨od, ho, _⟩ := lookIn_ns hns
    exact ⟨some od, hget, hz.1, no, by rw [hz.2]; exact ho⟩
/-- isinstance(e, c) -/
def rIsX (K : PySem.W.Frag) (a : Addr) (cls : Value) (d : Option Addr) : List V → Hp → VK → Prop := fun xs H Q => ∃ (D : Addr) (c : V) (cv : Value) (b : Bool), xs = [.ref a, c] ∧ ClsV c cv ∧ cls = .ref D ∧ XCls K D ∧ DictAt H d ∧ PySem.W.kitOne K (.ref D) cv = some b ∧ Q (.bl b) H
/-- isinstance(e, (c, ..)) -/
def rIsXT (K : PySem.W.Frag) (a : Addr) (cls : Value) (d : Option Addr) : List V → Hp → VK → Prop := fun xs H Q => ∃ (D tp : Addr) (cs : List V) (us : List Value) (b : Bool), xs = [.ref a, .ref tp] ∧ H tp = some (.tup cs) ∧ Paired ClsV cs us ∧ cls = .ref D ∧ XCls K D ∧ DictAt H d ∧
  PySem.W.kitAny K (.ref D) us = some b ∧ Q (.bl b) H
section
variable {X : Cx} {a : Addr} {oe : Obj} {cls : Value} {d : Option Addr} {pn : List (Addr × Obj)}
theorem call_isX {K : PySem.W.Frag} (hK : X.K = K) (hz : Zc cls d oe) (hf : ∃ vs, oe.data = .fields vs) : CallR (X.suite a ((a, oe) :: pn)) (.builtin "isinstance") (rIsX K a cls d) := by
  subst hK
  intro pins s σ H xs us Q I r h
  obtain ⟨D, c, cv, b, rfl, k, rfl, T, hd, e, q⟩ := h
  obtain ⟨u1, u2, rfl, r1, r2⟩ := vals2 r
  cases (show u1 = Value.ref a from r1)
  have e2 := k.eq r2
  subst e2
  obtain ⟨od, J⟩ := inst_of I hz hf hd
  exact PySem.W.kia_one T.kit I.kIn J e (fun z => nomatch z) fun tk => ⟨.bl b, H, I.tok tk, rfl, q⟩
theorem call_isXT {K : PySem.W.Frag} (hK : X.K = K) (hz : Zc cls d oe) (hf : ∃ vs, oe.data = .fields vs) : CallR (X.suite a ((a, oe) :: pn)) (.builtin "isinstance") (rIsXT K a cls d) := by
  subst hK
  intro pins s σ H xs us Q I r h
  obtain ⟨D, tp, cs, ws, b, rfl, hT, k, rfl, T, hd, e, q⟩ := h
  obtain ⟨u1, u2, rfl, r1, r2⟩ := vals2 r
  cases (show u1 = Value.ref a from r1)
  cases (show u2 = Value.ref tp from r2)
  obtain ⟨_, its, rv, o, h1, h2, n, h3⟩ := (show ObjOk X.prog X.w H s.heap tp (.tup cs) from I.hok tp _ hT)
  have e3 := ClsV.all k rv
  subst e3
  obtain ⟨oc, od', dt, sl⟩ := o
  simp only at h2 h3
  subst h2 h3
  obtain ⟨od, J⟩ := inst_of I hz hf hd
  exact PySem.W.kia_tup T.kit I.kIn J h1 e (fun z => nomatch z) fun tk => ⟨.bl b, H, I.tok tk, rfl, q⟩
end
end EX
/-! An exception object as a value; a caught error as an argument. -/
namespace EX
open PySem PySem.Spec PyProof.Rows L2
section
variable {X : Cx} {C : Addr} {bmB : List Value} {B newId initId : String}
/-- X() as a value, an own class without an __init__ -/
theorem pe_exc0 {x : Str} {p pos : Pos} (F : ExcBaseFacts B newId initId bmB) (q : PySem.W.excIn X.K C bmB newId = true) (gC : X.mg x = some (.ref C)) (kC : PySem.W.keepIn X.K (.ref C) = true) (hg : Gl X x) (hdb : (x == ("__debug__" : Str)) = false := by decide) :
    PE X (.Call (.Name x p) [] [] pos) (fun _ H Q => ∀ a, H a = none → Q (.ref a) (upd H a (ExO (.ref C) a))) := by
  refine ⟨fun pins s σ H Q I h => ?_⟩
  refine wpAny_Call_Name_kw (ld_glob I hg gC (PySem.W.callWith_K0 I.kIn kC ?_) hdb)
  obtain ⟨bm, N, nm, qn, bs, hdct, sn, sub, ab, col, dd, k0, k1, k2, k3, k5, mN, hC, hN, hni, T⟩ := exc_obj I.kIn q
  refine wpAny_call_exc_subT F T hC hN hni (fun h' e hm => ?_) (Nat.zero_le _)
  have free : H e = none := I.hok.gone hm.new
  obtain ⟨t, there, _, _⟩ := hm.there
  exact ⟨.ref e, _, I.laidN hm.keeps hm.new free (exO_ok there ⟨rfl, rfl⟩ rfl rfl rfl (show 4 < 6 by decide)), rfl, h e free⟩
end
theorem notCls_of {o : Obj} {vs : Array Value} (h : o.data = .fields vs) : PySem.W.notCls o = true := by
  unfold PySem.W.notCls
  rw [h]
/-- isinstance of an exception object that is a value -/
def rIsO (K : PySem.W.Frag) : List V → Hp → VK → Prop := fun xs H Q => ∃ (a D : Addr) (c : V) (cv : Value) (b : Bool), xs = [.ref a, c] ∧ ClsV c cv ∧ H a = some (ExO (.ref D) a) ∧ XCls K D ∧ PySem.W.kitOne K (.ref D) cv = some b ∧ Q (.bl b) H
def rIsOT (K : PySem.W.Frag) : List V → Hp → VK → Prop := fun xs H Q => ∃ (a D tp : Addr) (cs : List V) (us : List Value) (b : Bool), xs = [.ref a, .ref tp] ∧ H tp = some (.tup cs) ∧ Paired ClsV cs us ∧ H a = some (ExO (.ref D) a) ∧ XCls K D ∧ PySem.W.kitAny K (.ref D) us = some b ∧ Q (.bl b) H
section
variable {X : Cx}
theorem inst_O {pins : List (Addr × Obj)} {σ : L2.St} {H : Hp} {s : Shared} {a D : Addr} (I : Inv X pins σ H s) (h : H a = some (ExO (.ref D) a)) : ∃ oe, PySem.W.InstAt s.heap a oe D none := by
  obtain ⟨⟨oe, vs, hget, hz, hd, _⟩, _⟩ := (show ObjOk X.prog X.w H s.heap a (ExO (.ref D) a) from I.hok a _ h)
  exact ⟨oe, hget, hz.1, notCls_of hd, by rw [hz.2]; trivial⟩
theorem call_isO {K : PySem.W.Frag} (hK : X.K = K) : CallR X (.builtin "isinstance") (rIsO K) := by
  subst hK
  intro pins s σ H xs us Q I r h
  obtain ⟨a, D, c, cv, b, rfl, k, ha, T, e, q⟩ := h
  obtain ⟨u1, u2, rfl, r1, r2⟩ := vals2 r
  cases (show u1 = Value.ref a from r1)
  have e2 := k.eq r2
  subst e2
  obtain ⟨oe, J⟩ := inst_O I ha
  exact PySem.W.kia_one T.kit I.kIn J e (fun z => nomatch z) fun tk => ⟨.bl b, H, I.tok tk, rfl, q⟩
theorem call_isOT {K : PySem.W.Frag} (hK : X.K = K) : CallR X (.builtin "isinstance") (rIsOT K) := by
  subst hK
  intro pins s σ H xs us Q I r h
  obtain ⟨a, D, tp, cs, ws, b, rfl, hT, k, ha, T, e, q⟩ := h
  obtain ⟨u1, u2, rfl, r1, r2⟩ := vals2 r
  cases (show u1 = Value.ref a from r1)
  cases (show u2 = Value.ref tp from r2)
  obtain ⟨_, its, rv, o, h1, h2, n, h3⟩ := (show ObjOk X.prog X.w H s.heap tp (.tup cs) from I.hok tp _ hT)
  have e3 := ClsV.all k rv
  subst e3
  obtain ⟨oc, od', dt, sl⟩ := o
  simp only at h2 h3
  subst h2 h3
  obtain ⟨oe, J⟩ := inst_O I ha
  exact PySem.W.kia_tup T.kit I.kIn J h1 e (fun z => nomatch z) fun tk => ⟨.bl b, H, I.tok tk, rfl, q⟩
end
/-! ### isinstance of a pinned error, in any context that bears it -/
def rIsP (K : PySem.W.Frag) (a : Addr) (D : Addr) : List V → Hp → VK → Prop := fun xs H Q => ∃ (c : V) (cv : Value) (b : Bool), xs = [.ref a, c] ∧ ClsV c cv ∧ XCls K D ∧ PySem.W.kitOne K (.ref D) cv = some b ∧ Q (.bl b) H
def rIsPT (K : PySem.W.Frag) (a : Addr) (D : Addr) : List V → Hp → VK → Prop := fun xs H Q => ∃ (tp : Addr) (cs : List V) (us : List Value) (b : Bool), xs = [.ref a, .ref tp] ∧ H tp = some (.tup cs) ∧ Paired ClsV cs us ∧ XCls K D ∧ PySem.W.kitAny K (.ref D) us = some b ∧ Q (.bl b) H
section
variable {X : Cx} {p : Addr × Obj} {D : Addr}
theorem inst_P {pins : List (Addr × Obj)} {σ : L2.St} {H : Hp} {s : Shared} (I : Inv X pins σ H s) (hm : p ∈ X.pn) (hz : Zc (.ref D) none p.2) (hf : ∃ vs, p.2.data = .fields vs) : PySem.W.InstAt s.heap p.1 p.2 D none := by
  obtain ⟨hget, _⟩ := I.pin p (List.mem_append_left _ hm)
  obtain ⟨vs, hv⟩ := hf
  exact ⟨hget, hz.1, notCls_of hv, by rw [hz.2]; trivial⟩
theorem call_isP {K : PySem.W.Frag} (hK : X.K = K) (hm : p ∈ X.pn) (hz : Zc (.ref D) none p.2) (hf : ∃ vs, p.2.data = .fields vs) : CallR X (.builtin "isinstance") (rIsP K p.1 D) := by
  subst hK
  intro pins s σ H xs us Q I r h
  obtain ⟨c, cv, b, rfl, k, T, e, q⟩ := h
  obtain ⟨u1, u2, rfl, r1, r2⟩ := vals2 r
  cases (show u1 = Value.ref p.1 from r1)
  have e2 := k.eq r2
  subst e2
  exact PySem.W.kia_one T.kit I.kIn (inst_P I hm hz hf) e (fun z => nomatch z) fun tk => ⟨.bl b, H, I.tok tk, rfl, q⟩
theorem call_isPT {K : PySem.W.Frag} (hK : X.K = K) (hm : p ∈ X.pn) (hz : Zc (.ref D) none p.2) (hf : ∃ vs, p.2.data = .fields vs) : CallR X (.builtin "isinstance") (rIsPT K p.1 D) := by
  subst hK
  intro pins s σ H xs us Q I r h
  obtain ⟨tp, cs, ws, b, rfl, hT, k, T, e, q⟩ := h
  obtain ⟨u1, u2, rfl, r1, r2⟩ := vals2 r
  cases (show u1 = Value.ref p.1 from r1)
  cases (show u2 = Value.ref tp from r2)
  obtain ⟨_, its, rv, o, h1, h2, n, h3⟩ := (show ObjOk X.prog X.w H s.heap tp (.tup cs) from I.hok tp _ hT)
  have e3 := ClsV.all k rv
  subst e3
  obtain ⟨oc, od', dt, sl⟩ := o
  simp only at h2 h3
  subst h2 h3
  exact PySem.W.kia_tup T.kit I.kIn (inst_P I hm hz hf) h1 e (fun z => nomatch z) fun tk => ⟨.bl b, H, I.tok tk, rfl, q⟩
end
/-! ### a def whose one argument is the error that is handled -/
structure FnE (P : Program) (w : World) (K : PySem.W.Frag) (mg : Str → Option Value) (base : Heap) (k : Nat) (f : Addr) (fd : FuncData) (x : Str) (D : Addr) (v : V) : Prop where
  run : ∀ (A : Around) (outer : List Env) (s : Shared) (H : Hp) (Q : VK) (p : Addr × Obj), L2H.RoomH k A → L2H.Hot1 A p → Zc (.ref D) none p.2 → L2H.PinOk outer H s p → Env0 P w K mg base A outer s H → BindsTo s fd ⟨[.ref p.1], []⟩ [(x, .ref p.1)] → (∀ H', Same H H' → Q v H') →
    codeAny (model P w) A (.call (.ref f) ⟨[.ref p.1], []⟩) (CR CX0 outer P w H s Q (fun _ _ _ => False)) s
def CalE (P : Program) (w : World) (K : PySem.W.Frag) (mg : Str → Option Value) (base : Heap) (k : Nat) (n x : Str) (D : Addr) (v : V) : Prop :=
  ∃ (f : Addr) (fd : FuncData), FnE P w K mg base k f fd x D v ∧ mg n = some (.ref f) ∧ PySem.W.keepIn K (.ref f) = true ∧ Binds K fd [x] []
section
variable {P : Program} {w : World} {K : PySem.W.Frag} {mg : Str → Option Value} {base : Heap} {x n qual : Str} {st : Stmt} {f D : Addr} {fd : FuncData} {N : List Str} {k : Nat} {v : V}
/-- such a def, by its body -/
theorem okE (F : Fun K n qual st f fd) (S : FnScope N [x] (defScope st))
    (body : ∀ (cdv : Value) (A : Around) (outer : List Env) (s : Shared) (H : Hp) (Q : VK) (p : Addr × Obj), L2H.RoomH k (A.deeper (envOfC qual (defScope st) s.heap.objs.size f cdv)) → Zc (.ref D) none p.2 → (∃ vs, p.2.data = .fields vs) → (∀ H', Same H H' → Q v H') →
      ∃ t, PSs (L2H.cxH CX0 P w K mg base N qual (defScope st) f cdv A outer s H (fun _ _ _ => False) p).nox (defBody st) t ∧ t { nx := fun _ H' => Q .non H', rt := Q } (start N [.ref p.1]) H) : FnE P w K mg base (k + 1) f fd x D v := by
  obtain ⟨oc, od, kV, doc, pm, an, cdv, ct, osl, rfl, lk, hcd⟩ := F.ex
  refine ⟨fun A outer s H Q p hr hot hz pin e0 hb q => ?_⟩
  have there : ∀ b o, base.get? b = some o → s.heap.get? b = some o := fun b o e => (e0.bs b o e).1
  have kin : K.In s.heap := e0.mod.kin.keeps there
  have lims := e0.mod.nolimit.keeps there
  have kinds : ∀ y ∈ [(x, Value.ref p.1)], (defScope st).names.lookup y.1 = some .local ∨
      ((defScope st).names.lookup y.1 = some .cell ∧ ((cellsFrom (s.heap.objs.size + 1) (defScope st).names []).lookup y.1).isSome = true) := fun y hy => by
    rw [List.mem_singleton.mp hy]
    exact (S.par x List.mem_cons_self).imp id fun q => ⟨q, PySem.W.cellsFrom_some _ _ _ (.inl q)⟩
  refine codeAny_call_function hr.depth (kin _ _ lk) rfl S.co S.gen rfl
    (PySem.W.codeRec_of kin hcd) (hb _ _ _ _ ?_)
  refine wpAny_newFunctionEnv_cells S.kind kinds fun env he s1 y => ?_
  subst he
  refine ⟨lims.keeps y.toInCall.keep, codeAny_func ?_⟩
  obtain ⟨t, ht, ht2⟩ := body cdv A outer s H Q p (hr.deeper _) hz (hot.2.elim fun a h => ⟨a, h.1⟩) q
  have I := L2H.inv_startH (CX := CX0) (us := [.ref p.1]) (vs := [V.ref p.1]) (E := fun _ _ _ => False) (cd := cdv) S pin e0 rfl (.cons rfl .nil) y
  refine wpAny_mono (ht.nox.run [] s1 (L2.start N [V.ref p.1]) H _ I ht2)
    (fun fl s' hs => ?_) (fun e s' hs => hs)
  match fl, hs with
  | .ret u, ⟨v, σ', H', J, rv, q⟩ => exact ⟨v, H', J.os, J.bare, J.base, J.hok, rv, q⟩
  | .next, ⟨σ', H', J, q⟩ => exact ⟨V.non, H', J.os, J.bare, J.base, J.hok, rfl, q⟩
  | .brk, ⟨_, _, _, q⟩ => exact q.elim
  | .cont, ⟨_, _, _, q⟩ => exact q.elim
end
/-- f(e), e the error that the suite holds -/
def tCallE (D : Addr) (v : V) (a : Addr) (cls : Value) (d : Option Addr) (te : TE) : TE := fun σ H Q => te σ H fun y H1 => y = .ref a ∧ cls = .ref D ∧ d = none ∧ ∀ H', Same H1 H' → Q v H'
theorem pe_callE {X : Cx} {k : Nat} {a D : Addr} {oe : Obj} {cls : Value} {d : Option Addr} {pn : List (Addr × Obj)} {n x : Str} {v : V} {q pos : Pos} {e : Expr} {te : TE} (C : CalE X.prog X.w X.K X.mg X.base k n x D v) (hr : L2H.RoomH k (X.suite a ((a, oe) :: pn)).A) (hz : L2N.Zn cls d oe) (hf : ∃ vs, oe.data = .fields vs)
    (hg : Gl X n) (ha : PE (X.suite a ((a, oe) :: pn)) e te) (hdb : (n == ("__debug__" : Str)) = false := by decide) (he : starEach [e] X.env = [(false, eval e X.env)] := by rfl) (hpl : (backTo pos (starEach ([] : List Expr) X.env)).any (·.1) = false := by rfl) :
    PE (X.suite a ((a, oe) :: pn)) (.Call (.Name n q) [e] [] pos) (tCallE D v a cls d te) := by
  obtain ⟨f, fd, G, hm, hk, hb⟩ := C
  refine ⟨fun pins s σ H Q I h => ?_⟩
  refine wpAny_Call_Name_kw (ld_glob I hg hm ?_ hdb)
  refine PySem.W.callWith_K (h₀ := X.base) I.ok.mod.kin hk ?_ he hpl
  refine thn ((pa_cons (hs := he) ha pa_nil).run pos pins s σ H (fun ys H1 => match ys with | [y] => y = V.ref a ∧ cls = .ref D ∧ d = none ∧ ∀ H', Same H1 H' → Q v H' | _ => False) I h) fun us s1 hh => ?_
  obtain ⟨ys, H1, I1, r, q⟩ := hh
  refine ⟨I1.kIn, ?_⟩
  match ys, us, r, q with
  | [y], [u], r, q1 =>
    obtain ⟨rfl, rfl, rfl, q2⟩ := q1
    obtain rfl : u = Value.ref a := by
      cases r with
      | cons r0 _ => exact r0
    obtain ⟨z1, z2, z3, z4, z5⟩ := I1.pin (a, oe) (List.mem_append_left _ List.mem_cons_self)
    obtain ⟨vs, ev⟩ := id hf
    have pin : L2H.PinOk X.stack H1 s1 (a, oe) := ⟨z1, z2, fun hmem => (List.mem_cons.mp (I1.stkSub a hmem)).elim z3 z4, z5⟩
    have run := G.run (X.suite a ((a, oe) :: pn)).A X.stack s1 H1 Q (a, oe) hr ⟨rfl, vs, ev, hz.2.2 vs ev⟩ hz.zc pin I1.env0 (hb s1 [.ref a] I1.kIn rfl) q2
    refine wpAny_call (codeAny_mono run fun r s' hq => ?_)
    match r, hq with
    | .ok (.ret u), hq => exact I1.after hq
end EX
set_option maxHeartbeats 4000000
/-! Objects of one's own classes: len(o), iter(tuple) in __iter__, a walk over o, o == y with any answer. -/
namespace KO
open PySem PySem.Spec PyProof.Rows L2
/-! ### a promise that knows where the call begins -/
structure FnS (P : Program) (w : World) (K : PySem.W.Frag) (mg : Str → Option Value) (base : Heap) (CX : CXT) (k : Nat) (f : Addr) (fd : FuncData) (ps : List Str) (sp : Nat → Sp) : Prop where
  len : ∀ n vs H Q E, sp n vs H Q E → vs.length = ps.length
  run : ∀ (A : Around) (outer : List Env) (s : Shared) (H : Hp) (args : Args) (us : List Value) (vs : List V) (Q : VK) (E : XK), Room k A → Env0 P w K mg base A outer s H → BindsTo s fd args (ps.zip us) → Vals vs us → sp s.heap.objs.size vs H Q E →
    codeAny (model P w) A (.call (.ref f) args) (CR CX outer P w H s Q E) s
theorem fnS_of {P : Program} {w : World} {K : PySem.W.Frag} {mg : Str → Option Value} {base : Heap} {k : Nat} {f : Addr} {x qual : Str} {st : Stmt} {fd : FuncData} {N ps : List Str} {sp : Nat → Sp} (F : Fun K x qual st f fd) (S : FnScope N ps (defScope st)) (len : ∀ n vs H Q E, sp n vs H Q E → vs.length = ps.length)
    (hbody : ∀ (cdv : Value) (A : Around) (outer : List Env) (s : Shared) (H : Hp) (vs : List V) (Q : VK) (E : XK), Room k (A.deeper (envOfC qual (defScope st) s.heap.objs.size f cdv)) → sp s.heap.objs.size vs H Q E →
      ∃ t, PSs (cxOf CX0 P w K mg base N qual (defScope st) f cdv A outer s H E).nox (defBody st) t ∧ t { nx := fun _ H' => Q .non H', rt := Q } (start N vs) H) : FnS P w K mg base CX0 (k + 1) f fd ps sp := by
  obtain ⟨oc, od, kV, doc, pm, an, cdv, ct, osl, rfl, lk, hcd⟩ := F.ex
  refine ⟨len, fun A outer s H args us vs Q E hr e0 hb r hsp => ?_⟩
  have hl := len _ _ _ _ _ hsp
  have KX : K.In s.heap := e0.mod.kin.keeps fun b o e => (e0.bs b o e).1
  have lim : s.heap.NoLimit := e0.mod.nolimit.keeps fun b o e => (e0.bs b o e).1
  have hkind : ∀ y ∈ ps.zip us, (defScope st).names.lookup y.1 = some .local ∨ ((defScope st).names.lookup y.1 = some .cell ∧ ((cellsFrom (s.heap.objs.size + 1) (defScope st).names []).lookup y.1).isSome = true) := fun ⟨n, v⟩ hy => by
    rcases S.par n (List.of_mem_zip hy).1 with q | q
    · exact .inl q
    · exact .inr ⟨q, PySem.W.cellsFrom_some _ _ _ (.inl q)⟩
  refine codeAny_call_function hr.depth (KX _ _ lk) rfl S.co S.gen rfl (PySem.W.codeRec_of KX hcd) (hb _ _ _ _ ?_)
  refine wpAny_newFunctionEnv_cells S.kind hkind fun env he s1 x => ?_
  subst he
  refine ⟨lim.keeps x.toInCall.keep, codeAny_func ?_⟩
  obtain ⟨t, ht', hq⟩ := hbody cdv A outer s H vs Q E (hr.deeper _) hsp
  have ht : PSs (cxOf CX0 P w K mg base N qual (defScope st) f cdv A outer s H E) (defBody st) t := ht'.nox
  have I : Inv (cxOf CX0 P w K mg base N qual (defScope st) f cdv A outer s H E) [] (start N vs) H s1 := inv_start S hr.hd e0 hl r x
  refine wpAny_mono (ht.run [] s1 (start N vs) H _ I hq) (fun fl s' hs => ?_) fun e s' hs => hs
  have fin : ∀ {σ' : L2.St} {H' : Hp} {v : V} {u : Value}, Inv (cxOf CX0 P w K mg base N qual (defScope st) f cdv A outer s H E) [] σ' H' s' → RelV v u → Q v H' → CE outer P w H s Q u s' :=
    fun {σ' H' v u} J rv q => ⟨v, H', J.os, J.bare, J.base, J.hok, rv, q⟩
  cases fl with
  | ret u =>
    obtain ⟨v, σ', H', J, rv, q⟩ := hs
    exact fin J rv q
  | next =>
    obtain ⟨σ', H', J, q⟩ := hs
    exact fin (v := V.non) (u := Value.none) J rfl q
  | brk =>
    obtain ⟨_, _, _, q⟩ := hs
    exact False.elim q
  | cont =>
    obtain ⟨_, _, _, q⟩ := hs
    exact False.elim q
/-! ### an iterator over a tuple, as a value -/
/-- at it an iterator over the tuple at t, not yet begun -/
def ItT (t it : Addr) : HO := .ext fun h => h.IsTupleIter it t 0
section
variable {X : Cx} {pins : List (Addr × Obj)} {σ : L2.St} {H : Hp} {s : Shared}
theorem itT_ok {P : Program} {w : World} {H : Hp} {h : Heap} {t it : Addr} (e : h.IsTupleIter it t 0) : ObjOk P w H h it (ItT t it) := ⟨e, let ⟨o, ho, _⟩ := e; ⟨o, ho⟩, fun h1 h2 q k => q.at k⟩
/-- iter(t), t a tuple: the new object lies behind all that was there when the def began -/
def rIterT (K : PySem.W.Frag) (n : Nat) : List V → Hp → VK → Prop := fun xs H Q => ∃ (t : Addr) (zs : List V), xs = [.ref t] ∧ SqT K H t zs ∧ ∀ it, H it = none → n ≤ it → Q (.ref it) (upd H it (ItT t it))
theorem call_iterT : CallR X (.builtin "iter") (rIterT X.K X.s_0.heap.objs.size) := by
  intro pins s σ H xs us Q I r h
  obtain ⟨t, zs, rfl, hq, q⟩ := h
  obtain rfl := Vals.ref1 r
  obtain ⟨its, rv, p, hz⟩ := I.tuple hq
  refine Calls.call_function_entry (by decide +kernel) (by decide +kernel) PySem.W.kdk_entry_iter (PySem.W.kdk_args_iter _) ?_
  unfold Builtin.«iter»
  refine wpAny_bind (m := someArgs "iter" 1 2 _) (wpAny_of_eq (a := [Value.ref t]) (by first | rfl | kernel_rfl!) ?_)
  show wpAny _ _ (pyIter (.ref t) >>= _) _ _ _
  refine wpAny_bind (wpAny_pyIter_tuple (show s.heap.IsTuple t its.toArray from p) ?_)
  refine wpAny_pure ⟨_, rfl, ?_⟩
  exact ⟨.ref s.heap.objs.size, _, I.laid (t' := s.toks) (fun b u e => Heap.get?_push_of_some _ e) (Nat.le_refl _) (itT_ok ⟨_, Heap.get?_push_size _ rfl, rfl, rfl⟩), rfl, q _ (I.hok.fresh (Nat.le_refl _)) I.sz⟩
/-- an object that came in this def may be forgotten -/
theorem forget {a : Addr} {φ : Heap → Prop} (I : Inv X pins σ (upd H a (.ext φ)) s) (hn : H a = none) (h0 : X.s_0.heap.objs.size ≤ a) : Inv X pins σ H s := by
  have ne : ∀ {b}, (upd H a (.ext φ)) b = none → H b = none := fun {b} e => by
    by_cases z : b = a
    · rw [z]
      exact hn
    · rw [upd_ne z] at e
      exact e
  have old : ∀ {b o}, X.s_0.heap.get? b = some o → b ≠ a := fun {b o} e z => by
    have := Heap.lt_size e
    rw [z] at this
    exact absurd (Nat.lt_of_lt_of_le this h0) (Nat.lt_irrefl _)
  have some_ : ∀ {b o}, (upd H a (.ext φ)) b = some o → (∀ ψ, o ≠ .ext ψ) → H b = some o := fun {b o} e z => by
    by_cases y : b = a
    · rw [y, upd_same] at e
      cases e
      exact absurd rfl (z _)
    · rw [upd_ne y] at e
      exact e
  refine ⟨I.ok, I.os, I.bare, ⟨I.base.keep, I.base.slot, fun b o e n hx => ne (I.base.free b o e n hx), I.base.there, fun b xs e => ?_, fun b o u e => ?_, fun b ps e => ?_⟩, I.loc, I.cell, ne I.free, fun x c e => ne (I.freeC x c e), fun p hp => ?_, fun b u e => ?_, I.len⟩
  · exact some_ (I.base.tups b xs e) fun ψ z => by cases z
  · exact some_ (I.base.frzs b o u e) fun ψ z => by cases z
  · obtain ⟨m, q⟩ := I.base.tbls b ps e
    exact ⟨m, some_ q fun ψ z => by cases z⟩
  · obtain ⟨e, n, r⟩ := I.pin p hp
    exact ⟨e, ne n, r⟩
  · have hb : b ≠ a := fun z => by
      rw [z, hn] at e
      cases e
    refine (I.hok b u (by rw [upd_ne hb]; exact e)).stay (fun c v hc q => q) (fun c q => ?_) fun c xs q => ?_
    · exact some_ q fun ψ z => by cases z
    · exact some_ q fun ψ z => by cases z
/-! ### a walk over an object whose __iter__ gives an iterator over one of its tuples -/
structure ItC (K : PySem.W.Frag) (C f : Addr) : Prop where
  at_ : PySem.W.findIn K (.ref C) "__iter__" = some (some (.ref f))
  fn : PySem.W.isFn K (.ref f) = true
/-- what such an __iter__ promises -/
def spIter (K : PySem.W.Frag) (C : Addr) (fld : Str) : Nat → Sp := fun n vs H Q _ => ∃ a dx fs t xs, vs = [.ref a] ∧ H a = some (.ins C dx fs) ∧ fs.lookup fld = some (.ref t) ∧ SqT K H t xs ∧ ∀ it, H it = none → n ≤ it → Q (.ref it) (upd H it (ItT t it))
def iOwn (i : Nat) (K : PySem.W.Frag) (C : Addr) (fld : Str) : TI := fun σ H R => ∃ a dx fs t xs, σ[i]? = some (some (.ref a)) ∧ H a = some (.ins C dx fs) ∧ fs.lookup fld = some (.ref t) ∧ SqT K H t xs ∧ R (Itt K t) H
theorem pi_own {i k : Nat} {x fld : Str} {C f : Addr} {fd : FuncData} {tg : Expr} {pos : Pos} (F : FnS X.prog X.w X.K X.mg X.base CX0 k f fd ["self"] (spIter X.K C fld)) (L : ItC X.K C f) (hr : Room k X.A) (hb : Binds X.K fd ["self"] [])
    (hN : X.N[i]? = some x) (hv : Vis X.env.scope x) (hdb : (x == ("__debug__" : Str)) = false := by decide) (hcd : (x == ("__classdict__" : Str)) = false := by decide) : PI X tg (.Name x pos) (iOwn i X.K C fld) := by
  refine ⟨fun pins s σ H R I h => ?_⟩
  obtain ⟨a, dx, fs, t, xs, hs, ha, hf, ht, q⟩ := h
  refine thn ((pe_var (pos := pos) hN hv hdb hcd).run pins s σ H (fun v H1 => v = .ref a ∧ H1 = H) I ⟨.ref a, hs, rfl, rfl⟩) fun u s1 ⟨v, H1, I1, r1, q1⟩ => ?_
  obtain ⟨rfl, rfl⟩ := q1
  cases r1
  obtain ⟨mA, J, _⟩ := ins_get I1.hok ha
  obtain ⟨od, J, _⟩ := J.look
  obtain ⟨m, hF⟩ := I1.fr
  refine PySem.W.owit_iter hF I1.ok.mod.kin J L.at_ L.fn ?_
  have hsp : spIter X.K C fld s1.heap.objs.size [.ref a] H1 (fun v H' => ∃ it, v = .ref it ∧ H1 it = none ∧ s1.heap.objs.size ≤ it ∧ H' = upd H1 it (ItT t it)) (fun _ _ _ => False) := ⟨a, dx, fs, t, xs, rfl, ha, hf, ht, fun it h1 h2 => ⟨it, rfl, h1, h2, rfl⟩⟩
  have r2 : Vals [V.ref a] [Value.ref a] := .cons rfl .nil
  refine wpAny_call (codeAny_mono (F.run X.A X.stack s1 H1 ⟨[.ref a], []⟩ [.ref a] [.ref a] _ _ hr I1.env0 (by
    have := hb s1 [.ref a] I1.kIn rfl
    simpa using this) r2 hsp) fun r s' hq => ?_)
  cases r with
  | error e => exact pass0 pins σ H1 s1 e s' I1 hq
  | ok fl =>
    cases fl with
    | next => exact False.elim hq
    | brk => exact False.elim hq
    | cont => exact False.elim hq
    | ret u =>
      obtain ⟨v, H', I', rv, it, rfl, hn, hsz, rfl⟩ := I1.after hq
      cases rv
      have hit : s'.heap.IsTupleIter it t 0 := (I'.hok it _ upd_same).1
      unfold PySem.W.OwitIt
      refine wpAny_specialOf (name := Str.ofString "__next__") hit.typeIs PySem.F.slot_tuple_iterator_next.lookup ?_
      exact ⟨it, [it], _, _, H1, rfl, forget I' hn (Nat.le_trans I1.sz hsz), turn_tuple t it, hit, fun b hb => by
        have e : b = it := by simpa using hb
        subst e
        exact I1.fpOk hsz hn, q⟩
/-! ### len(o) -/
structure LnC (K : PySem.W.Frag) (C f : Addr) : Prop where
  at_ : PySem.W.findIn K (.ref C) "__len__" = some (some (.ref f))
  fn : PySem.W.isFn K (.ref f) = true
def rLen (C : Addr) (sp : Sp) : List V → Hp → VK → Prop := fun xs H Q => ∃ a dx fs, xs = [.ref a] ∧ H a = some (.ins C dx fs) ∧ sp [.ref a] H (fun v H' => ∃ n : Nat, v = .int n ∧ n < 2 ^ 62 ∧ Q (.int n) H') (fun _ _ _ => False)
theorem call_lenOwn {k : Nat} {C f : Addr} {fd : FuncData} {sp : Sp} (F : FnOk X.prog X.w X.K X.mg X.base CX0 k f fd ["self"] sp) (L : LnC X.K C f) (hr : Room (k + 1) X.A) (hb : Binds X.K fd ["self"] []) : CallR X (.builtin "len") (rLen C sp) := by
  intro pins s σ H xs us Q I r h
  obtain ⟨a, dx, fs, rfl, ha, hsp⟩ := h
  obtain rfl := Vals.ref1 r
  have sb : Sub X k X.A.in1 := Sub.in1 (⟨hr, rfl⟩ : Sub X (k + 1) X.A)
  obtain ⟨mA, J, _⟩ := ins_get I.hok ha
  obtain ⟨od, J, _⟩ := J.look
  refine Calls.call_function_entry kind_len plain_len entry_len (args_len1 _) ?_
  unfold Builtin.«len»
  refine wpAny_bind (m := oneArg "len" _) (wpAny_pure ?_)
  have e0 : Env0 X.prog X.w X.K X.mg X.base X.A.in1 X.stack s H := by
    have e := I.env0
    exact ⟨by rw [sb.fr]; exact e.frames, e.mod, e.bs, e.bsz, e.funs, e.frf, e.hok, e.bare⟩
  have r2 : Vals [V.ref a] [Value.ref a] := .cons rfl .nil
  refine wpAny_bind (m := callSpecial? (.ref a) (PySem.Str.ofString "__len__")) (PySem.W.special_fn I.kIn J L.at_ (beq_iff_eq.mp L.fn) ?_)
  refine wpAny_call (codeAny_mono (F.run X.A.in1 X.stack s H ⟨[.ref a], []⟩ [.ref a] [.ref a] _ _ sb.room e0 (by
    have := hb s [.ref a] I.kIn rfl
    simpa using this) r2 hsp) fun r s' hq => ?_)
  cases r with
  | error e => exact pass0 pins σ H s e s' I hq
  | ok fl =>
    cases fl with
    | next => exact False.elim hq
    | brk => exact False.elim hq
    | cont => exact False.elim hq
    | ret u =>
      obtain ⟨v, H', I', rv, n, rfl, hn, q⟩ := I.after hq
      obtain ⟨tk, rfl⟩ := rv
      refine wpAny_bind (wpAny_holding (wpAny_pure ?_))
      refine wpAny_bind (wpAny_letGo ?_)
      show wpAny _ _ (if ((n : Nat) : Int) < 0 then _ else _) _ _ _
      rw [if_neg (by omega)]
      show wpAny _ _ (if ((n : Nat) : Int) ≥ 2 ^ 63 then _ else _) _ _ _
      rw [if_neg (by omega)]
      exact wpAny_bind (wpAny_mkInt (wpAny_pure ⟨_, rfl, .int n, H', I'.tok _, ⟨_, rfl⟩, q⟩))
/-! ### o == y by the own __eq__, with any answer -/
/-- o of the class at C, y of a type that is no class below C -/
def rOEq (K : PySem.W.Frag) (C : Addr) (sp : Sp) : R2 := fun x y H Q => ∃ a dx fs tb, x = .ref a ∧ H a = some (.ins C dx fs) ∧ TyX K H y tb ∧ PySem.W.notFirst K C tb = true ∧ sp [x, y] H (fun v H' => (∃ b, v = .bl b) ∧ Q v H') (fun _ _ _ => False)
theorem op_oeq {k : Nat} {C f : Addr} {fd : FuncData} {sp : Sp} {ps : List Str}
    (F : FnOk X.prog X.w X.K X.mg X.base CX0 k f fd ps sp) (hs : PySem.W.findIn X.K (.ref C) "__eq__" = some (some (.ref f))) (hf : PySem.W.isFn X.K (.ref f) = true) (hr : Room k X.A) (hb : Binds X.K fd ps []) : OpR X (compareOp .Eq) (rOEq X.K C sp) := by
  intro pins s σ H x y v u Q I rx ry hq
  obtain ⟨a, dx, fs, tb, rfl, ha, hy, hnf, hsp⟩ := hq
  cases rx
  show wpAny (model X.prog X.w) X.A (richCompare .Eq (.ref a) u) (EP X pins σ Q) X.xe s
  obtain ⟨mA, J, _⟩ := ins_get I.hok ha
  obtain ⟨od, J, _⟩ := J.look
  obtain ⟨m, hF⟩ := I.fr
  refine PySem.W.cmp_K (op := .Eq) (tb := tb) hr.units0 hF I.ok.mod.kin J (let ⟨_, kx, p, _⟩ := kit_of I ry hy; kx.ty _ _ I.kIn p) hnf hs hf ?_
  have hl := F.len _ _ _ _ hsp
  have r2 : Vals [V.ref a, y] [Value.ref a, u] := .cons rfl (.cons ry .nil)
  refine wpAny_call (codeAny_mono (F.run X.A X.stack s H ⟨[.ref a, u], []⟩ [.ref a, u] [.ref a, y] _ _ hr I.env0 (by
    have := hb s [.ref a, u] I.kIn (by simpa using hl)
    simpa using this) r2 hsp) fun r s' hq => ?_)
  cases r with
  | error e => exact pass0 pins σ H s e s' I hq
  | ok fl =>
    cases fl with
    | next => exact False.elim hq
    | brk => exact False.elim hq
    | cont => exact False.elim hq
    | ret w =>
      obtain ⟨z, H', I', rz, ⟨b, rfl⟩, q⟩ := I.after hq
      cases rz
      exact ⟨.bl b, H', I', rfl, q⟩
/-! ### o.f(e), where the field f holds an object that may be called -/
theorem getmeth_fld {f : Str} {v : V} {a C dx : Addr} {fs : List (Str × V)} {A : Around} {E : Value → Shared → Prop} {pl : Sem Bool} {Q : Value × List Value → Shared → Prop} (I : Inv X pins σ H s) (e : H a = some (.ins C dx fs)) (c : Cls X.K C) (n : NoAttr X.K C f) (l : fs.lookup f = some v)
    (h : ∀ u s', Inv X pins σ H s' → RelV v u → Q (u, []) s') : wpAny (model X.prog X.w) A (getMethod (.ref a) f pl) Q E s := by
  obtain ⟨mA, O, _⟩ := ins_get I.hok e
  obtain ⟨od, J, _⟩ := O.look
  have hcan := PySem.F.canon_object_ga
  obtain ⟨h1, h2⟩ := PySem.W.plainGet_of (c.get f)
  unfold getMethod specialOf
  refine wpAny_bind (wpAny_bind (J.type.here ((PySem.W.looks_findIn I.kIn h1).here ?_)))
  dsimp only
  rw [hcan, if_neg (by decide)]
  refine wpAny_bind (wpAny_bind (J.type.here ((PySem.W.looks_findIn I.kIn h2).here ?_)))
  refine wpAny_bind (wpAny_bind (J.type.here ((PySem.W.looks_findIn I.kIn n).here ?_)))
  exact wpAny_bind (getattr_ok I e c n l fun u s' I' ru => wpAny_pure (h u s' I' ru))
def tFldCall (C : Addr) (f : Str) (D : Addr) (sp : Sp) (E : XK) (ta : TE) (t : TA) : TE := fun σ H Q => ta σ H fun x H1 => ∃ a dx fs b dy gs, x = .ref a ∧ H1 a = some (.ins C dx fs) ∧ fs.lookup f = some (.ref b) ∧ t σ H1 fun vs H2 => H2 b = some (.ins D dy gs) ∧ sp (.ref b :: vs) H2 Q E
theorem pe_fldCall {CX : CXT} {k : Nat} {fn C D : Addr} {fd : FuncData} {ps : List Str} {sp : Sp} {E : XK} {o : Expr} {m : Str} {apos pos : Pos} {e : Expr} {es : List Expr} {ta : TE} {t : TA} {pl : Sem Bool} (he : PE X o ta) (c : Cls X.K C) (n : NoAttr X.K C m)
    (F : FnOk X.prog X.w X.K X.mg X.base CX k fn fd ps sp) (L : WC.Cl X.K D fn) (hr : Room k X.A) (hb : Binds X.K fd ps []) (hx : Passes CX X E) (ha : PA X (e :: es) t)
    (hst : starEach (e :: es) X.env = (false, eval e X.env) :: starEach es X.env := by rfl) (hpl : (backTo pos (starEach es X.env)).any (·.1) = false := by rfl)
    (ht : eval (.Call (.Attribute o m apos) (e :: es) [] pos) X.env = (do
      let ov ← eval o X.env
      standAt apos.atName
      let (f, first) ← holding [ov] (getMethod ov m pl)
      callWith pos f first (backTo pos (starEach (e :: es) X.env)) (backToKw pos (keywordEach [] X.env))) := by rfl) :
    PE X (.Call (.Attribute o m apos) (e :: es) [] pos) (tFldCall C m D sp E ta t) := by
  refine ⟨fun pins s σ H Q I h => ?_⟩
  refine PySem.W.methodCall_KW (pl := pl) (thn (he.run pins s σ H _ I h) fun u s1 ⟨x, H1, I1, rx, a, dx, fs, b, dy, gs, ex, ea, l, q⟩ => ?_) ht
  subst ex
  obtain rfl : u = Value.ref a := rx
  refine getmeth_fld I1 ea c n l fun u2 s2 I2 ru2 => ?_
  obtain rfl : u2 = Value.ref b := ru2
  refine WC.callWith_inst (o := PySem.W.instObj D dy) rfl (thn (ha.run pos pins s2 σ _ _ I2 q) fun us s3 ⟨vs, H3, I3, r, q3⟩ => ?_) hst hpl
  obtain ⟨q1, q2⟩ := q3
  obtain ⟨mA, O, _⟩ := ins_get I3.hok q1
  obtain ⟨od, J, _⟩ := O.look
  refine ⟨O.obj, ?_⟩
  have r3 : Vals (.ref b :: vs) (.ref b :: us) := .cons rfl r
  have hl : ((.ref b :: us) ++ ([] : List Value)).length = ps.length := by rw [List.append_nil, ← r3.length]; exact F.len _ _ _ _ q2
  have run := F.run X.A X.stack s3 H3 ⟨.ref b :: us, []⟩ (.ref b :: us) (.ref b :: vs) Q E hr I3.env0 (by have := hb s3 (.ref b :: us) I3.kIn hl; rw [List.append_nil] at this; exact this) r3 q2
  refine wpAny_call (codeAny_mono (PySem.W.kco_code (a := ⟨us, []⟩) I3.kIn J rfl L.at_ L.fn L.fi run) fun r s' hq => ?_)
  cases r with
  | error e => exact hx pins σ H3 s3 e s' I3 hq
  | ok fl =>
    cases fl with
    | ret u => exact I3.after hq
    | next => exact False.elim hq
    | brk => exact False.elim hq
    | cont => exact False.elim hq
/-! ### o + y by the own __add__, both of one class -/
def rOAdd (C : Addr) (sp : Sp) (E : XK) : R2 := fun x y H Q => ∃ a dx fs b dy gs, x = .ref a ∧ H a = some (.ins C dx fs) ∧ y = .ref b ∧ H b = some (.ins C dy gs) ∧ sp [x, y] H (fun v H' => (∃ p, v = .ref p) ∧ Q v H') E
theorem op_oadd {CX : CXT} {k : Nat} {C f : Addr} {fd : FuncData} {sp : Sp} {ps : List Str} {E : XK} (F : FnOk X.prog X.w X.K X.mg X.base CX k f fd ps sp) (hc : PySem.W.selfFirst X.K C = true) (hs : PySem.W.findIn X.K (.ref C) "__add__" = some (some (.ref f))) (hf : PySem.W.isFn X.K (.ref f) = true)
    (hr : Room k X.A) (hb : Binds X.K fd ps []) (hx : Passes CX X E) : OpR X (binaryOp .Add) (rOAdd C sp E) := by
  intro pins s σ H x y v u Q I rx ry hq
  obtain ⟨a, dx, fs, b, dy, gs, rfl, ha, rfl, hb2, hsp⟩ := hq
  cases rx
  cases ry
  obtain ⟨mA, J, _⟩ := ins_get I.hok ha
  obtain ⟨od, J, _⟩ := J.look
  obtain ⟨mB, J', _⟩ := ins_get I.hok hb2
  obtain ⟨od', J', _⟩ := J'.look
  obtain ⟨m, hF⟩ := I.fr
  refine PySem.W.binop_K (op := .Add) hF I.ok.mod.kin J J'.type hc hs hf ?_
  have hl := F.len _ _ _ _ hsp
  have r2 : Vals [V.ref a, V.ref b] [Value.ref a, Value.ref b] := .cons rfl (.cons rfl .nil)
  refine wpAny_call (codeAny_mono (F.run X.A X.stack s H ⟨[.ref a, .ref b], []⟩ [.ref a, .ref b] [.ref a, .ref b] _ E hr I.env0 (by
    have := hb s [.ref a, .ref b] I.kIn (by simpa using hl)
    simpa using this) r2 hsp) fun r s' hq => ?_)
  cases r with
  | error e => exact hx pins σ H s e s' I hq
  | ok fl =>
    cases fl with
    | next => exact False.elim hq
    | brk => exact False.elim hq
    | cont => exact False.elim hq
    | ret w =>
      obtain ⟨z, H', I', rz, ⟨p, rfl⟩, q⟩ := I.after hq
      cases rz
      exact ⟨.ref p, H', I', rfl, q⟩
end
end KO
/-! An error that leaves a list comprehension: the element calls a def that may raise. -/
namespace LX
open PySem PySem.Spec PyProof.Rows L2 EX
section
variable {X : Cx} {pins : List (Addr × Obj)} {σ : L2.St} {H : Hp} {s s' : Shared} {E : XK}
/-- a call's exception flies over the ground -/
theorem fly_of_call (I : Inv X pins σ H s) {u : Value} (c : L2N.CX X.prog X.w X.stack H s E u s') :
    ∃ (a : Addr) (B : Heap) (sI : Shared) (H' : Hp) (cls : Value) (d : Option Addr), u = .ref a ∧ Inv X pins σ H' sI ∧ (∀ b o, sI.heap.get? b = some o → b ∉ frs X.stack → B.get? b = some o) ∧ sI.heap.UpToSlots s'.heap ∧
      HandSPX.FlyingZ B X.stack a (L2N.Zn cls d) s'.heap ∧ H' a = none ∧ s'.os = sI.os ∧ AllBare s'.gens ∧ E cls d H' ∧ (∀ b o, s.heap.get? b = some o → H b = none → b ∉ frs X.stack → B.get? b = some o ∧ H' b = none) := by
  obtain ⟨a, B, H', cls, d, rfl, fl, hok, ub, na, os, ag, hE⟩ := c
  obtain ⟨G, g1, g2⟩ := restrict s'.heap fun b => (B.get? b).isSome || decide (b ∈ frs X.stack)
  have st : B.StaysIn s'.heap := fl.1
  have gB : ∀ b o, B.get? b = some o → G.get? b = some o := fun b o e => by
    rw [g1 b (by simp [e])]
    exact st b o e
  have gF : ∀ b, b ∈ frs X.stack → G.get? b = s'.heap.get? b := fun b hb => g1 b (by simp [hb])
  have og : ∀ b o, G.get? b = some o → s'.heap.get? b = some o ∧ ((B.get? b).isSome = true ∨ b ∈ frs X.stack) := fun b o e => by
    cases q : ((B.get? b).isSome || decide (b ∈ frs X.stack)) with
    | false => rw [g2 b q] at e; cases e
    | true =>
      rw [g1 b q] at e
      exact ⟨e, by simpa [Bool.or_eq_true] using q⟩
  refine ⟨a, B, { s with heap := G, gens := s'.gens, drawn := s'.drawn, toks := s'.toks }, H', cls, d, rfl, ?_, fun b o e hb => ?_, Heap.UpToSlots.of_keeps fun b o e => (og b o e).1, fl, na, os, ag, hE, fun b o e n hb => ⟨ub.keep b o e n hb, ub.free b o e n⟩⟩
  · refine I.call (ch := []) ⟨fun b o e n hb _ => gB b o (ub.keep b o e n hb), fun b o e n hb _ => ?_, fun b o e n _ => ub.free b o e n, fun b o e _ => ?_, ub.tups, ub.frzs, ub.tbls⟩ (hok.kept gB) ag (fun _ z => nomatch z)
    · obtain ⟨sl, q⟩ := ub.slot b o e hb
      exact ⟨sl, by rw [gF b hb]; exact q⟩
    · by_cases hb : b ∈ frs X.stack
      · obtain ⟨sl, q⟩ := ub.slot b o e hb
        exact ⟨_, by rw [gF b hb]; exact q⟩
      · obtain ⟨o', q⟩ := ub.there b o e hb
        exact ⟨o', gB b o' q⟩
  · obtain ⟨e', h⟩ := og b o e
    rcases h with h | h
    · obtain ⟨o', q⟩ := Option.isSome_iff_exists.mp h
      have z := st b o' q
      rw [e'] at z; cases z
      exact q
    · exact absurd h hb
theorem frs_mem {l : List Env} {b : Addr} (h : b ∈ frs l) : b ∈ l.filterMap (·.frame) := h
/-- the block C is let go while the exception is held -/
theorem held_hide {B h h' : Heap} {l : List Env} {a L C : Addr} {Z : Obj → Prop} (x : HandSPX.HeldZ B l a Z L h) (hC : ∃ o, B.get? C = some o) (sb : Heap.SameBut C h h') : HandSPX.HeldZ (PySem.W.hideAll B [C]) l a Z L h' := by
  obtain ⟨st, na, ff, oe, vs, T, oT, ts, he, hz, hd, h1, hnT, hTe, hT, hdT, h3⟩ := x
  obtain ⟨oC, eC⟩ := hC
  have nb : ∀ {b : Addr}, B.get? b = none → b ≠ C := fun {b} e z => by rw [z, eC] at e; cases e
  have hn : ∀ {b : Addr}, B.get? b = none → (PySem.W.hideAll B [C]).get? b = none := fun {b} e => by
    cases q : (PySem.W.hideAll B [C]).get? b with
    | none => rfl
    | some o => rw [PySem.W.of_hideAll _ q] at e; cases e
  refine ⟨fun b o e => ?_, hn na, ?_, oe, vs, T, oT, ts, (sb.2 a (nb na)).trans he, hz, hd, h1, hn hnT, hTe, (sb.2 T (nb hnT)).trans hT, hdT, h3⟩
  · have hb : b ≠ C := fun z => by
      rw [z, PySem.W.hideAll_none _ (List.mem_singleton.mpr rfl)] at e
      cases e
    exact (sb.2 b hb).trans (st b o (PySem.W.of_hideAll _ e))
  · -- the frames
    have key : ∀ {l : List Env}, h.FunFrames B l → h'.FunFrames (PySem.W.hideAll B [C]) l := fun {l} => by
      induction l with
      | nil => exact fun _ => trivial
      | cons e l ih =>
        rintro ⟨hk, ⟨L, o, hf, hn0, ho, hdd⟩, hr⟩
        exact ⟨hk, ⟨L, o, hf, hn hn0, (sb.2 L (nb hn0)).trans ho, hdd⟩, ih hr⟩
    exact key ff
theorem note_same {env env' : Env} (h : env.frame = env'.frame) (x : Value) : noteFrame x env = noteFrame x env' := by
  unfold noteFrame PySem.frameOf
  rw [h]
end
/-- the context of a block whose calls may raise: what leaves a call leaves the block -/
abbrev blkX (X : Cx) (s : Shared) (H : Hp) (scope : Scope) (cenv : Env) (fp : List Addr) (E : XK) : Cx :=
  { X.blk s H scope cenv fp with xe := fun e s' => ∃ (pins : List (Addr × Obj)) (σ : L2.St) (H' : Hp) (s1 : Shared), Inv (X.blk s H scope cenv fp) pins σ H' s1 ∧ L2N.CX X.prog X.w X.stack H' s1 E e s' }
theorem inv_xe {X : Cx} {xe : Value → Shared → Prop} {pins : List (Addr × Obj)} {σ : L2.St} {H : Hp} {s : Shared} (I : Inv X pins σ H s) : Inv { X with xe := xe } pins σ H s :=
  ⟨⟨I.ok.mod, I.ok.kind, I.ok.glob, I.ok.blt, I.ok.above, I.ok.inj, I.ok.has, I.ok.cab, I.ok.hd, I.ok.frames, I.ok.stk, I.ok.exf, I.ok.bs, I.ok.bsz, I.ok.noex, I.ok.exfs, I.ok.funs, I.ok.frf⟩, I.os, I.bare, I.base, I.loc, I.cell, I.free, I.freeC, I.pin, I.hok, I.len⟩
theorem passX {X : Cx} {s : Shared} {H : Hp} {scope : Scope} {cenv : Env} {fp : List Addr} {E : XK} (σ : L2.St) : PassesAt (L2N.CX (blkX X s H scope cenv fp E).prog (blkX X s H scope cenv fp E).w) (blkX X s H scope cenv fp E) σ E :=
  fun pins H' s1 e s' I c => ⟨pins, σ, H', s1, ⟨⟨I.ok.mod, I.ok.kind, I.ok.glob, I.ok.blt, I.ok.above, I.ok.inj, I.ok.has, I.ok.cab, I.ok.hd, I.ok.frames, I.ok.stk, I.ok.exf, I.ok.bs, I.ok.bsz, I.ok.noex, I.ok.exfs, I.ok.funs, I.ok.frf⟩, I.os, I.bare, I.base, I.loc, I.cell, I.free, I.freeC, I.pin, I.hok, I.len⟩, c⟩
/-- f(..) in such a block -/
theorem pe_calB {X : Cx} {s : Shared} {H : Hp} {scope : Scope} {cenv : Env} {fp : List Addr} {E : XK} {k : Nat} {x : Str} {ps : List Str} {sp : Sp} {p pos : Pos} {e : Expr} {es : List Expr} {t : TA}
    (C : CalX X.prog X.w X.K X.mg X.base k x ps sp) (hr : Room k X.A) (hg : Gl (blkX X s H scope cenv fp E) x) (ha : PA (blkX X s H scope cenv fp E) (e :: es) t)
    (hdb : (x == ("__debug__" : Str)) = false := by decide) (he : starEach (e :: es) cenv = (false, eval e cenv) :: starEach es cenv := by rfl) (hpl : (backTo pos (starEach es cenv)).any (·.1) = false := by rfl) :
    PE (blkX X s H scope cenv fp E) (.Call (.Name x p) (e :: es) [] pos) (tCallS sp (fun _ => E) t) := by
  obtain ⟨f, fd, G, m, kp, b⟩ := C
  exact pe_callS G hr hg m kp b (fun σ => passX σ) ha hdb he hpl
section
variable {X : Cx}
theorem lc_coreX {pins : List (Addr × Obj)} {s : Shared} {σ : L2.St} {H : Hp} {Q : VK} {elt tg iter : Expr} {ifs : List Expr} {scope : Scope} {own : List (Str × Nat)} {pos pos' : Pos} {wi : TI} {g : TG} {tt : TT} {te : TE} {use : Option (Value → Sem Unit)} {Qf : Value → Shared → Prop} {E : XK}
    (hst : X.stack = X.env :: X.outer) (hfr0 : X.env.frame = some X.env.locals) (tk : L2N.Takes X (fun c d _ H => E c d H))
    (hc : X.calm = true) (hN : X.N.Nodup) (I : Inv X pins σ H s) (hi : PI X tg iter wi) (ok : BlkOk X.N X.env.scope scope own)
    (hg : ∀ (s : Shared) (H : Hp) (C : Addr) (cl : List (Str × Addr)) (fp : List Addr), PG (X.blk s H scope (compEnvC scope cl C X.env) fp) tg g) (ht : ∀ (s : Shared) (H : Hp) (C : Addr) (cl : List (Str × Addr)) (fp : List Addr), PTs (X.blk s H scope (compEnvC scope cl C X.env) fp) ifs tt)
    (he : ∀ (s : Shared) (H : Hp) (C : Addr) (cl : List (Str × Addr)) (fp : List Addr), PE (blkX X s H scope (compEnvC scope cl C X.env) fp E) elt te) (hs : ∀ x, foldedSetIterable iter X.env x = pure x)
    (h : tLc wi g tt te (own.map (·.2)) σ H Q)
    (hRR : ∀ D (ce : Env) s' m H', Inv X pins σ H' s' → Q (.ref D) H' → s'.heap.Ns ce.locals m → FpOk X pins H' ce.locals → compEnds (model X.prog X.w) X.A X.xe use Qf (.ref D) ce (.ok .next) s') :
    wpAny (model X.prog X.w) X.A (comprehension (.ListComp elt [⟨tg, iter, ifs, 0⟩] scope pos) scope X.env pos' (newList []) false (eval iter X.env) use) Qf X.xe s := by
  have hfree : ∀ y ∈ scope.names, y.2 = .free → ∃ c, X.env.cells.lookup y.1 = some c := fun y hy e => by
    rcases ok.free y hy e with k | k
    · exact I.ok.has _ (.inl k)
    · exact I.ok.has _ (.inr k)
  refine comprehension_at (use := use) rfl hs (closure_ok hfree) ok.kind (fun y hy e => by rw [ok.uniq y hy, e])
    (thn (hi.run pins s σ H _ I h) fun xv s1 hx => thn hx fun itv s2 h2 => ?_)
  obtain ⟨it, fp, tn, J, H2, e, I2, T, st2, f2, q⟩ := h2
  subst e
  refine wpAny_newObj_type (newEnv_comp ?_) (by show 0 ≤ sizeLine; decide)
  generalize hD : s2.heap.objs.size = D
  have hDn : H2 D = none := I2.hok.fresh (Nat.le_of_eq hD)
  obtain ⟨W, ⟨m0, w0⟩, turn⟩ := q D hDn
  -- the new list
  generalize hs3 : ({ s2 with heap := s2.heap.push { cls := .type "list", data := .seq ([] : List Value).toArray } } : Shared) = s3
  have I3 : Inv X pins σ (upd H2 D (.lst [])) s3 := by
    rw [← hs3]
    refine I2.laid (t' := s2.toks) (fun b o e => Heap.get?_push_of_some _ e) (Nat.le_of_eq hD) ⟨Nat.zero_le _, [], 0, .nil, ?_⟩
    rw [← hD]
    exact Heap.get?_push_size _ rfl
  have h3 : s3.heap = s2.heap.push { cls := .type "list", data := .seq ([] : List Value).toArray } := by rw [← hs3]
  have sz : ∀ b ∈ fp, b < s2.heap.objs.size := fun b hb => by
    obtain ⟨o, e, _⟩ := T.obj _ _ st2 b hb
    exact Heap.lt_size e
  have f3 : ∀ b ∈ fp, FpOk X pins (upd H2 D (.lst [])) b ∧ b < s3.heap.objs.size := fun b hb => by
    have hlt := sz b hb
    refine ⟨⟨?_, (f2 b hb).2⟩, by rw [h3, Heap.size_push]; exact Nat.lt_succ_of_lt hlt⟩
    rw [upd_ne (by rw [← hD]; exact Nat.ne_of_lt hlt)]
    exact (f2 b hb).1
  have st3 : tn 0 s3.heap := T.keep _ _ _ st2 fun b _ o e => by rw [h3]; exact Heap.get?_push_of_some _ e
  have I4 := block_start I3 ok hN f3
  have pg := hg s3 (upd H2 D (.lst [])) s3.heap.objs.size (cellsFrom (s3.heap.objs.size + 1) scope.names (cloFrom X.env.cells scope.names [])) fp
  have pt := ht s3 (upd H2 D (.lst [])) s3.heap.objs.size (cellsFrom (s3.heap.objs.size + 1) scope.names (cloFrom X.env.cells scope.names [])) fp
  have pe := he s3 (upd H2 D (.lst [])) s3.heap.objs.size (cellsFrom (s3.heap.objs.size + 1) scope.names (cloFrom X.env.cells scope.names [])) fp
  show codeAny _ _ (.compStart (.ListComp elt [⟨tg, iter, ifs, 0⟩] scope pos) 0 (.ref it) (.ref D) (compEnvC scope (cellsFrom (s3.heap.objs.size + 1) scope.names (cloFrom X.env.cells scope.names [])) s3.heap.objs.size X.env)) (compEnds (model X.prog X.w) X.A X.xe use Qf (.ref D) (compEnvC scope (cellsFrom (s3.heap.objs.size + 1) scope.names (cloFrom X.env.cells scope.names [])) s3.heap.objs.size X.env)) { s3 with heap := pushCells (s3.heap.push { cls := .type "dict", data := .dict #[] }) scope.names }
  have nfp : ∀ b ∈ fp, (upd H2 D (.lst [])) b = none := fun b hb => (f3 b hb).1.1
  generalize hce : compEnvC scope (cellsFrom (s3.heap.objs.size + 1) scope.names (cloFrom X.env.cells scope.names [])) s3.heap.objs.size X.env = ce at I4 pg pt pe ⊢
  have cL : ce.locals = s3.heap.objs.size := by subst hce; rfl
  have cF : ce.frame = X.env.frame := by subst hce; rfl
  generalize hH3 : upd H2 D (.lst []) = H3 at I3 I4 pg pt pe w0 nfp f3
  generalize hs4 : ({ s3 with heap := pushCells (s3.heap.push { cls := .type "dict", data := .dict #[] }) scope.names } : Shared) = s4 at I4 ⊢
  have st4 : tn 0 s4.heap := T.keep _ _ _ st3 fun b _ o e => by rw [← hs4]; exact pushCells_keeps _ _ _ _ (Heap.get?_push_of_some _ e)
  have stat : ∀ {σ' : L2.St} {H' : Hp} {s' : Shared}, Inv (X.blk s3 H3 scope ce fp) [] σ' H' s' → (∀ b ∈ fp, H' b = none) → ∀ b ∈ fp, FpOk (X.blk s3 H3 scope ce fp) [] H' b := fun {σ' H' s'} I' hn b hb =>
    ⟨hn b hb, (I'.ok.exf b hb).1, I'.ok.exfs b hb, .inl hb, fun x c e => (I'.ok.exf b hb).2 x c e, fun p hp => absurd (show p ∈ ([] : List (Addr × Obj)) ++ [] from hp) (by simp)⟩
  -- back in the def's context
  have back : ∀ {pins' : List (Addr × Obj)} {σ' : L2.St} {H' : Hp} {s' : Shared}, Inv (X.blk s3 H3 scope ce fp) pins' σ' H' s' → Inv X pins σ H' s' ∧ FpOk X pins H' ce.locals ∧ ∃ m, s'.heap.Ns ce.locals m := fun {pins' σ' H' s'} I6 => by
    have nC : H' ce.locals = none := I6.free
    obtain ⟨m, hn, _⟩ := I6.loc
    refine ⟨I3.call' (ch := fp) I6.os I6.base I6.hok I6.bare fun b hb => ⟨(f3 b hb).1.2.2.2.1, (f3 b hb).1.2.1, (f3 b hb).1.2.2.2.2.1, (f3 b hb).1.2.2.2.2.2⟩, ?_, m, hn⟩
    rw [cL] at nC ⊢
    exact I3.fpOk (Nat.le_refl _) nC
  -- an error leaves the block
  have out : ∀ (x : Value) (s' : Shared), (∃ (pins : List (Addr × Obj)) (σ : L2.St) (H' : Hp) (s1 : Shared), Inv (X.blk s3 H3 scope ce fp) pins σ H' s1 ∧ L2N.CX X.prog X.w X.stack H' s1 E x s') →
      notedBy (model X.prog X.w) X.A ce (fun e s' => compEnds (model X.prog X.w) X.A X.xe use Qf (.ref D) ce (.error e) s') x s' := fun x s' ⟨pins', σ', H5, s1, I5, cx⟩ => by
    obtain ⟨J5, fC, m1, hn1⟩ := back I5
    obtain ⟨a, B, sI, H', cls, d, rfl, JI, nb, up, fl, na, os, ag, hE, keep⟩ := fly_of_call J5 cx
    have nCs : ce.locals ∉ frs X.stack := fun hm => by
      rcases List.mem_cons.mp (J5.stkSub _ hm) with z | z
      · exact fC.2.1 z
      · exact fC.2.2.1 z
    obtain ⟨oC, es, ep, hoC, hdC, skC, fnC⟩ := id hn1
    obtain ⟨bC, hC'⟩ := keep _ _ hoC fC.1 nCs
    have hA : X.A.frames = some (X.env :: X.outer) := by rw [I.ok.frames, hst]
    have fl' : HandSPX.FlyingZ B (X.env :: X.outer) a (L2N.Zn cls d) s'.heap := by rw [← hst]; exact fl
    show wpAny _ _ (noteFrame (.ref a) ce) _ _ _
    rw [note_same cF]
    refine PXN.looks_onZ L2N.Zn.steady hA hfr0 fl' fun h1 hd1 up1 => ?_
    have hCs : ∃ oC, B.get? ce.locals = some oC := ⟨_, bC⟩
    show CompFails _ _ _ _ _ _
    refine ⟨m1, ⟨oC, es, ep, hd1.1 _ _ bC, hdC, skC, fnC⟩, fun h2 m2 _ sb => ?_⟩
    have hd2 := held_hide hd1 hCs sb
    -- passOn
    unfold PySem.passOn
    have tr := hd2.2.2.2
    obtain ⟨oe, vs, T', oT, ts, ke, kz, kd, k1, knT, kTe, kT, kdT, k3⟩ := tr
    refine wpAny_bind (wpAny_field (s := { s' with heap := h2 }) ke kd k1 ?_)
    rw [if_neg (show ¬ ((Value.ref T' == Value.none) = true) from Bool.false_ne_true)]
    rw [cF, hfr0]
    refine wpAny_bind ?_
    refine HandSPX.setFlight_onZ (s := { s' with heap := h2 }) hd2 fun h3 hd3 up3 => ?_
    refine wpAny_throw ?_
    -- in the def's air
    have J6 : Inv X pins σ H' { sI with heap := PySem.W.hideAll sI.heap [ce.locals] } := JI.turned (t' := sI.toks) (it := ce.locals) (fun b o hb e => PySem.W.hideAll_get _ e (by simpa using hb)) hC' fC.2.1 fC.2.2.2.1 fC.2.2.2.2.1 fC.2.2.2.2.2
    have hid : ∀ {b : Addr} {o : Obj}, (PySem.W.hideAll sI.heap [ce.locals]).get? b = some o → b ≠ ce.locals ∧ sI.heap.get? b = some o := by
      intro b o e
      refine ⟨fun z => ?_, PySem.W.of_hideAll _ e⟩
      rw [z, PySem.W.hideAll_none _ (List.mem_singleton.mpr rfl)] at e
      cases e
    refine tk _ _ ⟨a, PySem.W.hideAll B [ce.locals], { sI with heap := PySem.W.hideAll sI.heap [ce.locals] }, pins, σ, H', cls, d, rfl, J6, fun b o e hb => ?_, fun b o e hnf => ?_, .inr (.inr ?_), na, os, ag, hE⟩
    · obtain ⟨ne, e'⟩ := hid e
      exact PySem.W.hideAll_get _ (nb b o e' hb) (by simpa using ne)
    · obtain ⟨ne, e'⟩ := hid e
      obtain ⟨sl, q1⟩ := up b o e' hnf
      obtain ⟨sl2, q2⟩ := up1 b _ q1 hnf
      obtain ⟨sl3, q3⟩ := up3 b _ ((sb.2 b ne).trans q2) hnf
      exact ⟨sl3, q3⟩
    · rw [hst]
      exact hd3
  have loop : codeAny (model X.prog X.w) X.A (.compLoop (.ListComp elt [⟨tg, iter, ifs, 0⟩] scope pos) 0 (.ref it) (.ref D) ce) (compEnds (model X.prog X.w) X.A X.xe use Qf (.ref D) ce) s4 := by
    refine compLoop_any (fun n s' => ∃ i H', Inv (X.blk s3 H3 scope ce fp) [] (wipe σ (own.map (·.2))) H' s' ∧ tn i s'.heap ∧ (∀ b ∈ fp, H' b = none) ∧ W i n H') ?_ m0 ⟨0, H3, I4, st4, nfp, w0⟩
    rintro n s5 ⟨i, H5, I5, st5, n5, w5⟩
    rcases turn i n H5 w5 with ⟨stop, qq⟩ | ⟨go, Nx, hNx, step⟩
    · have td := T.done (X.blk s3 H3 scope ce fp) rfl rfl rfl hc i [] s5 _ H5 (fun _ _ => False) I5 (stat I5 n5) st5 stop
      refine thnF td fun r s6 ⟨hr, I6⟩ => ?_
      subst hr
      obtain ⟨I7, fC, m, hn⟩ := back I6
      exact hRR D ce s6 m H5 I7 qq hn fC
    · have ti := T.item (X.blk s3 H3 scope ce fp) rfl rfl rfl hc i [] s5 _ H5 (fun _ _ => False) I5 (stat I5 n5) st5 go
      refine thnF ti fun r s6 ⟨u, hr, h6⟩ => ?_
      subst hr
      refine thnF h6 fun _ s7 ⟨x, H7, I7, r7, y7, st7, n7⟩ => ?_
      have I7' := I7.pinned (stat I7 n7) (T.obj _ _ st7)
      refine thnF (pg.run _ s7 _ H7 x u _ I7' r7 (step x H7 y7)) fun _ s8 ⟨σ8, H8, I8, hw8, q8⟩ => ?_
      refine thnF (pt.run _ s8 σ8 H8 _ I8 q8) fun b s9 ⟨H9, I9, q9⟩ => ?_
      -- the turn's end
      have fin : ∀ {s' : Shared} {H' : Hp}, Inv (X.blk s3 H3 scope ce fp) ([] ++ pinsAt fp s7.heap) σ8 H' s' → Nx H' → ∃ m, m < n ∧ ∃ i H', Inv (X.blk s3 H3 scope ce fp) [] (wipe σ (own.map (·.2))) H' s' ∧ tn i s'.heap ∧ (∀ b ∈ fp, H' b = none) ∧ W i m H' := fun {s' H'} I' nx => by
        obtain ⟨m', hm, w'⟩ := hNx H' nx
        have pin' : ∀ b ∈ fp, ∀ o, s7.heap.get? b = some o → s'.heap.get? b = some o ∧ H' b = none := fun b hb o e =>
          let z := I'.pin (b, o) (List.mem_append_right _ (List.mem_append_right _ (mem_pinsAt hb e)))
          ⟨z.1, z.2.1⟩
        have hl : (wipe σ (own.map (·.2))).length = σ8.length := by rw [← hw8, wipe_length]
        refine ⟨m', hm, i + 1, H', (I'.unpinned (pins := [])).weak hl (fun j v e => ?_), T.keep _ _ _ st7 fun b hb o e => (pin' b hb o e).1, fun b hb => ?_, w'⟩
        · rw [← hw8] at e
          exact (wipe_some e).1
        · obtain ⟨o, e, _⟩ := T.obj _ _ st7 b hb
          exact (pin' b hb o e).2
      cases b with
      | false =>
        simp only [Bool.false_eq_true, if_false] at q9 ⊢
        exact fin I9 q9
      | true =>
        simp only [if_true] at q9 ⊢
        refine wpAny_mono (pe.run _ s9 σ8 H9 _ (inv_xe I9) q9) (fun z s10 ⟨yv, H10, I10', r10, acc, hD10, hz10, nx⟩ => ?_) fun x s10 hx => out x s10 hx
        have I10 : Inv (X.blk s3 H3 scope ce fp) ([] ++ pinsAt fp s7.heap) σ8 H10 s10 := inv_xe (X := blkX X s3 H3 scope ce fp E) (xe := fun _ _ => False) I10'
        exact app_ok (X := X.blk s3 H3 scope ce fp) I10 hD10 hz10 r10 fun s11 I11 => fin I11 nx
  exact codeAny_compStart_list loop (T.self X.A 0 _ _ _ st4 loop)
/-- name = [..] on one line, the name a local, the element a call that may raise -/
theorem ps_setLcX {i : Nat} {y : Str} {py : Pos} {elt tg iter : Expr} {ifs : List Expr} {scope : Scope} {own : List (Str × Nat)} {pos spos : Pos} {wi : TI} {g : TG} {tt : TT} {te : TE} {E : XK}
    (hst : X.stack = X.env :: X.outer) (hfr0 : X.env.frame = some X.env.locals) (tk : L2N.Takes X (fun c d _ H => E c d H))
    (hc : X.calm = true) (hN : X.N.Nodup) (hy : X.N[i]? = some y) (hyl : X.env.scope.names.lookup y = some .local)
    (hsw : swapsWith (.ListComp elt [⟨tg, iter, ifs, 0⟩] scope pos) (some (.Name y py)) spos.line X.env = pure true) (hi : PI X tg iter wi) (ok : BlkOk X.N X.env.scope scope own)
    (hg : ∀ (s : Shared) (H : Hp) (C : Addr) (cl : List (Str × Addr)) (fp : List Addr), PG (X.blk s H scope (compEnvC scope cl C X.env) fp) tg g) (ht : ∀ (s : Shared) (H : Hp) (C : Addr) (cl : List (Str × Addr)) (fp : List Addr), PTs (X.blk s H scope (compEnvC scope cl C X.env) fp) ifs tt)
    (he : ∀ (s : Shared) (H : Hp) (C : Addr) (cl : List (Str × Addr)) (fp : List Addr), PE (blkX X s H scope (compEnvC scope cl C X.env) fp E) elt te) (hs : ∀ x, foldedSetIterable iter X.env x = pure x := by intro _; rfl) :
    PS X (.Assign [.Name y py] (.ListComp elt [⟨tg, iter, ifs, 0⟩] scope pos) spos) (tAsg (tLc wi g tt te (own.map (·.2))) (gName i)) := by
  refine ⟨fun pins s σ H D I h => ?_⟩
  rw [exec_Assign_Name_used _ _ _ _ hsw]
  refine wpAny_bind (wpAny_standAt (wpAny_bind ?_))
  show wpAny _ X.A (do let _ ← comprehension (.ListComp elt [⟨tg, iter, ifs, 0⟩] scope pos) scope X.env (firstIterPos [⟨tg, iter, ifs, 0⟩] pos) (newList []) false (eval iter X.env) (some (assign (.Name y py) X.env))) _ _ s
  have h : tLc wi g tt te (own.map (·.2)) σ H (fun x H1 => gName i x σ H1 D.nx) := h
  refine wpAny_bind (thn (lc_coreX (Qf := fun _ s' => SP X pins D .next s') hst hfr0 tk hc hN I hi ok hg ht he hs h fun L ce s' m H' I' q hn f => ?_) fun _ s' hq => wpAny_pure (wpAny_pure hq))
  show wpAny _ _ (assign (.Name y py) X.env (.ref L)) _ _ _
  refine wpAny_assign_Name (store_ok2 (v := V.ref L) I' hN hy (.inl hyl) rfl (fun s2 I2 ⟨a, sb, ha⟩ => ?_) (.inr hyl))
  obtain ⟨f0, f1, f2, f3, f4, f5⟩ := f
  have haC : ce.locals ≠ a := by
    rcases ha with z | z
    · rw [z]; exact f1
    · exact fun e => f4 y a z e.symm
  refine ⟨m, hn.sameBut sb haC, fun h3 sb3 => ?_⟩
  exact ⟨_, H', I2.turned (t' := s2.toks) (fun b o hb e => (sb3.2 b hb).trans e) f0 f1 f3 f4 f5, q⟩
end
end LX
/-! What the walks share. -/
namespace P15
open PySem PySem.Spec PyProof.Rows L2 SX EX WK
def top (i : Nat) : Stmt := PySem.Challenge.pw_wholecables_k15_least_cut.main.body.getD i (.Pass ⟨0, 0, 0, 0⟩)
def clsBody : Stmt → List Stmt
  | .ClassDef _ _ _ b _ _ _ _ _ _ _ => b
  | _ => []
def mth (i j : Nat) : Stmt := (clsBody (top i)).getD j (.Pass ⟨0, 0, 0, 0⟩)
/-- a def as its callers see it -/
def Cal (P : Program) (w : World) (K : PySem.W.Frag) (mg : Str → Option Value) (base : Heap) (k : Nat) (x : Str) (ps : List Str) (sp : Sp) : Prop :=
  ∃ (f : Addr) (fd : FuncData), FnOk P w K mg base CX0 k f fd ps sp ∧ mg x = some (.ref f) ∧ PySem.W.keepIn K (.ref f) = true ∧ Binds K fd ps []
theorem pe_cal {X : Cx} {k : Nat} {x : Str} {ps : List Str} {sp : Sp} {p pos : Pos} {e : Expr} {es : List Expr} {t : TA} (C : Cal X.prog X.w X.K X.mg X.base k x ps sp) (hr : Room k X.A) (hg : Gl X x) (ha : PA X (e :: es) t)
    (hdb : (x == ("__debug__" : Str)) = false := by decide) (he : starEach (e :: es) X.env = (false, eval e X.env) :: starEach es X.env := by rfl) (hpl : (backTo pos (starEach es X.env)).any (·.1) = false := by rfl) :
    PE X (.Call (.Name x p) (e :: es) [] pos) (tCall sp [] E0 t) := by
  obtain ⟨f, fd, G, m, kp, b⟩ := C
  exact pe_call G hr hg m kp b .nil pass0 ha hdb he hpl
/-- a class as its makers see it: n values and keywords ks -/
def CalK (P : Program) (w : World) (K : PySem.W.Frag) (mg : Str → Option Value) (base : Heap) (k : Nat) (x : Str) (C : Addr) (n : Nat) (ks : List Str) (sp : Sp) : Prop :=
  ∃ (f : Addr) (fd : FuncData) (ps : List Str) (g : List Value → List Value → List Value), Mk K C f ∧ FnOk P w K mg base CX0 k f fd ps sp ∧ mg x = some (.ref C) ∧ KBn K fd ps (n + 1) ks g (fun vs zs => vs ++ zs)
theorem pe_calK {X : Cx} {k n : Nat} {C : Addr} {x : Str} {ks : List Str} {sp : Sp} {p pos : Pos} {e : Expr} {es : List Expr} {kws : List Keyword} {t tk : TA} (M : CalK X.prog X.w X.K X.mg X.base k x C n ks sp) (hr : Room (k + 1) X.A) (hg : Gl X x) (ha : PA X (e :: es) t) (hkw : PK X kws tk)
    (hall : (backToKw pos (keywordEach kws X.env)).all (·.1.isSome) = true := by rfl) (hks : (backToKw pos (keywordEach kws X.env)).filterMap (·.1) = ks := by rfl) (hdb : (x == ("__debug__" : Str)) = false := by decide)
    (he : starEach (e :: es) X.env = (false, eval e X.env) :: starEach es X.env := by rfl) (hpl : ((backTo pos (starEach (e :: es) X.env)).any (·.1) || (backToKw pos (keywordEach kws X.env)).any (·.1.isNone)) = false := by rfl) :
    PE X (.Call (.Name x p) (e :: es) kws pos) (tMakeK C n ks.length sp (fun vs zs => vs ++ zs) E0 t tk) := by
  obtain ⟨f, fd, ps, g, M, F, hm, hb⟩ := M
  exact pe_makeK M F hr hg hm hb pass0 ha hkw hall hks hdb he hpl
/-- a method as its callers see it -/
def CalM (P : Program) (w : World) (K : PySem.W.Frag) (mg : Str → Option Value) (base : Heap) (k : Nat) (C : Addr) (m : Str) (ps : List Str) (sp : Sp) : Prop :=
  ∃ (f : Addr) (fd : FuncData), FnOk P w K mg base CX0 k f fd ps sp ∧ Meth K C m f ∧ Binds K fd ps []
theorem pe_calM {X : Cx} {k : Nat} {C : Addr} {m : Str} {ps : List Str} {sp : Sp} {apos pos : Pos} {o e : Expr} {es : List Expr} {ta : TE} {t : TA} {pl : Sem Bool} (c : Cls X.K C) (M : CalM X.prog X.w X.K X.mg X.base k C m ps sp) (hr : Room k X.A) (he : PE X o ta) (ha : PA X (e :: es) t)
    (hst : starEach (e :: es) X.env = (false, eval e X.env) :: starEach es X.env := by rfl) (hpl : (backTo pos (starEach es X.env)).any (·.1) = false := by rfl)
    (ht : eval (.Call (.Attribute o m apos) (e :: es) [] pos) X.env = (do
      let ov ← eval o X.env
      standAt apos.atName
      let (f, first) ← holding [ov] (getMethod ov m pl)
      callWith pos f first (backTo pos (starEach (e :: es) X.env)) (backToKw pos (keywordEach [] X.env))) := by rfl) :
    PE X (.Call (.Attribute o m apos) (e :: es) [] pos) (tMeth C m sp [] E0 ta t) := by
  obtain ⟨f, fd, F, hm, hb⟩ := M
  exact pe_meth he c hm F hr hb .nil pass0 ha hst hpl ht
/-- an instance of the class at C as its callers see it -/
def CalI (P : Program) (w : World) (K : PySem.W.Frag) (mg : Str → Option Value) (base : Heap) (k : Nat) (C : Addr) (ps : List Str) (sp : Sp) : Prop :=
  ∃ (f : Addr) (fd : FuncData), FnOk P w K mg base CX0 k f fd ps sp ∧ WC.Cl K C f ∧ Binds K fd ps []
theorem pe_calI {X : Cx} {k i : Nat} {C : Addr} {x : Str} {ps : List Str} {sp : Sp} {p pos : Pos} {e : Expr} {es : List Expr} {t : TA} (M : CalI X.prog X.w X.K X.mg X.base k C ps sp) (hr : Room k X.A) (hN : X.N[i]? = some x) (hv : Vis X.env.scope x) (ha : PA X (e :: es) t)
    (hdb : (x == ("__debug__" : Str)) = false := by decide) (hcd : (x == ("__classdict__" : Str)) = false := by decide)
    (he : starEach (e :: es) X.env = (false, eval e X.env) :: starEach es X.env := by rfl) (hpl : (backTo pos (starEach es X.env)).any (·.1) = false := by rfl) :
    PE X (.Call (.Name x p) (e :: es) [] pos) (WC.tCallI i C sp E0 t) := by
  obtain ⟨f, fd, F, hm, hb⟩ := M
  exact WC.pe_callI F hm hr hN hv hb pass0 ha hdb hcd he hpl
/-- the built-in names that the text asks for are the built-in ones -/
structure Txt (mg : Str → Option Value) : Prop where
  b_len : mg "len" = none
  b_int : mg "int" = none
  b_bool : mg "bool" = none
  b_tuple : mg "tuple" = none
  b_list : mg "list" = none
  b_isinstance : mg "isinstance" = none
  b_range : mg "range" = none
  b_enumerate : mg "enumerate" = none
  b_zip : mg "zip" = none
  b_sum : mg "sum" = none
  b_min : mg "min" = none
  b_max : mg "max" = none
  b_abs : mg "abs" = none
  b_all : mg "all" = none
  b_any : mg "any" = none
  b_ValueError : mg "ValueError" = none
  g_gcd : mg "gcd" = some (.builtin "math.gcd")
/-- the classes of the text -/
structure Obs (K : PySem.W.Frag) (cF cR : Addr) : Prop where
  clF : Cls K cF
  F_size : NoAttr K cF "size"
  F_entries : NoAttr K cF "entries"
  F_bottom : NoAttr K cF "bottom"
  clR : Cls K cR
  R_size : NoAttr K cR "size"
  R_pairs : NoAttr K cR "pairs"
  R_bottom : NoAttr K cR "bottom"
  R_form : NoAttr K cR "form"
/-- the webs -/
structure ObW (K : PySem.W.Frag) (cW : Addr) : Prop where
  clW : Cls K cW
  W_places : NoAttr K cW "places"
  W_ties : NoAttr K cW "ties"
  W_bottom : NoAttr K cW "bottom"
  W_rows : NoAttr K cW "rows"
  W_form : NoAttr K cW "form"
theorem line_ge {n : Nat} (h : n ≤ 100000) : n ≤ sizeLine := Nat.le_trans h (by rw [sizeLine_eq]; decide)
theorem two_line : 2 ≤ sizeLine := line_ge (by omega)
theorem three_line : 3 ≤ sizeLine := line_ge (by omega)
theorem at_pos {α : Type} {xs : List α} {z : Int} {v : α} (h0 : 0 ≤ z) (h : xs[z.toNat]? = some v) : atI xs z = some v := by
  have e : z = ((z.toNat : Nat) : Int) := by omega
  rw [e]
  exact atI_nat h
theorem same_new {H : Hp} {p : Addr} (h : H p = none) (o : HO) : Same H (upd H p o) := new_same h o
theorem lc_yes {σ : L2.St} {H : Hp} {A B : Hp → Prop} (h : A H) : tYes σ H (fun b H3 => if b = true then A H3 else B H3) := by
  show (if true = true then A H else B H)
  exact iteT h
theorem ifT {c : Bool} {A B : Prop} (hc : c = true) (h : A) : if c = true then A else B := by rw [if_pos hc]; exact h
theorem ifF {c : Bool} {A B : Prop} (hc : c = false) (h : B) : if c = true then A else B := by rw [hc, if_neg Bool.false_ne_true]; exact h
theorem dec_ne {a b : V} (h : a ≠ b) : decide (a = b) = false := decide_eq_false h
theorem int_ne {a b : Int} (h : a ≠ b) : decide (V.int a = V.int b) = false := decide_eq_false fun e => h (V.int.inj e)
theorem int_eq {a b : Int} (h : a = b) : decide (V.int a = V.int b) = true := decide_eq_true (by rw [h])
theorem same_at {H H' : Hp} {D : Addr} {o : HO} (e : Same H H') (h : H D = none) : Same H (upd H' D o) := fun b u q => by
  have hne : b ≠ D := fun z => by
    rw [z, h] at q
    cases q
  rw [upd_ne hne]
  exact e _ _ q
theorem dec_lt {a b : Int} (h : decide (a < b) = true) : a < b := of_decide_eq_true h
theorem not_lt {a b : Int} (h : ¬ decide (a < b) = true) : ¬ a < b := of_decide_eq_false (Bool.eq_false_iff.mpr h)
theorem kitLT {K : PySem.W.Frag} : PySem.W.kitOne K (.type "list") (.type "list") = some true := kit_ty (by decide +kernel)
theorem wmul {m n : Nat} {x y : Int} (hx : B m x) (hy : B n y) (h0 : 0 < m) (h1 : 0 < n) (h : m + n ≤ 1000000) : CMulW x y := wide_mul hx hy h0 h1 h
theorem wdiv {n : Nat} {x g : Int} (hg : 0 < g) (h : B n g) (h0 : 0 < n) (h9 : n ≤ 9000) : CDivW x g := wide_div hg h h0 h9
theorem lk_hit {n : Str} {v : V} {l : List (Str × V)} : ((n, v) :: l).lookup n = some v := by rw [List.lookup_cons, beq_self_eq_true]
theorem lk_skip {n m : Str} {v : V} {l : List (Str × V)} (h : ¬ m = n) : ((n, v) :: l).lookup m = l.lookup m := by
  rw [List.lookup_cons]
  have : (m == n) = false := beq_eq_false_iff_ne.mpr h
  rw [this]
/-- a pair of ints -/
def FrAt (H : Hp) (a : Addr) (t b : Int) : Prop := H a = some (.tup [.int t, .int b])
theorem FrAt.same {H H' : Hp} {a : Addr} {t b : Int} (e : Same H H') (h : FrAt H a t b) : FrAt H' a t b := e _ _ h
end P15
namespace P15
open PySem PySem.Spec PyProof.Rows L2 SX EX WK
theorem kLT {K : PySem.W.Frag} : PySem.W.kitAny K (.type "list") [.type "list", .type "tuple"] = some true := by
  unfold PySem.W.kitAny
  rw [show PySem.W.kitOne K (.type "list") (.type "list") = some true from kit_ty (by decide +kernel)]
theorem kTT {K : PySem.W.Frag} : PySem.W.kitAny K (.type "tuple") [.type "list", .type "tuple"] = some true := by
  unfold PySem.W.kitAny
  rw [show PySem.W.kitOne K (.type "tuple") (.type "list") = some false from kit_ty (by decide +kernel)]
  unfold PySem.W.kitAny
  rw [show PySem.W.kitOne K (.type "tuple") (.type "tuple") = some true from kit_ty (by decide +kernel)]
theorem kIT {K : PySem.W.Frag} : PySem.W.kitAny K (.type "int") [.type "list", .type "tuple"] = some false := by
  unfold PySem.W.kitAny
  rw [show PySem.W.kitOne K (.type "int") (.type "list") = some false from kit_ty (by decide +kernel)]
  unfold PySem.W.kitAny
  rw [show PySem.W.kitOne K (.type "int") (.type "tuple") = some false from kit_ty (by decide +kernel)]
  rfl
theorem ty_tup {K : PySem.W.Frag} {H : Hp} {a : Addr} {xs : List V} (h : SqT K H a xs) : TyX K H (.ref a) (.type "tuple") := by
  rcases h with (h | ⟨o, h⟩) | ⟨o, its, n, h, c, _⟩
  · exact .base (.tup h)
  · exact .fTuple h
  · exact .kTuple h c
def spFz (K : PySem.W.Frag) (n : Nat) : Sp := fun vs H Q _ => ∃ (v : V) (t : Td), vs = [v] ∧ Sn K H v t ∧ t.dep ≤ n ∧ t.sm ∧ ∀ v' H', Same H H' → Fz K H' v' t → Q v' H'
theorem pairLT : Paired ClsV [V.ty "list", V.ty "tuple"] [.type "list", .type "tuple"] := .cons (.ty _) (.cons (.ty _) .nil)
section
variable {P : Program} {w : World} {K : PySem.W.Frag} {mg : Str → Option Value} {base : Heap} {f : Addr} {fd : FuncData}
abbrev s_frozen_numbers : Stmt := top 14
abbrev N_frozen_numbers : List Str := ["value"]
theorem sc_frozen_numbers : FnScope N_frozen_numbers ["value"] (defScope s_frozen_numbers) := ⟨rfl, rfl, rfl, by decide +kernel, rfl, by decide +kernel, by decide +kernel⟩
theorem ok_frozen_numbers (F : Fun K "frozen_numbers" "frozen_numbers" s_frozen_numbers f fd) (T : Txt mg) : FnOk P w K mg base CX0 1 f fd ["value"] (spFz K 1) := by
  refine F.ok sc_frozen_numbers (fun vs H Q E h => ?_) (fun cdv A outer s H vs Q E hr h => ?_)
  · obtain ⟨v, t, rfl, _⟩ := h
    rfl
  obtain ⟨v, t, rfl, hs, hd, hm, q⟩ := h
  refine ⟨_, (pss_cons (ps_if (pt_val (pe_callB call_isiT (by rfl) T.b_isinstance (by decide +kernel) (pa_cons (pv 0) (pa_cons (pe_tup (pa_cons (pe_bltn (v := .ty "list") (by rfl) T.b_list (by decide +kernel) rfl) (pa_cons (pe_bltn (v := .ty "tuple") (by rfl) T.b_tuple (by decide +kernel) rfl) pa_nil))) pa_nil)))) (pss_one (ps_ret (pe_callTy call_tuple_of (by rfl) T.b_tuple (by decide +kernel) (pa_cons (pv 0) pa_nil)))) pss_nil)
  (pss_one (ps_ret (pv 0)))), ?_⟩
  refine ⟨_, rfl, two_line, fun tp htp => ?_⟩
  have g := same_new htp (.tup [V.ty "list", V.ty "tuple"])
  have hs' := hs.same g
  cases hs' with
  | int i => exact ⟨_, tp, _, _, _, _, rfl, upd_same, pairLT, .base (.int i), kIT, _, rfl, ifF rfl ⟨_, rfl, q _ _ g (.int i)⟩⟩
  | @lst a vs ts ha hall =>
    simp only [Td.dep] at hd
    refine ⟨_, tp, _, _, _, _, rfl, upd_same, pairLT, .base (.lst ha), kLT, _, rfl, ifT rfl ⟨_, rfl, a, _, rfl, .inl ⟨SqL.of ha, fun l hl => ?_⟩⟩⟩
    have g2 := same_new hl (.tup vs)
    exact q _ _ (g.trans g2) (.tup (SqT.of upd_same) ((hall.zero (by omega)).tk (WK.Same.tk g2)))
  | @tup a vs ts ha hall =>
    simp only [Td.dep] at hd
    exact ⟨_, tp, _, _, _, _, rfl, upd_same, pairLT, ty_tup ha, kTT, _, rfl, ifT rfl ⟨_, rfl, a, _, rfl, .inr ⟨ha, q _ _ g (.tup ha (hall.zero (by omega)))⟩⟩⟩
abbrev s_frozen_part : Stmt := top 15
abbrev N_frozen_part : List Str := ["value", "part"]
theorem sc_frozen_part : FnScope N_frozen_part ["value"] (defScope s_frozen_part) := ⟨rfl, rfl, rfl, by decide +kernel, rfl, by decide +kernel, by decide +kernel⟩
theorem ok_frozen_part (F : Fun K "frozen_part" "frozen_part" s_frozen_part f fd) (T : Txt mg) (C_frozen_numbers : Cal P w K mg base 1 "frozen_numbers" ["value"] (spFz K 1)) : FnOk P w K mg base CX0 2 f fd ["value"] (spFz K 2) := by
  refine F.ok sc_frozen_part (fun vs H Q E h => ?_) (fun cdv A outer s H vs Q E hr h => ?_)
  · obtain ⟨v, t, rfl, _⟩ := h
    rfl
  obtain ⟨v, t, rfl, hs, hd, hm, q⟩ := h
  refine ⟨_, (pss_cons (ps_if (pt_val (pe_callB call_isiT (by rfl) T.b_isinstance (by decide +kernel) (pa_cons (pv 0) (pa_cons (pe_tup (pa_cons (pe_bltn (v := .ty "list") (by rfl) T.b_list (by decide +kernel) rfl) (pa_cons (pe_bltn (v := .ty "tuple") (by rfl) T.b_tuple (by decide +kernel) rfl) pa_nil))) pa_nil)))) (pss_one (ps_ret (pe_callTy call_tuple_of (by rfl) T.b_tuple (by decide +kernel) (pa_cons (pe_lc (own := [("part", 1)]) (g := gName 1) (tt := tYes) (by rfl) sc_frozen_part.nd (pi_or (pi_list (pv 0)) (pi_tup (pv 0))) (blkOk_by (N := N_frozen_part) (sc := defScope s_frozen_part) (by decide +kernel)) (fun _ _ _ _ _ => (pg_name (i := 1) sc_frozen_part.nd rfl (Or.inl rfl))) (fun _ _ _ _ _ => pts_nil) (fun _ _ _ _ _ => (pe_cal C_frozen_numbers (hr.mono (by omega)) rfl (pa_cons (pv 1) pa_nil)))) pa_nil)))) pss_nil)
  (pss_one (ps_ret (pv 0)))), ?_⟩
  refine ⟨_, rfl, two_line, fun tp htp => ?_⟩
  have g := same_new htp (.tup [V.ty "list", V.ty "tuple"])
  have hs' := hs.same g
  cases hs' with
  | int i => exact ⟨_, tp, _, _, _, _, rfl, upd_same, pairLT, .base (.int i), kIT, _, rfl, ifF rfl ⟨_, rfl, q _ _ g (.int i)⟩⟩
  | @lst a vs ts ha hall =>
    simp only [Td.dep] at hd
    simp only [Td.sm] at hm
    have hl := hall.len
    refine ⟨_, tp, _, _, _, _, rfl, upd_same, pairLT, .base (.lst ha), kLT, _, rfl, ifT rfl (.inl ⟨_, rfl, a, rfl, ⟨_, SqL.of ha⟩, fun D hD => ?_⟩)⟩
    refine lc_m (walk_list (K := K) (a := a) (xs := vs)) (Fz K) stb_Fz ts hl hm.1 hD (fun H' s => s.seq (SqL.of ha)) (fun _ _ _ _ => ys_at) id (fun i b x H1 H2 hb s1 s2 y A B hA => ?_) (fun H' l s1 hl1 rs => ?_)
    · obtain ⟨t1, ht1, hx⟩ := hall.get y.2
      rw [hb] at ht1
      cases ht1
      have mb := List.mem_of_getElem? hb
      exact ⟨rfl, lc_yes ⟨_, rfl, _, b, rfl, hx.same s2, Nat.le_trans (deps_le (n := 1) (by omega) mb) (Nat.le_refl _), sms_of hm.2 mb, fun v' H' s h => hA _ _ s h⟩⟩
    · rw [List.map_id] at rs
      refine ⟨D, l, rfl, .inl ⟨SqL.of hl1, fun l2 hl2 => ?_⟩⟩
      have g2 := same_new hl2 (.tup l)
      exact q _ _ (g.trans (s1.trans g2)) (.tup (SqT.of upd_same) (rs.fz.tk (WK.Same.tk g2)))
  | @tup a vs ts ha hall =>
    simp only [Td.dep] at hd
    simp only [Td.sm] at hm
    have hl := hall.len
    refine ⟨_, tp, _, _, _, _, rfl, upd_same, pairLT, ty_tup ha, kTT, _, rfl, ifT rfl (.inr ⟨_, rfl, a, rfl, ⟨_, ha⟩, fun D hD => ?_⟩)⟩
    refine lc_m (walk_tup (K := K) (a := a) (xs := vs)) (Fz K) stb_Fz ts hl hm.1 hD (fun H' s => Same_seqT s ha) (fun _ _ _ _ => ys_at) id (fun i b x H1 H2 hb s1 s2 y A B hA => ?_) (fun H' l s1 hl1 rs => ?_)
    · obtain ⟨t1, ht1, hx⟩ := hall.get y.2
      rw [hb] at ht1
      cases ht1
      have mb := List.mem_of_getElem? hb
      exact ⟨rfl, lc_yes ⟨_, rfl, _, b, rfl, hx.same s2, Nat.le_trans (deps_le (n := 1) (by omega) mb) (Nat.le_refl _), sms_of hm.2 mb, fun v' H' s h => hA _ _ s h⟩⟩
    · rw [List.map_id] at rs
      refine ⟨D, l, rfl, .inl ⟨SqL.of hl1, fun l2 hl2 => ?_⟩⟩
      have g2 := same_new hl2 (.tup l)
      exact q _ _ (g.trans (s1.trans g2)) (.tup (SqT.of upd_same) (rs.fz.tk (WK.Same.tk g2)))
abbrev s_frozen : Stmt := top 16
abbrev N_frozen : List Str := ["value", "part"]
theorem sc_frozen : FnScope N_frozen ["value"] (defScope s_frozen) := ⟨rfl, rfl, rfl, by decide +kernel, rfl, by decide +kernel, by decide +kernel⟩
theorem ok_frozen (F : Fun K "frozen" "frozen" s_frozen f fd) (T : Txt mg) (C_frozen_part : Cal P w K mg base 2 "frozen_part" ["value"] (spFz K 2)) : FnOk P w K mg base CX0 3 f fd ["value"] (spFz K 3) := by
  refine F.ok sc_frozen (fun vs H Q E h => ?_) (fun cdv A outer s H vs Q E hr h => ?_)
  · obtain ⟨v, t, rfl, _⟩ := h
    rfl
  obtain ⟨v, t, rfl, hs, hd, hm, q⟩ := h
  refine ⟨_, (pss_cons (ps_if (pt_val (pe_callB call_isiT (by rfl) T.b_isinstance (by decide +kernel) (pa_cons (pv 0) (pa_cons (pe_tup (pa_cons (pe_bltn (v := .ty "list") (by rfl) T.b_list (by decide +kernel) rfl) (pa_cons (pe_bltn (v := .ty "tuple") (by rfl) T.b_tuple (by decide +kernel) rfl) pa_nil))) pa_nil)))) (pss_one (ps_ret (pe_callTy call_tuple_of (by rfl) T.b_tuple (by decide +kernel) (pa_cons (pe_lc (own := [("part", 1)]) (g := gName 1) (tt := tYes) (by rfl) sc_frozen.nd (pi_or (pi_list (pv 0)) (pi_tup (pv 0))) (blkOk_by (N := N_frozen) (sc := defScope s_frozen) (by decide +kernel)) (fun _ _ _ _ _ => (pg_name (i := 1) sc_frozen.nd rfl (Or.inl rfl))) (fun _ _ _ _ _ => pts_nil) (fun _ _ _ _ _ => (pe_cal C_frozen_part (hr.mono (by omega)) rfl (pa_cons (pv 1) pa_nil)))) pa_nil)))) pss_nil)
  (pss_one (ps_ret (pv 0)))), ?_⟩
  refine ⟨_, rfl, two_line, fun tp htp => ?_⟩
  have g := same_new htp (.tup [V.ty "list", V.ty "tuple"])
  have hs' := hs.same g
  cases hs' with
  | int i => exact ⟨_, tp, _, _, _, _, rfl, upd_same, pairLT, .base (.int i), kIT, _, rfl, ifF rfl ⟨_, rfl, q _ _ g (.int i)⟩⟩
  | @lst a vs ts ha hall =>
    simp only [Td.dep] at hd
    simp only [Td.sm] at hm
    have hl := hall.len
    refine ⟨_, tp, _, _, _, _, rfl, upd_same, pairLT, .base (.lst ha), kLT, _, rfl, ifT rfl (.inl ⟨_, rfl, a, rfl, ⟨_, SqL.of ha⟩, fun D hD => ?_⟩)⟩
    refine lc_m (walk_list (K := K) (a := a) (xs := vs)) (Fz K) stb_Fz ts hl hm.1 hD (fun H' s => s.seq (SqL.of ha)) (fun _ _ _ _ => ys_at) id (fun i b x H1 H2 hb s1 s2 y A B hA => ?_) (fun H' l s1 hl1 rs => ?_)
    · obtain ⟨t1, ht1, hx⟩ := hall.get y.2
      rw [hb] at ht1
      cases ht1
      have mb := List.mem_of_getElem? hb
      exact ⟨rfl, lc_yes ⟨_, rfl, _, b, rfl, hx.same s2, Nat.le_trans (deps_le (n := 2) (by omega) mb) (Nat.le_refl _), sms_of hm.2 mb, fun v' H' s h => hA _ _ s h⟩⟩
    · rw [List.map_id] at rs
      refine ⟨D, l, rfl, .inl ⟨SqL.of hl1, fun l2 hl2 => ?_⟩⟩
      have g2 := same_new hl2 (.tup l)
      exact q _ _ (g.trans (s1.trans g2)) (.tup (SqT.of upd_same) (rs.fz.tk (WK.Same.tk g2)))
  | @tup a vs ts ha hall =>
    simp only [Td.dep] at hd
    simp only [Td.sm] at hm
    have hl := hall.len
    refine ⟨_, tp, _, _, _, _, rfl, upd_same, pairLT, ty_tup ha, kTT, _, rfl, ifT rfl (.inr ⟨_, rfl, a, rfl, ⟨_, ha⟩, fun D hD => ?_⟩)⟩
    refine lc_m (walk_tup (K := K) (a := a) (xs := vs)) (Fz K) stb_Fz ts hl hm.1 hD (fun H' s => Same_seqT s ha) (fun _ _ _ _ => ys_at) id (fun i b x H1 H2 hb s1 s2 y A B hA => ?_) (fun H' l s1 hl1 rs => ?_)
    · obtain ⟨t1, ht1, hx⟩ := hall.get y.2
      rw [hb] at ht1
      cases ht1
      have mb := List.mem_of_getElem? hb
      exact ⟨rfl, lc_yes ⟨_, rfl, _, b, rfl, hx.same s2, Nat.le_trans (deps_le (n := 2) (by omega) mb) (Nat.le_refl _), sms_of hm.2 mb, fun v' H' s h => hA _ _ s h⟩⟩
    · rw [List.map_id] at rs
      refine ⟨D, l, rfl, .inl ⟨SqL.of hl1, fun l2 hl2 => ?_⟩⟩
      have g2 := same_new hl2 (.tup l)
      exact q _ _ (g.trans (s1.trans g2)) (.tup (SqT.of upd_same) (rs.fz.tk (WK.Same.tk g2)))
end
end P15
namespace P15
open PySem PySem.Spec PyProof.Rows L2 SX EX WK
theorem take_one {α : Type} {xs : List α} {i : Nat} {x : α} (h : xs[i]? = some x) : xs.take (i + 1) = xs.take i ++ [x] := by
  rw [List.take_add_one, h]
  rfl
theorem ints_at {ns : List Int} {i : Nat} {x : V} (h : (ns.map V.int)[i]? = some x) : ∃ n, ns[i]? = some n ∧ x = V.int n := by
  rw [List.getElem?_map] at h
  cases e : ns[i]? with
  | none => rw [e] at h; cases h
  | some n => rw [e] at h; exact ⟨n, rfl, (Option.some.inj h).symm⟩
def spLow : Sp := fun vs H Q _ => ∃ (l : Addr) (ns : List Int) (b : Int), vs = [.ref l, .int b] ∧ H l = some (.lst (ns.map V.int)) ∧ 0 < b ∧ B 9000 b ∧ ns.length ≤ 16000000 ∧
  ∀ r t H', Same H H' → H' r = some (.tup [.ref t, .int (b / gf b ns)]) → H' t = some (.tup ((ns.map fun n => n / gf b ns).map V.int)) → Q (.ref r) H'
section
variable {P : Program} {w : World} {K : PySem.W.Frag} {mg : Str → Option Value} {base : Heap} {f : Addr} {fd : FuncData}
abbrev s_lowered : Stmt := top 17
abbrev N_lowered : List Str := ["numbers", "bottom", "shared", "number"]
theorem sc_lowered : FnScope N_lowered ["numbers", "bottom"] (defScope s_lowered) := ⟨rfl, rfl, rfl, by decide +kernel, rfl, by decide +kernel, by decide +kernel⟩
theorem ok_lowered (F : Fun K "lowered" "lowered" s_lowered f fd) (T : Txt mg) : FnOk P w K mg base CX0 1 f fd ["numbers", "bottom"] spLow := by
  refine F.ok sc_lowered (fun vs H Q E h => ?_) (fun cdv A outer s H vs Q E hr h => ?_)
  · obtain ⟨l, ns, b, rfl, _⟩ := h
    rfl
  obtain ⟨l, ns, b, rfl, hl, hb, hB, hn, q⟩ := h
  refine ⟨_, (pss_cons (ps_set (i := 2) sc_lowered.nd rfl (Or.inr rfl) (pv 1))
  (pss_cons (ps_for PassesOwn.never rfl (pi_list (pv 0)) (pg_name (i := 3) sc_lowered.nd rfl (Or.inl rfl)) (pss_one (ps_set (i := 2) sc_lowered.nd rfl (Or.inr rfl) (pe_callBfun cr_gcd rfl T.g_gcd (pa_cons (pv 2) (pa_cons (pv 3) pa_nil))))))
  (pss_one (ps_ret (pe_tup (pa_cons (pe_callTy call_tuple_of (by rfl) T.b_tuple (by decide +kernel) (pa_cons (pe_lc (own := [("number", 3)]) (g := gName 3) (tt := tYes) (by rfl) sc_lowered.nd (pi_list (pv 0)) (blkOk_by (N := N_lowered) (sc := defScope s_lowered) (by decide +kernel)) (fun _ _ _ _ _ => (pg_name (i := 3) sc_lowered.nd rfl (Or.inl rfl))) (fun _ _ _ _ _ => pts_nil) (fun _ _ _ _ _ => (pe_op op_fdivW (pv 3) (pv 2)))) pa_nil)) (pa_cons (pe_op op_fdivW (pv 1) (pv 2)) pa_nil))))))), ?_⟩
  have hg := gf_pos hb ns
  have hgB : B 9000 (gf b ns) := B.le (Int.le_of_lt hg) (gf_le hb ns) hB
  refine ⟨_, rfl, _, rfl, l, rfl, ⟨_, SqL.of hl⟩, for_list (K := K) (a := l) (xs := ns.map V.int) (fun i σ H' => ∃ v : Option V, σ = [some (.ref l), some (.int b), some (.int (gf b (ns.take i))), v] ∧ H' = H)
    ⟨none, rfl, rfl⟩ (fun i σ H' _ ⟨_, _, e⟩ => by rw [e]; exact SqL.of hl) ?_ ?_⟩
  · rintro i x σ H' hi ⟨v, rfl, rfl⟩
    obtain ⟨n, hni, rfl⟩ := ints_at hi
    refine ⟨_, rfl, _, rfl, _, _, rfl, some (V.int n), ?_, rfl⟩
    rw [take_one hni, gf_snoc]
    rfl
  · rintro σ H' ⟨v, rfl, rfl⟩
    rw [List.length_map, List.take_length]
    refine ⟨_, rfl, l, rfl, ⟨_, SqL.of hl⟩, fun D hD => ?_⟩
    refine lc_m (walk_list (K := K) (a := l) (xs := ns.map V.int)) RI (stb_RI (K := K)) ns (List.length_map ..) (by omega) hD (fun H' s => s.seq (SqL.of hl)) (fun _ _ _ _ => ys_at) (fun n => n / gf b ns) (fun i n x H1 H2 hb s1 s2 y A B hA => ?_) (fun H2 l1 s1 hl1 rs => ?_)
    · obtain ⟨n', hn', rfl⟩ := ints_at y.2
      rw [hb] at hn'
      cases hn'
      exact ⟨rfl, lc_yes ⟨_, rfl, _, rfl, _, _, rfl, rfl, wdiv hg hgB (by decide) (by decide), hA _ _ (fun _ _ h => h) rfl⟩⟩
    · refine ⟨D, l1, rfl, .inl ⟨SqL.of hl1, fun t ht => ?_⟩⟩
      refine ⟨_, rfl, _, rfl, _, _, rfl, rfl, wdiv hg hgB (by decide) (by decide), two_line, fun r hr' => ?_⟩
      refine q r t _ (s1.trans ((same_new ht _).trans (same_new hr' _))) upd_same ?_
      rw [upd_ne (ne_of_none (upd_same (H := H2) (a := t)) hr'), upd_same, rs.ints]
/-! ### fractions -/
def spFraction : Sp := fun vs H Q _ => ∃ t b : Int, vs = [.int t, .int b] ∧ 0 < b ∧ B 9000 b ∧ ∀ r H', Same H H' → FrAt H' r (t / gI t b) (b / gI t b) → Q (.ref r) H'
abbrev s_fraction : Stmt := top 18
abbrev N_fraction : List Str := ["top", "bottom", "shared"]
theorem sc_fraction : FnScope N_fraction ["top", "bottom"] (defScope s_fraction) := ⟨rfl, rfl, rfl, by decide +kernel, rfl, by decide +kernel, by decide +kernel⟩
theorem ok_fraction (F : Fun K "fraction" "fraction" s_fraction f fd) (T : Txt mg) : FnOk P w K mg base CX0 1 f fd ["top", "bottom"] spFraction := by
  refine F.ok sc_fraction (fun vs H Q E h => ?_) (fun cdv A outer s H vs Q E hr h => ?_)
  · obtain ⟨t, b, rfl, _⟩ := h
    rfl
  obtain ⟨t, b, rfl, hb, hB, q⟩ := h
  refine ⟨_, (pss_cons (ps_if (pt_cmpR op_eq (pv 1) pe_int (nomark _)) (pss_one ps_never) pss_nil)
  (pss_cons (ps_set (i := 2) sc_fraction.nd rfl (Or.inl rfl) (pe_callBfun cr_gcd rfl T.g_gcd (pa_cons (pv 0) (pa_cons (pv 1) pa_nil))))
  (pss_cons (ps_if (pt_cmpR op_lt (pv 1) pe_int (nomark _)) (pss_one (ps_set (i := 2) sc_fraction.nd rfl (Or.inl rfl) (pe_un un_neg (pv 2)))) pss_nil)
  (pss_one (ps_ret (pe_tup (pa_cons (pe_op op_fdivW (pv 0) (pv 2)) (pa_cons (pe_op op_fdivW (pv 1) (pv 2)) pa_nil)))))))), ?_⟩
  refine ⟨_, rfl, rfl, _, rfl, ifF (int_ne (by omega)) ?_⟩
  refine ⟨_, rfl, _, rfl, t, b, rfl, ?_⟩
  refine ⟨_, rfl, _, _, rfl, rfl, _, rfl, ifF (decide_eq_false (by omega)) ?_⟩
  have g := gI_pos' (t := t) hb
  have gB : B 9000 (gI t b) := B.le (Int.le_of_lt g) (by
    have : Nat.gcd t.natAbs b.natAbs ≤ b.natAbs := Nat.le_of_dvd (by omega) (Nat.gcd_dvd_right _ _)
    unfold gI
    omega) hB
  refine ⟨_, rfl, _, rfl, _, _, rfl, rfl, wdiv g gB (by decide) (by decide), _, rfl, _, rfl, _, _, rfl, rfl, wdiv g gB (by decide) (by decide), two_line, fun r hr' => q r _ (same_new hr' _) upd_same⟩
end
end P15
namespace P15
open PySem PySem.Spec PyProof.Rows L2 SX EX WK
theorem inV_ints (x : Int) (ns : List Int) : inV (.int x) (ns.map V.int) = decide (x ∈ ns) := by
  unfold inV
  rw [Bool.eq_iff_iff, List.any_eq_true, decide_eq_true_iff]
  constructor
  · rintro ⟨v, hv, e⟩
    obtain ⟨n, hn, rfl⟩ := List.mem_map.mp hv
    have e1 : (n == x) = true := e
    rw [← eq_of_beq e1]
    exact hn
  · intro h
    exact ⟨.int x, List.mem_map.mpr ⟨x, h, rfl⟩, by show (x == x) = true; exact beq_self_eq_true x⟩
theorem flat_ints (ns : List Int) : (ns.map V.int).all flatV = true := by
  rw [List.all_eq_true]
  intro v hv
  obtain ⟨n, _, rfl⟩ := List.mem_map.mp hv
  rfl
/-- the matrix at v -/
theorem fz_mat {K : PySem.W.Frag} {H : Hp} {v : V} {m : List (List Int)} (h : Fz K H v (tdm m)) : ∃ (a : Addr) (vs : List V), v = .ref a ∧ SqT K H a vs ∧ vs.length = m.length ∧ ∀ (i : Nat) (r : List Int), m[i]? = some r → ∃ p : Addr, vs[i]? = some (.ref p) ∧ SqT K H p (r.map V.int) := by
  cases h with
  | @tup a vs ts ha hall =>
    have hl : vs.length = m.length := by rw [hall.len, List.length_map]
    refine ⟨a, vs, rfl, ha, hl, fun i r hr => ?_⟩
    have hi : i < vs.length := by
      have := (List.getElem?_eq_some_iff.mp hr).1
      omega
    obtain ⟨t, ht, hz⟩ := hall.get (List.getElem?_eq_getElem hi)
    rw [List.getElem?_map, hr] at ht
    cases ht
    generalize hv : vs[i] = u at hz
    cases hz with
    | @tup p us ts hp hq =>
      refine ⟨p, by rw [List.getElem?_eq_getElem hi, hv], ?_⟩
      rw [← hq.ints]
      exact hp
/-- the pairs at v -/
theorem fz_prs {K : PySem.W.Frag} {H : Hp} {v : V} {ps : List RW} (h : Fz K H v (.tup (ps.map tdr))) : ∃ (a : Addr) (vs : List V), v = .ref a ∧ SqT K H a vs ∧ vs.length = ps.length ∧ ∀ (i : Nat) (p : RW), ps[i]? = some p → ∃ q r : Addr, vs[i]? = some (.ref q) ∧ SqT K H q [.ref r, .int p.2] ∧ SqT K H r (p.1.map V.int) := by
  cases h with
  | @tup a vs ts ha hall =>
    have hl : vs.length = ps.length := by rw [hall.len, List.length_map]
    refine ⟨a, vs, rfl, ha, hl, fun i p hp => ?_⟩
    have hi : i < vs.length := by
      have := (List.getElem?_eq_some_iff.mp hp).1
      omega
    obtain ⟨t, ht, hz⟩ := hall.get (List.getElem?_eq_getElem hi)
    rw [List.getElem?_map, hp] at ht
    cases ht
    generalize hv : vs[i] = u at hz
    cases hz with
    | @tup q us ts hq hal =>
      cases hal with
      | cons h1 h2 =>
        cases h2 with
        | cons h3 h4 =>
          cases h4
          cases h3
          cases h1 with
          | @tup r rs ts hr hrs =>
            refine ⟨q, r, by rw [List.getElem?_eq_getElem hi, hv], hq, ?_⟩
            rw [← hrs.ints]
            exact hr
/-- three ints at v -/
theorem fz_tie {K : PySem.W.Frag} {H : Hp} {v : V} {t : T3} (h : Fz K H v (td3 t)) : ∃ a, v = .ref a ∧ SqT K H a [.int t.1, .int t.2.1, .int t.2.2] := by
  cases h with
  | @tup a vs ts ha hall =>
    cases hall with
    | cons h1 h2 =>
      cases h2 with
      | cons h3 h4 =>
        cases h4 with
        | cons h5 h6 =>
          cases h6
          cases h1
          cases h3
          cases h5
          exact ⟨a, rfl, ha⟩
theorem fz_ints {K : PySem.W.Frag} {H : Hp} {v : V} {ns : List Int} (h : Fz K H v (.tup (ns.map Td.int))) : ∃ a, v = .ref a ∧ SqT K H a (ns.map V.int) := by
  cases h with
  | @tup a vs ts ha hall =>
    rw [← hall.ints]
    exact ⟨a, rfl, ha⟩
def Sqr (m : List (List Int)) : Prop := ∀ r ∈ m, r.length = m.length
def ent (m : List (List Int)) (i j : Nat) : Int := (m.getD i []).getD j 0
def Sym (m : List (List Int)) : Prop := ∀ i j, ent m i j = ent m j i
section
variable {P : Program} {w : World} {K : PySem.W.Frag} {mg : Str → Option Value} {base : Heap} {f : Addr} {fd : FuncData}
def spSquare (K : PySem.W.Frag) : Sp := fun vs H Q _ => ∃ (v : V) (m : List (List Int)), vs = [v] ∧ Fz K H v (tdm m) ∧ Sqr m ∧ ∀ H', Same H H' → Q .non H'
abbrev s_check_square : Stmt := top 27
abbrev N_check_square : List Str := ["lines", "row", "line"]
theorem sc_check_square : FnScope N_check_square ["lines"] (defScope s_check_square) := ⟨rfl, rfl, rfl, by decide +kernel, rfl, by decide +kernel, by decide +kernel⟩
theorem ok_check_square (F : Fun K "check_square" "check_square" s_check_square f fd) (T : Txt mg) : FnOk P w K mg base CX0 1 f fd ["lines"] (spSquare K) := by
  refine F.ok sc_check_square (fun vs H Q E h => ?_) (fun cdv A outer s H vs Q E hr h => ?_)
  · obtain ⟨v, m, rfl, _⟩ := h
    rfl
  obtain ⟨v, m, rfl, hz, hs, q⟩ := h
  obtain ⟨a, vs, rfl, ha, hl, hrow⟩ := fz_mat hz
  refine ⟨_, (pss_one (ps_for PassesOwn.never rfl (WE.pi_enT (by rfl) T.b_enumerate (pa_cons (pv 0) pa_nil)) (pg_tup rfl (pgs_cons (pg_name (i := 1) sc_check_square.nd rfl (Or.inl rfl)) (pgs_cons (pg_name (i := 2) sc_check_square.nd rfl (Or.inl rfl)) pgs_nil))) (pss_one (ps_if (pt_cmpR op_ne (pe_callB call_len_seq (by rfl) T.b_len PySem.boot_len (pa_cons (pv 2) pa_nil)) (pe_callB call_len_seq (by rfl) T.b_len PySem.boot_len (pa_cons (pv 0) pa_nil)) (nomark _)) (pss_one ps_never) pss_nil)))), ?_⟩
  refine ⟨_, rfl, a, vs, rfl, ha, for_it (WE.walk_enT (K := K) (a := a) (xs := vs)) (fun i σ H' => ∃ v1 v2 : Option V, σ = [some (.ref a), v1, v2] ∧ Same H H') ⟨none, none, rfl, fun _ _ h => h⟩ (fun i σ H' _ ⟨_, _, _, s⟩ => Same_seqT s ha) ?_ ?_⟩
  · rintro i x σ H1 H2 hi ⟨v1, v2, rfl, s1⟩ y
    have s2 := ys_pair y
    obtain ⟨Tp, x1, x2, rfl, hT, rfl, e1, e2⟩ := y
    cases e1
    obtain ⟨r, hr1⟩ : ∃ r, m[i]? = some r := ⟨_, List.getElem?_eq_getElem (by omega)⟩
    obtain ⟨p, hp, hpr⟩ := hrow i r hr1
    rw [show vs[i]? = some x2 from e2] at hp
    cases hp
    have s3 := s1.trans s2
    refine ⟨_, _, rfl, SqT.of upd_same, rfl, _, _, rfl, _, _, rfl, rfl, ?_⟩
    refine ⟨_, rfl, _, _, rfl, .inr (Same_seqT s3 hpr), _, rfl, _, _, rfl, .inr (Same_seqT s3 ha), rfl, _, rfl, ifF ?_ ⟨_, _, rfl, s3⟩⟩
    have e : (((r.map V.int).length : Nat) : Int) = ((vs.length : Nat) : Int) := by rw [List.length_map, hl, hs r (List.mem_of_getElem? hr1)]
    rw [e]
    simp
  · rintro σ H' ⟨_, _, rfl, s1⟩
    exact q H' s1
def spSymm (K : PySem.W.Frag) : Sp := fun vs H Q _ => ∃ (v : V) (m : List (List Int)), vs = [v] ∧ Fz K H v (tdm m) ∧ Sqr m ∧ Sym m ∧ m.length ≤ 1000 ∧ Q .non H
theorem ent_at {m : List (List Int)} {i j : Nat} {r : List Int} (h : m[i]? = some r) (hj : j < r.length) : r[j]? = some (ent m i j) := by
  unfold ent
  rw [show m.getD i [] = r from by rw [List.getD_eq_getElem?_getD, h]; rfl, List.getD_eq_getElem?_getD, List.getElem?_eq_getElem hj]
  rfl
theorem at_int {ns : List Int} {j : Nat} {x : Int} (h : ns[j]? = some x) : (ns.map V.int)[j]? = some (.int x) := by
  rw [List.getElem?_map, h]
  rfl
abbrev s_check_symmetric : Stmt := top 28
abbrev N_check_symmetric : List Str := ["lines", "row", "column"]
theorem sc_check_symmetric : FnScope N_check_symmetric ["lines"] (defScope s_check_symmetric) := ⟨rfl, rfl, rfl, by decide +kernel, rfl, by decide +kernel, by decide +kernel⟩
theorem ok_check_symmetric (F : Fun K "check_symmetric" "check_symmetric" s_check_symmetric f fd) (T : Txt mg) : FnOk P w K mg base CX0 1 f fd ["lines"] (spSymm K) := by
  refine F.ok sc_check_symmetric (fun vs H Q E h => ?_) (fun cdv A outer s H vs Q E hr h => ?_)
  · obtain ⟨v, m, rfl, _⟩ := h
    rfl
  obtain ⟨v, m, rfl, hz, hs, hsy, h1000, q⟩ := h
  obtain ⟨a, vs, rfl, ha, hl, hrow⟩ := fz_mat hz
  refine ⟨_, (pss_one (ps_for PassesOwn.never rfl (pi_range1 (by rfl) T.b_range (pa_cons (pe_callB call_len_seq (by rfl) T.b_len PySem.boot_len (pa_cons (pv 0) pa_nil)) pa_nil)) (pg_name (i := 1) sc_check_symmetric.nd rfl (Or.inl rfl)) (pss_one (ps_for PassesOwn.never rfl (pi_range2 (by rfl) T.b_range (pa_cons (pe_op op_add (pv 1) pe_int) (pa_cons (pe_callB call_len_seq (by rfl) T.b_len PySem.boot_len (pa_cons (pv 0) pa_nil)) pa_nil))) (pg_name (i := 2) sc_check_symmetric.nd rfl (Or.inl rfl)) (pss_one (ps_if (pt_cmpR op_ne (pe_ix ix_tup (pe_ix ix_tup (pv 0) (pv 1) (fun _ _ => rfl)) (pv 2) (fun _ _ => rfl)) (pe_ix ix_tup (pe_ix ix_tup (pv 0) (pv 2) (fun _ _ => rfl)) (pv 1) (fun _ _ => rfl)) (nomark _)) (pss_one ps_never) pss_nil)))))), ?_⟩
  have row : ∀ i, i < m.length → ∃ (p : Addr) (r : List Int), vs[i]? = some (.ref p) ∧ SqT K H p (r.map V.int) ∧ ∀ j, j < m.length → r[j]? = some (ent m i j) := fun i hi => by
    have e := List.getElem?_eq_getElem hi
    obtain ⟨p, h1, h2⟩ := hrow i _ e
    exact ⟨p, _, h1, h2, fun j hj => ent_at e (by rw [hs _ (List.mem_of_getElem? e)]; exact hj)⟩
  refine ⟨_, rfl, _, _, rfl, .inr ha, (m.length : Int), by rw [hl], by omega, by omega, for_range (lo := 0) (n := m.length) (fun i σ H' => ∃ v1 v2 : Option V, σ = [some (.ref a), v1, v2] ∧ H' = H) ⟨none, none, rfl, rfl⟩ ?_ ?_⟩
  · rintro i σ H' hi ⟨v1, v2, rfl, rfl⟩
    obtain ⟨p, r, hp, hpr, hent⟩ := row i hi
    refine ⟨_, rfl, _, _, rfl, rfl, _, rfl, _, _, rfl, .inr ha, 0 + (i : Int) + 1, (m.length : Int), by rw [hl], ⟨by omega, by omega, by omega, by omega⟩, ?_⟩
    refine for_range (lo := 0 + (i : Int) + 1) (n := ((m.length : Int) - (0 + (i : Int) + 1)).toNat) (fun j σ H1 => ∃ v2 : Option V, σ = [some (.ref a), some (.int (0 + (i : Int))), v2] ∧ H1 = H') ⟨v2, rfl, rfl⟩ ?_ ?_
    · rintro j σ H1 hj ⟨v2, rfl, rfl⟩
      have hk : i + 1 + j < m.length := by omega
      obtain ⟨p2, r2, hp2, hpr2, hent2⟩ := row (i + 1 + j) hk
      have ei : (0 + (i : Int)).toNat = i := by omega
      have ej : (0 + (i : Int) + 1 + (j : Int)).toNat = i + 1 + j := by omega
      refine ⟨_, rfl, _, rfl, a, _, _, _, rfl, rfl, ha, at_pos (by omega) (by rw [ei]; exact hp), _, rfl, p, _, _, _, rfl, rfl, hpr, at_pos (by omega) (by rw [ej]; exact at_int (hent _ hk)), ?_⟩
      refine ⟨_, rfl, _, rfl, a, _, _, _, rfl, rfl, ha, at_pos (by omega) (by rw [ej]; exact hp2), _, rfl, p2, _, _, _, rfl, rfl, hpr2, at_pos (by omega) (by rw [ei]; exact at_int (hent2 _ hi)), ?_⟩
      refine ⟨rfl, _, rfl, ifF ?_ ⟨_, rfl, rfl⟩⟩
      rw [hsy i (i + 1 + j)]
      simp
    · rintro σ H1 ⟨v2, rfl, rfl⟩
      exact ⟨_, _, rfl, rfl⟩
  · rintro σ H' ⟨_, _, rfl, rfl⟩
    exact q
def spPairs (K : PySem.W.Frag) : Sp := fun vs H Q _ => ∃ (n : Nat) (v : V) (ps : List RW), vs = [.int n, v] ∧ Fz K H v (.tup (ps.map tdr)) ∧ (∀ p ∈ ps, p.1.length = n ∧ 1 ≤ p.2) ∧ ∀ H', Same H H' → Q .non H'
abbrev s_check_pairs : Stmt := top 34
abbrev N_check_pairs : List Str := ["size", "pairs", "index", "row", "weight"]
theorem sc_check_pairs : FnScope N_check_pairs ["size", "pairs"] (defScope s_check_pairs) := ⟨rfl, rfl, rfl, by decide +kernel, rfl, by decide +kernel, by decide +kernel⟩
theorem ok_check_pairs (F : Fun K "check_pairs" "check_pairs" s_check_pairs f fd) (T : Txt mg) : FnOk P w K mg base CX0 1 f fd ["size", "pairs"] (spPairs K) := by
  refine F.ok sc_check_pairs (fun vs H Q E h => ?_) (fun cdv A outer s H vs Q E hr h => ?_)
  · obtain ⟨n, v, ps, rfl, _⟩ := h
    rfl
  obtain ⟨n, v, ps, rfl, hz, hs, q⟩ := h
  obtain ⟨a, vs, rfl, ha, hl, hrow⟩ := fz_prs hz
  refine ⟨_, (pss_one (ps_for PassesOwn.never rfl (WE.pi_enT (by rfl) T.b_enumerate (pa_cons (pv 1) pa_nil)) (pg_tup rfl (pgs_cons (pg_name (i := 2) sc_check_pairs.nd rfl (Or.inl rfl)) (pgs_cons (pg_tup rfl (pgs_cons (pg_name (i := 3) sc_check_pairs.nd rfl (Or.inl rfl)) (pgs_cons (pg_name (i := 4) sc_check_pairs.nd rfl (Or.inl rfl)) pgs_nil))) pgs_nil))) (pss_cons (ps_if (pt_cmpR op_ne (pe_callB call_len_seq (by rfl) T.b_len PySem.boot_len (pa_cons (pv 3) pa_nil)) (pv 0) (nomark _)) (pss_one ps_never) pss_nil)
  (pss_one (ps_if (pt_cmpR op_lt (pv 4) pe_int (nomark _)) (pss_one ps_never) pss_nil))))), ?_⟩
  refine ⟨_, rfl, a, vs, rfl, ha, for_it (WE.walk_enT (K := K) (a := a) (xs := vs)) (fun i σ H' => ∃ v1 v2 v3 : Option V, σ = [some (.int n), some (.ref a), v1, v2, v3] ∧ Same H H') ⟨none, none, none, rfl, fun _ _ h => h⟩ (fun i σ H' _ ⟨_, _, _, _, s⟩ => Same_seqT s ha) ?_ ?_⟩
  · rintro i x σ H1 H2 hi ⟨v1, v2, v3, rfl, s1⟩ y
    have s2 := ys_pair y
    obtain ⟨Tp, x1, x2, rfl, hT, rfl, e1, e2⟩ := y
    cases e1
    obtain ⟨p, hp⟩ : ∃ p, ps[i]? = some p := ⟨_, List.getElem?_eq_getElem (by omega)⟩
    obtain ⟨q1, r1, hq1, hq2, hq3⟩ := hrow i p hp
    rw [show vs[i]? = some x2 from e2] at hq1
    cases hq1
    have s3 := s1.trans s2
    obtain ⟨h1, h2⟩ := hs p (List.mem_of_getElem? hp)
    refine ⟨_, _, rfl, SqT.of upd_same, rfl, _, _, rfl, _, _, rfl, ⟨_, _, rfl, Same_seqT s3 hq2, rfl, _, _, rfl, _, _, rfl, rfl, rfl, ?_⟩⟩
    refine ⟨_, rfl, _, _, rfl, .inr (Same_seqT s3 hq3), _, rfl, rfl, _, rfl, ifF ?_ ?_⟩
    · rw [List.length_map, h1]
      simp
    · exact ⟨_, rfl, _, _, rfl, rfl, _, rfl, ifF (decide_eq_false (by omega)) ⟨_, _, _, rfl, s3⟩⟩
  · rintro σ H' ⟨_, _, _, rfl, s1⟩
    exact q H' s1
end
end P15
namespace P15
open PySem PySem.Spec PyProof.Rows L2 SX EX WK
theorem getD_at {ns : List Int} {j : Nat} (h : j < ns.length) : (ns.map V.int)[j]? = some (.int (ns.getD j 0)) := by
  rw [List.getElem?_map, List.getD_eq_getElem?_getD, List.getElem?_eq_getElem h]
  rfl
/-- rows of n small numbers, weights from 1 on -/
def Prs (n : Nat) (ps : List RW) : Prop := ps.length ≤ 1000 ∧ ∀ p ∈ ps, p.1.length = n ∧ 1 ≤ p.2 ∧ B 1400 p.2 ∧ ∀ x ∈ p.1, B 1400 x
theorem Prs.get {n : Nat} {ps : List RW} (h : Prs n ps) {p : RW} (m : p ∈ ps) {j : Nat} (hj : j < n) : B 1400 (p.1.getD j 0) := by
  obtain ⟨h1, _, _, h4⟩ := h.2 p m
  have hl : j < p.1.length := by omega
  rw [List.getD_eq_getElem?_getD, List.getElem?_eq_getElem hl]
  exact h4 _ (List.getElem_mem hl)
section
variable {P : Program} {w : World} {K : PySem.W.Frag} {mg : Str → Option Value} {base : Heap} {f : Addr} {fd : FuncData}
def spWsum (K : PySem.W.Frag) : Sp := fun vs H Q _ => ∃ (v : V) (n i j : Nat) (ps : List RW), vs = [v, .int i, .int j] ∧ Fz K H v (.tup (ps.map tdr)) ∧ Prs n ps ∧ i < n ∧ j < n ∧ ∀ H', Same H H' → Q (.int (wsum ps i j)) H'
abbrev s_weighted_sum : Stmt := top 35
abbrev N_weighted_sum : List Str := ["pairs", "one", "two", "row", "weight"]
theorem sc_weighted_sum : FnScope N_weighted_sum ["pairs", "one", "two"] (defScope s_weighted_sum) := ⟨rfl, rfl, rfl, by decide +kernel, rfl, by decide +kernel, by decide +kernel⟩
theorem ok_weighted_sum (F : Fun K "weighted_sum" "weighted_sum" s_weighted_sum f fd) (T : Txt mg) : FnOk P w K mg base CX0 1 f fd ["pairs", "one", "two"] (spWsum K) := by
  refine F.ok sc_weighted_sum (fun vs H Q E h => ?_) (fun cdv A outer s H vs Q E hr h => ?_)
  · obtain ⟨v, n, i, j, ps, rfl, _⟩ := h
    rfl
  obtain ⟨v, n, i, j, ps, rfl, hz, hp, hi, hj, q⟩ := h
  obtain ⟨a, vs, rfl, ha, hl, hrow⟩ := fz_prs hz
  refine ⟨_, (pss_one (ps_ret (pe_callB (cr_sum rfl) (by rfl) T.b_sum (by decide +kernel) (pa_cons (pe_lc (own := [("row", 3), ("weight", 4)]) (tt := tYes) (by rfl) sc_weighted_sum.nd (pi_tup (pv 0)) (blkOk_by (N := N_weighted_sum) (sc := defScope s_weighted_sum) (by decide +kernel)) (fun _ _ _ _ _ => (pg_tupK (K := K) (n := 2) rfl rfl (pgs_cons (pg_name (i := 3) sc_weighted_sum.nd rfl (Or.inl rfl)) (pgs_cons (pg_name (i := 4) sc_weighted_sum.nd rfl (Or.inl rfl)) pgs_nil)))) (fun _ _ _ _ _ => pts_nil) (fun _ _ _ _ _ => (pe_op op_mulW (pe_op op_mulW (pv 4) (pe_ix (ix_tupK (K := K) rfl) (pv 3) (pv 1) (fun _ _ => rfl))) (pe_ix (ix_tupK (K := K) rfl) (pv 3) (pv 2) (fun _ _ => rfl))))) pa_nil)))), ?_⟩
  refine ⟨_, rfl, a, rfl, ⟨_, ha⟩, fun D hD => ?_⟩
  refine lc_m (walk_tup (K := K) (a := a) (xs := vs)) RI (stb_RI (K := K)) ps hl (by have := hp.1; omega) hD (fun H' s => Same_seqT s ha) (fun _ _ _ _ => ys_at) (fun p => p.2 * p.1.getD i 0 * p.1.getD j 0) (fun k p x H1 H2 hb s1 s2 y A B hA => ?_) (fun H' l s1 hl1 rs => ?_)
  · obtain ⟨q1, r1, hq1, hq2, hq3⟩ := hrow k p hb
    rw [y.2] at hq1
    cases hq1
    have m := List.mem_of_getElem? hb
    obtain ⟨h1, h2, h3, h4⟩ := hp.2 p m
    refine ⟨_, _, rfl, Same_seqT s2 hq2, rfl, _, _, rfl, _, _, rfl, rfl, rfl, lc_yes ?_⟩
    refine ⟨_, rfl, _, rfl, _, rfl, r1, _, _, _, rfl, rfl, Same_seqT s2 hq3, at_pos (by omega) (by rw [Int.toNat_natCast]; exact getD_at (by omega)), _, _, rfl, rfl, wmul h3 (hp.get m hi) (by decide) (by decide) (by decide), ?_⟩
    refine ⟨_, rfl, _, rfl, r1, _, _, _, rfl, rfl, Same_seqT s2 hq3, at_pos (by omega) (by rw [Int.toNat_natCast]; exact getD_at (by omega)), _, _, rfl, rfl, wmul (h3.mul (hp.get m hi)) (hp.get m hj) (by decide) (by decide) (by decide), hA _ _ (fun _ _ h => h) rfl⟩
  · exact ⟨D, _, rfl, SqL.of (by rw [hl1, rs.ints]), q H' s1⟩
def spWmat (K : PySem.W.Frag) : Sp := fun vs H Q _ => ∃ (v : V) (n : Nat) (ps : List RW), vs = [.int n, v] ∧ Fz K H v (.tup (ps.map tdr)) ∧ Prs n ps ∧ n ≤ 1000 ∧ ∀ r H', Same H H' → Sn K H' (.ref r) (tdm (wmat n ps)) → Q (.ref r) H'
theorem rl_sn {K : PySem.W.Frag} {H : Hp} {D : Addr} : ∀ {l : List V} {m : List (List Int)}, Rs (RL D) H l m → SnAll K H l (m.map fun r => .tup (r.map Td.int))
  | [], [], _ => .nil
  | [], _ :: _, h => by have := h.1; simp at this
  | _ :: _, [], h => by have := h.1; simp at this
  | v :: vs, r :: m, h => by
    obtain ⟨p, e, _, hp⟩ := h.2 0 v r rfl rfl
    refine .cons ?_ (rl_sn ⟨by have := h.1; simp at this; exact this, fun i u z hu hz => h.2 (i + 1) u z hu hz⟩)
    rw [e]
    exact .lst hp (FzAll.of_ints r).sn
abbrev s_weighted_matrix : Stmt := top 36
abbrev N_weighted_matrix : List Str := ["size", "pairs", "line", "column"]
theorem sc_weighted_matrix : FnScope N_weighted_matrix ["size", "pairs"] (defScope s_weighted_matrix) := ⟨rfl, rfl, rfl, by decide +kernel, rfl, by decide +kernel, by decide +kernel⟩
theorem ok_weighted_matrix (F : Fun K "weighted_matrix" "weighted_matrix" s_weighted_matrix f fd) (T : Txt mg) (C_weighted_sum : Cal P w K mg base 1 "weighted_sum" ["pairs", "one", "two"] (spWsum K)) : FnOk P w K mg base CX0 2 f fd ["size", "pairs"] (spWmat K) := by
  refine F.ok sc_weighted_matrix (fun vs H Q E h => ?_) (fun cdv A outer s H vs Q E hr h => ?_)
  · obtain ⟨v, n, ps, rfl, _⟩ := h
    rfl
  obtain ⟨v, n, ps, rfl, hz, hp, hn, q⟩ := h
  refine ⟨_, (pss_one (ps_ret (pe_lc (own := [("line", 2)]) (g := gName 2) (tt := tYes) (by rfl) sc_weighted_matrix.nd (pi_range1 (by rfl) T.b_range (pa_cons (pv 0) pa_nil)) (blkOk_by (N := N_weighted_matrix) (sc := defScope s_weighted_matrix) (by decide +kernel)) (fun _ _ _ _ _ => (pg_name (i := 2) sc_weighted_matrix.nd rfl (Or.inr rfl))) (fun _ _ _ _ _ => pts_nil) (fun _ _ _ _ _ => (pe_lc (own := [("column", 3)]) (g := gName 3) (tt := tYes) (by rfl) sc_weighted_matrix.nd (pi_range1 (by rfl) T.b_range (pa_cons (pv 0) pa_nil)) (blk_nest (N := N_weighted_matrix) (sc0 := defScope s_weighted_matrix) rfl (by decide +kernel)) (fun _ _ _ _ _ => (pg_name (i := 3) sc_weighted_matrix.nd rfl (Or.inl rfl))) (fun _ _ _ _ _ => pts_nil) (fun _ _ _ _ _ => (pe_cal C_weighted_sum (hr.mono (by omega)) rfl (pa_cons (pv 1) (pa_cons (pv 2) (pa_cons (pv 3) pa_nil)))))))))), ?_⟩
  refine ⟨_, rfl, n, rfl, by omega, by omega, fun D hD => ?_⟩
  refine lc_gm (walk_range (lo := 0) (n := n)) (RL D) stb_RL (List.range n) (by rw [List.length_range]) (by rw [List.length_range]; omega) hD (fun _ _ => trivial) (fun _ _ _ _ => ys_fn) (fun i => (List.range n).map fun j => wsum ps i j) (fun k i x H1 H2 hb s1 s2 y hdl A B hA => ?_) (fun H' l s1 hl1 rs => ?_)
  · have ek : k < n ∧ i = k := by
      have h1 := (List.getElem?_eq_some_iff.mp hb).1
      rw [List.length_range] at h1
      rw [List.getElem?_range h1] at hb
      exact ⟨h1, (Option.some.inj hb).symm⟩
    obtain ⟨hk, rfl⟩ := ek
    rw [y.2]
    refine ⟨rfl, lc_yes ⟨_, rfl, n, rfl, by omega, by omega, fun D2 hD2 => ?_⟩⟩
    refine lc_m (walk_range (lo := 0) (n := n)) RI (stb_RI (K := K)) (List.range n) (by rw [List.length_range]) (by rw [List.length_range]; omega) hD2 (fun _ _ => trivial) (fun _ _ _ _ => ys_fn) (fun j => wsum ps i j) (fun k2 j x2 H3 H4 hb2 s3 s4 y2 A2 B2 hA2 => ?_) (fun H' l s3 hl1 rs => ?_)
    · have ek : k2 < n ∧ j = k2 := by
        have h1 := (List.getElem?_eq_some_iff.mp hb2).1
        rw [List.length_range] at h1
        rw [List.getElem?_range h1] at hb2
        exact ⟨h1, (Option.some.inj hb2).symm⟩
      obtain ⟨hk2, rfl⟩ := ek
      rw [y2.2]
      refine ⟨rfl, lc_yes ⟨_, rfl, _, rfl, _, rfl, v, n, i, j, ps, ?_, hz.tk (WK.Same.tk (s2.trans s4)), hp, hk, hk2, fun H' s => hA2 _ _ s rfl⟩⟩
      show [v, V.int (0 + (i : Int)), V.int (0 + (j : Int))] = _
      rw [Int.zero_add, Int.zero_add]
    · refine hA _ _ s3 ⟨D2, rfl, fun z => ?_, by rw [hl1, rs.ints]⟩
      obtain ⟨l0, h0⟩ := hdl
      rw [← z, hD2] at h0
      cases h0
  · refine q D H' s1 (.lst hl1 ?_)
    have e : (wmat n ps) = (List.range n).map fun i => (List.range n).map fun j => wsum ps i j := rfl
    rw [e]
    exact rl_sn rs
end
end P15
namespace P15
open PySem PySem.Spec PyProof.Rows L2 SX EX WK
theorem putF_ne {f g : Str} {x v : V} {r : List (Str × V)} (h : ¬ g = f) : putF f v ((g, x) :: r) = (g, x) :: putF f v r := if_neg h
theorem flF (n e b : V) : putF "bottom" b (putF "entries" e (putF "size" n [])) = ([("size", n), ("entries", e), ("bottom", b)] : List (Str × V)) := by
  show putF "bottom" b (putF "entries" e [("size", n)]) = _
  rw [putF_ne (by decide +kernel)]
  show putF "bottom" b [("size", n), ("entries", e)] = _
  rw [putF_ne (by decide +kernel), putF_ne (by decide +kernel)]
  rfl
theorem dep_tdm {m : List (List Int)} : (tdm m).dep ≤ 2 := by
  simp only [tdm, Td.dep]
  have : Td.deps (m.map fun r => .tup (r.map Td.int)) ≤ 1 := deps_all fun t h => by
    obtain ⟨r, _, rfl⟩ := List.mem_map.mp h
    simp only [Td.dep]
    have : Td.deps (r.map Td.int) ≤ 0 := deps_all fun t h => by
      obtain ⟨n, _, rfl⟩ := List.mem_map.mp h
      exact Nat.le_refl _
    omega
  omega
theorem sm_ints {ns : List Int} (h : ns.length ≤ 16000000) : (Td.tup (ns.map Td.int)).sm := by
  simp only [Td.sm]
  refine ⟨by rw [List.length_map]; exact h, sms_all fun t h => ?_⟩
  obtain ⟨n, _, rfl⟩ := List.mem_map.mp h
  simp only [Td.sm]
theorem sm_tdm {m : List (List Int)} (h : m.length ≤ 16000000) (hr : ∀ r ∈ m, r.length ≤ 16000000) : (tdm m).sm := by
  simp only [tdm, Td.sm]
  refine ⟨by rw [List.length_map]; exact h, sms_all fun t h => ?_⟩
  obtain ⟨r, hm, rfl⟩ := List.mem_map.mp h
  exact sm_ints (hr r hm)
theorem flat_len {n : Nat} : ∀ {m : List (List Int)}, (∀ r ∈ m, r.length = n) → m.flatten.length = m.length * n
  | [], _ => by simp
  | r :: m, h => by
    rw [List.flatten_cons, List.length_append, flat_len fun x hx => h x (List.mem_cons_of_mem _ hx), h r List.mem_cons_self, List.length_cons, Nat.succ_mul]
    omega
theorem flat_row {n : Nat} : ∀ {m : List (List Int)} {i : Nat} {r : List Int}, (∀ r ∈ m, r.length = n) → m[i]? = some r → (m.flatten.drop (i * n)).take n = r
  | [], i, r, _, h => by simp at h
  | x :: m, 0, r, hl, h => by
    cases h
    rw [Nat.zero_mul, List.drop_zero, List.flatten_cons, List.take_left' (hl x List.mem_cons_self)]
  | x :: m, i + 1, r, hl, h => by
    have hx := hl x List.mem_cons_self
    rw [List.flatten_cons, Nat.succ_mul, Nat.add_comm, List.drop_append, List.drop_of_length_le (by omega), List.nil_append]
    have e : n + i * n - x.length = i * n := by omega
    rw [e]
    exact flat_row (fun y hy => hl y (List.mem_cons_of_mem _ hy)) (by simpa using h)
theorem flat_take {m : List (List Int)} {i : Nat} {r : List Int} (h : m[i]? = some r) : (m.take (i + 1)).flatten = (m.take i).flatten ++ r := by
  rw [take_one h, List.flatten_append]
  simp
/-- a form -/
def FormAt (K : PySem.W.Frag) (H : Hp) (C p : Addr) (n : Nat) (m : List (List Int)) (b : Int) : Prop := ∃ dx e, H p = some (.ins C dx [("size", .int n), ("entries", .ref e), ("bottom", .int b)]) ∧ Fz K H (.ref e) (tdm m)
/-- all but the thing at a stays -/
def But (a : Addr) (H H' : Hp) : Prop := ∀ c o, H c = some o → c ≠ a → H' c = some o
theorem But.of {a : Addr} {H H' : Hp} (s : Same H H') : But a H H' := fun c o e _ => s c o e
theorem But.put {a : Addr} {H H' : Hp} (s : But a H H') (o : HO) : But a H (upd H' a o) := fun c u e h => by rw [upd_ne h]; exact s c u e h
theorem But.then {a : Addr} {H H' H2 : Hp} (s : But a H H') (t : Same H' H2) : But a H H2 := fun c u e h => t c u (s c u e h)
def dm (m : List (List Int)) (g : Int) : List (List Int) := m.map fun r => r.map fun x => x / g
theorem sIx_of {n d : Nat} {z : Int} {k : Nat} (e : z = (k : Int)) (h : k ≤ n) : HT.sIx n d (some z) = k := by
  rw [e, HT.sIx_nat]
  omega
def spForm (K : PySem.W.Frag) (C : Addr) : Sp := fun vs H Q _ => ∃ (a dx : Addr) (v : V) (m : List (List Int)) (b : Int), vs = [.ref a, v, .int b] ∧ H a = some (.ins C dx []) ∧ Sn K H v (tdm m) ∧ Sqr m ∧ Sym m ∧ m.length ≤ 300 ∧ 0 < b ∧ B 9000 b ∧
  ∀ H', FormAt K H' C a m.length (dm m (gf b m.flatten)) (b / gf b m.flatten) → But a H H' → Q .non H'
section
variable {P : Program} {w : World} {K : PySem.W.Frag} {mg : Str → Option Value} {base : Heap} {f : Addr} {fd : FuncData} {cF cR : Addr}
abbrev s_iForm : Stmt := mth 32 0
abbrev N_iForm : List Str := ["self", "entries", "bottom", "lines", "size", "numbers", "least_bottom", "line", "number", "row"]
theorem sc_iForm : FnScope N_iForm ["self", "entries", "bottom"] (defScope s_iForm) := ⟨rfl, rfl, rfl, by decide +kernel, rfl, by decide +kernel, by decide +kernel⟩
theorem ok_iForm {kws : List (Str × V)} (F : FunD K "__init__" "Form.__init__" (defArgs s_iForm) (defBody s_iForm) (defScope s_iForm) [] kws f fd) (T : Txt mg) (O : Obs K cF cR) (C_frozen : Cal P w K mg base 3 "frozen" ["value"] (spFz K 3)) (C_check_square : Cal P w K mg base 1 "check_square" ["lines"] (spSquare K))
    (C_check_symmetric : Cal P w K mg base 1 "check_symmetric" ["lines"] (spSymm K)) (C_lowered : Cal P w K mg base 1 "lowered" ["numbers", "bottom"] spLow) : FnOk P w K mg base CX0 4 f fd ["self", "entries", "bottom"] (spForm K cF) := by
  refine F.ok sc_iForm (fun vs H Q E h => ?_) (fun cdv A outer s H vs Q E hr h => ?_)
  · obtain ⟨a, dx, v, m, b, rfl, _⟩ := h
    rfl
  obtain ⟨a, dx, v, m, b, rfl, hself, hv, hsq, hsy, hn, hb, hB, q⟩ := h
  refine ⟨_, (pss_cons (ps_set (i := 3) sc_iForm.nd rfl (Or.inl rfl) (pe_cal C_frozen (hr.mono (by omega)) rfl (pa_cons (pv 1) pa_nil)))
  (pss_cons (ps_expr (pe_cal C_check_square (hr.mono (by omega)) rfl (pa_cons (pv 3) pa_nil)))
  (pss_cons (ps_expr (pe_cal C_check_symmetric (hr.mono (by omega)) rfl (pa_cons (pv 3) pa_nil)))
  (pss_cons (ps_set (i := 4) sc_iForm.nd rfl (Or.inr rfl) (pe_callB call_len_seq (by rfl) T.b_len PySem.boot_len (pa_cons (pv 3) pa_nil)))
  (pss_cons (ps_asg (pe_cal C_lowered (hr.mono (by omega)) rfl (pa_cons (pe_lc2 (own := [("line", 7), ("number", 8)]) (vs1 := [8]) (g := gName 7) (tt := tYes) (g1 := gName 8) (tt1 := tYes) (by rfl) sc_iForm.nd (pi_tup (pv 3)) (blkOk_by (N := N_iForm) (sc := defScope s_iForm) (by decide +kernel)) (by decide) (fun _ _ _ _ _ => (pg_name (i := 7) sc_iForm.nd rfl (Or.inl rfl))) (fun _ _ _ _ _ => pts_nil) (fun _ _ _ _ _ => (pi_tupK (K := K) rfl (pv 7))) (fun _ _ _ _ _ => (pg_name (i := 8) sc_iForm.nd rfl (Or.inl rfl))) (fun _ _ _ _ _ => pts_nil) (fun _ _ _ _ _ => (pv 8))) (pa_cons (pv 2) pa_nil))) (pg_tup rfl (pgs_cons (pg_name (i := 5) sc_iForm.nd rfl (Or.inr rfl)) (pgs_cons (pg_name (i := 6) sc_iForm.nd rfl (Or.inl rfl)) pgs_nil))))
  (pss_cons (ps_fld (pv 0) (pv 4) rfl)
  (pss_cons (ps_fld (pv 0) (pe_callTy call_tuple_of (by rfl) T.b_tuple (by decide +kernel) (pa_cons (pe_lc (own := [("row", 9)]) (g := gName 9) (tt := tYes) (by rfl) sc_iForm.nd (pi_range1 (by rfl) T.b_range (pa_cons (pv 4) pa_nil)) (blkOk_by (N := N_iForm) (sc := defScope s_iForm) (by decide +kernel)) (fun _ _ _ _ _ => (pg_name (i := 9) sc_iForm.nd rfl (Or.inl rfl))) (fun _ _ _ _ _ => pts_nil) (fun _ _ _ _ _ => (pe_slice (sl_tupAK (K := K) rfl) (pv 5) (po_some (pe_op op_mulW (pv 9) (pv 4))) (po_some (pe_op op_add (pe_op op_mulW (pv 9) (pv 4)) (pv 4)))))) pa_nil)) rfl)
  (pss_one (ps_fld (pv 0) (pv 6) rfl))))))))), ?_⟩
  have hrl : ∀ r ∈ m, r.length ≤ 16000000 := fun r hr => by rw [hsq r hr]; omega
  refine ⟨_, rfl, _, tdm m, rfl, hv, Nat.le_trans dep_tdm (by omega), sm_tdm (by omega) hrl, fun v1 H1 s1 hz1 => ?_⟩
  refine ⟨_, rfl, _, m, rfl, hz1, hsq, fun H2 s2 => ?_⟩
  have hz2 := hz1.tk (WK.Same.tk s2)
  refine ⟨_, rfl, _, m, rfl, hz2, hsq, hsy, by omega, ?_⟩
  obtain ⟨e, vs, rfl, he, hl, hrow⟩ := fz_mat hz2
  refine ⟨_, rfl, _, _, rfl, .inr he, ?_⟩
  have hfl := flat_len hsq
  have hfn : m.flatten.length ≤ 16000000 := by
    rw [hfl]
    exact Nat.le_trans (Nat.mul_le_mul hn hn) (by decide)
  refine ⟨_, rfl, e, rfl, ⟨_, he⟩, fun D hD => ?_⟩
  refine ⟨fun i k H3 => k = m.length - i ∧ i ≤ m.length ∧ Same H2 H3 ∧ H3 D = some (.lst (((m.take i).flatten).map V.int)), ⟨_, rfl, Nat.zero_le _, same_new hD _, by rw [upd_same, List.take_zero]; rfl⟩, ?_⟩
  rintro i k H3 ⟨rfl, hi, s3, h3⟩
  by_cases hlt : i < m.length
  · obtain ⟨r, hr1⟩ : ∃ r, m[i]? = some r := ⟨_, List.getElem?_eq_getElem hlt⟩
    obtain ⟨p, hp, hpr⟩ := hrow i r hr1
    have hrn := hsq r (List.mem_of_getElem? hr1)
    refine .inr ⟨⟨vs, _, Same_seqT s3 he, hp⟩, fun H4 => Same H2 H4 ∧ H4 D = some (.lst (((m.take (i + 1)).flatten).map V.int)), fun H4 h4 => ⟨_, by omega, rfl, hlt, h4.1, h4.2⟩, ?_⟩
    rintro x H4 ⟨rfl, hx⟩
    have hx2 := hx vs (Same_seqT s3 he)
    rw [hp] at hx2
    cases hx2
    refine ⟨rfl, lc_yes ⟨_, rfl, p, rfl, ⟨_, Same_seqT s3 hpr⟩, ?_⟩⟩
    refine ⟨fun j k H5 => k = r.length - j ∧ j ≤ r.length ∧ Same H2 H5 ∧ H5 D = some (.lst (((m.take i).flatten ++ r.take j).map V.int)), ⟨_, rfl, Nat.zero_le _, s3, by rw [List.take_zero, List.append_nil]; exact h3⟩, ?_⟩
    rintro j k H5 ⟨rfl, hj, s5, h5⟩
    by_cases hjlt : j < r.length
    · have hy : r[j]? = some r[j] := List.getElem?_eq_getElem hjlt
      refine .inr ⟨⟨r.map V.int, .int r[j], Same_seqT s5 hpr, at_int hy⟩, fun H6 => Same H2 H6 ∧ H6 D = some (.lst (((m.take i).flatten ++ r.take (j + 1)).map V.int)), fun H6 h6 => ⟨_, by omega, rfl, hjlt, h6.1, h6.2⟩, ?_⟩
      rintro x H6 ⟨rfl, hx⟩
      have hx2 := hx _ (Same_seqT s5 hpr)
      rw [at_int hy] at hx2
      cases hx2
      refine ⟨rfl, lc_yes ⟨_, rfl, _, h5, ?_, same_at s5 hD, ?_⟩⟩
      · refine sizes (Nat.le_trans ?_ hfn)
        rw [List.length_map, List.length_append, List.length_take, flat_len (n := m.length) (fun x hx => hsq x (List.mem_of_mem_take hx)), List.length_take, hfl]
        have h1 : (min i m.length + 1) * m.length ≤ m.length * m.length := Nat.mul_le_mul_right _ (by omega)
        rw [Nat.add_mul, Nat.one_mul] at h1
        omega
      · rw [upd_same, take_one hy, ← List.append_assoc, List.map_append (l₂ := [r[j]])]
        rfl
    · have ej : j = r.length := by omega
      refine .inl ⟨⟨_, Same_seqT s5 hpr, by rw [List.length_map, ej]; exact Nat.le_refl _⟩, s5, ?_⟩
      rw [h5, ej, List.take_length, flat_take hr1]
  · have ei : i = m.length := by omega
    refine .inl ⟨⟨vs, Same_seqT s3 he, by omega⟩, ?_⟩
    rw [ei, List.take_length] at h3
    clear hlt hi
    refine ⟨_, rfl, D, m.flatten, b, rfl, h3, hb, hB, hfn, fun r t H5 s5 hr5 ht5 => ?_⟩
    have hg := gf_pos hb m.flatten
    refine ⟨_, _, rfl, SqT.of hr5, rfl, _, _, rfl, _, _, rfl, rfl, ?_⟩
    have sA : Same H H5 := s1.trans (s2.trans (s3.trans s5))
    refine ⟨_, rfl, _, rfl, a, cF, dx, _, rfl, sA _ _ hself, O.clF, O.F_size, (by show 0 < 1000; decide), ?_⟩
    generalize hH6 : upd H5 a _ = H6
    have hs6 : H6 a = some (.ins cF dx (putF "size" (.int (vs.length : Nat)) [])) := by rw [← hH6, upd_same]
    have b6 : But a H H6 := by rw [← hH6]; exact (But.of sA).put _
    have ht6 : SqT K H6 t ((m.flatten.map fun n => n / gf b m.flatten).map V.int) := by
      refine .inl (.inl ?_)
      rw [← hH6, upd_ne (ne_of ht5 (sA _ _ hself) (by intro z; cases z))]
      exact ht5
    refine ⟨_, rfl, _, rfl, by omega, by omega, fun D2 hD2 => ?_⟩
    refine lc_m (walk_range (lo := 0) (n := (vs.length : Int).toNat)) (Fz K) stb_Fz (List.range m.length) (by rw [List.length_range]; omega) (by rw [List.length_range]; omega) hD2 (fun _ _ => trivial) (fun _ _ _ _ => ys_fn) (fun i => .tup (((dm m (gf b m.flatten)).getD i []).map Td.int)) (fun k i x H7 H8 hb2 s7 s8 y A2 B2 hA => ?_) (fun H7 l s7 hl7 rs => ?_)
    · have ek : k < m.length ∧ i = k := by
        have h1 := (List.getElem?_eq_some_iff.mp hb2).1
        rw [List.length_range] at h1
        rw [List.getElem?_range h1] at hb2
        exact ⟨h1, (Option.some.inj hb2).symm⟩
      obtain ⟨hk, rfl⟩ := ek
      rw [y.2]
      have cm : CMulW (0 + (i : Int)) ((vs.length : Nat) : Int) := wmul (m := 20) (n := 20) (by show (0 + (i : Int)).natAbs < 2 ^ 20; omega) (by show ((vs.length : Nat) : Int).natAbs < 2 ^ 20; omega) (by decide) (by decide) (by decide)
      refine ⟨rfl, lc_yes ⟨_, rfl, _, rfl, _, rfl, _, _, rfl, rfl, cm, _, rfl, _, rfl, _, rfl, _, _, rfl, rfl, cm, _, rfl, _, _, rfl, rfl, _, rfl, ?_⟩⟩
      have hdr : (dm m (gf b m.flatten))[i]? = some (((m[i]).map fun x => x / gf b m.flatten)) := by
        unfold dm
        rw [List.getElem?_map, List.getElem?_eq_getElem hk]
        rfl
      have hdl : ∀ r ∈ dm m (gf b m.flatten), r.length = m.length := fun r hr => by
        obtain ⟨r0, h0, rfl⟩ := List.mem_map.mp hr
        rw [List.length_map]
        exact hsq r0 h0
      have hfr := flat_row hdl hdr
      have hff : (dm m (gf b m.flatten)).flatten = m.flatten.map fun n => n / gf b m.flatten := by
        unfold dm
        rw [List.map_flatten]
      rw [hff] at hfr
      have hgd : (dm m (gf b m.flatten)).getD i [] = (m[i]).map fun x => x / gf b m.flatten := by
        rw [List.getD_eq_getElem?_getD, hdr]
        rfl
      have hN : ((m.flatten.map fun n => n / gf b m.flatten).map V.int).length = m.length * m.length := by rw [List.length_map, List.length_map, hfl]
      have hmul : i * m.length + m.length ≤ m.length * m.length := by
        have h1 : (i + 1) * m.length ≤ m.length * m.length := Nat.mul_le_mul_right _ hk
        rw [Nat.add_mul, Nat.one_mul] at h1
        exact h1
      have e1 : HT.sIx ((m.flatten.map fun n => n / gf b m.flatten).map V.int).length 0 (some ((0 + (i : Int)) * ((vs.length : Nat) : Int))) = i * m.length := sIx_of (by rw [hl, Int.zero_add]; exact (Int.natCast_mul _ _).symm) (by rw [hN]; omega)
      have e2 : HT.sIx ((m.flatten.map fun n => n / gf b m.flatten).map V.int).length ((m.flatten.map fun n => n / gf b m.flatten).map V.int).length (some ((0 + (i : Int)) * ((vs.length : Nat) : Int) + ((vs.length : Nat) : Int))) = i * m.length + m.length := sIx_of (by rw [hl, Int.zero_add, ← Int.natCast_mul, ← Int.natCast_add]) (by rw [hN]; exact hmul)
      have hcut : cutV ((m.flatten.map fun n => n / gf b m.flatten).map V.int) (some ((0 + (i : Int)) * ((vs.length : Nat) : Int))) (some ((0 + (i : Int)) * ((vs.length : Nat) : Int) + ((vs.length : Nat) : Int))) = ((m[i]).map fun x => x / gf b m.flatten).map V.int := by
        unfold cutV
        rw [e1, e2, Nat.add_sub_cancel_left, ← List.map_drop, ← List.map_take, hfr]
      have hfz : ∀ {H9 : Hp} {p : Addr}, SqT K H9 p (((m[i]).map fun x => x / gf b m.flatten).map V.int) → Fz K H9 (.ref p) (.tup (((dm m (gf b m.flatten)).getD i []).map Td.int)) := fun h => by
        rw [hgd]
        exact .tup h (FzAll.of_ints _)
      refine ⟨t, _, rfl, Same_seqT s8 ht6, fun hw => ?_, fun _ p hp => ?_⟩
      · refine hA _ _ (fun _ _ h => h) (hfz ?_)
        rw [e1, e2] at hw
        rw [← hcut]
        unfold cutV
        rw [e1, e2, hw.2, hw.1, List.drop_zero, Nat.sub_zero, List.take_length]
        exact Same_seqT s8 ht6
      · refine hA _ _ (same_new hp _) (hfz (SqT.of ?_))
        rw [upd_same, hcut]
    · refine ⟨D2, l, rfl, .inl ⟨SqL.of hl7, fun t2 ht2 => ?_⟩⟩
      have sB : Same H6 (upd H7 t2 (.tup l)) := s7.trans (same_new ht2 _)
      refine ⟨_, rfl, a, cF, dx, _, rfl, sB _ _ hs6, O.clF, O.F_entries, (by show 1 < 1000; decide), ?_⟩
      refine ⟨_, rfl, _, rfl, a, cF, dx, _, rfl, upd_same, O.clF, O.F_bottom, (by show 2 < 1000; decide), ?_⟩
      have hfz : FzAll K H7 l ((dm m (gf b m.flatten)).map fun r => .tup (r.map Td.int)) := by
        have e : ((List.range m.length).map fun i => Td.tup (((dm m (gf b m.flatten)).getD i []).map Td.int)) = (dm m (gf b m.flatten)).map fun r => .tup (r.map Td.int) := by
          refine List.ext_getElem? fun i => ?_
          rw [List.getElem?_map, List.getElem?_map]
          have hdl : (dm m (gf b m.flatten)).length = m.length := by unfold dm; rw [List.length_map]
          by_cases hi : i < m.length
          · rw [List.getElem?_range hi, List.getElem?_eq_getElem (by omega : i < (dm m (gf b m.flatten)).length)]
            show some (Td.tup (((dm m (gf b m.flatten)).getD i []).map Td.int)) = _
            rw [List.getD_eq_getElem?_getD, List.getElem?_eq_getElem (by omega : i < (dm m (gf b m.flatten)).length)]
            rfl
          · rw [List.getElem?_eq_none (by rw [List.length_range]; omega), List.getElem?_eq_none (by omega)]
            rfl
        rw [← e]
        exact rs.fz
      have tkB : Tk K H7 (upd (upd (upd H7 t2 (.tup l)) a (.ins cF dx (putF "entries" (.ref t2) (putF "size" (.int (vs.length : Nat)) [])))) a (.ins cF dx (putF "bottom" (.int (b / gf b m.flatten)) (putF "entries" (.ref t2) (putF "size" (.int (vs.length : Nat)) []))))) := fun x ys h => by
        have h1 := Same_seqT (same_new ht2 (.tup l)) h
        have h2 : (upd H7 t2 (.tup l)) a = some (.ins cF dx (putF "size" (.int (vs.length : Nat)) [])) := sB _ _ hs6
        have h3 := tk_ins (K := K) h2 (H' := upd (upd H7 t2 (.tup l)) a (.ins cF dx (putF "entries" (.ref t2) (putF "size" (.int (vs.length : Nat)) [])))) (fun c o hc e => by rw [upd_ne hc]; exact e) _ _ h1
        exact tk_ins (K := K) (upd_same (H := upd H7 t2 (.tup l)) (a := a)) (fun c o hc e => by rw [upd_ne hc]; exact e) _ _ h3
      refine q _ ⟨dx, t2, ?_, .tup ?_ (hfz.tk tkB)⟩ (((b6.then sB).put _).put _)
      · rw [upd_same, hl, flF]
      · have h1 : SqT K (upd H7 t2 (.tup l)) t2 l := SqT.of upd_same
        have h2 : (upd H7 t2 (.tup l)) a = some (.ins cF dx (putF "size" (.int (vs.length : Nat)) [])) := sB _ _ hs6
        have h3 := tk_ins (K := K) h2 (H' := upd (upd H7 t2 (.tup l)) a (.ins cF dx (putF "entries" (.ref t2) (putF "size" (.int (vs.length : Nat)) [])))) (fun c o hc e => by rw [upd_ne hc]; exact e) _ _ h1
        exact tk_ins (K := K) (upd_same (H := upd H7 t2 (.tup l)) (a := a)) (fun c o hc e => by rw [upd_ne hc]; exact e) _ _ h3
end
end P15
namespace P15
open PySem PySem.Spec PyProof.Rows L2 SX EX WK
theorem flR (n e b F : V) : putF "form" F (putF "bottom" b (putF "pairs" e (putF "size" n []))) = ([("size", n), ("pairs", e), ("bottom", b), ("form", F)] : List (Str × V)) := by
  show putF "form" F (putF "bottom" b (putF "pairs" e [("size", n)])) = _
  rw [putF_ne (by decide +kernel)]
  show putF "form" F (putF "bottom" b [("size", n), ("pairs", e)]) = _
  rw [putF_ne (by decide +kernel), putF_ne (by decide +kernel)]
  show putF "form" F [("size", n), ("pairs", e), ("bottom", b)] = _
  rw [putF_ne (by decide +kernel), putF_ne (by decide +kernel), putF_ne (by decide +kernel)]
  rfl
def ws (ps : List RW) : List Int := ps.map (·.2)
def dp (ps : List RW) (g : Int) : List RW := ps.map fun p => (p.1, p.2 / g)
theorem quot_pos {x g : Int} (hg : 0 < g) (hd : g ∣ x) (hx : 1 ≤ x) : 1 ≤ x / g := by
  obtain ⟨k, rfl⟩ := hd
  rw [Int.mul_ediv_cancel_left _ (by omega)]
  rcases Int.lt_or_le k 1 with h | h
  · have : g * k ≤ 0 := Int.mul_nonpos_of_nonneg_of_nonpos (by omega) (by omega)
    omega
  · exact h
theorem prs_dp {n : Nat} {ps : List RW} {b : Int} (h : Prs n ps) (hb : 0 < b) : Prs n (dp ps (gf b (ws ps))) := by
  refine ⟨by unfold dp; rw [List.length_map]; exact h.1, fun p hp => ?_⟩
  obtain ⟨p0, h0, rfl⟩ := List.mem_map.mp hp
  obtain ⟨h1, h2, h3, h4⟩ := h.2 p0 h0
  exact ⟨h1, quot_pos (gf_pos hb _) ((gf_dvd _).2 _ (List.mem_map.mpr ⟨p0, h0, rfl⟩)) h2, B.div (gf_pos hb _) h3, h4⟩
theorem dep_prs {ps : List RW} : (Td.tup (ps.map tdr)).dep ≤ 3 := by
  simp only [Td.dep]
  have : Td.deps (ps.map tdr) ≤ 2 := deps_all fun t h => by
    obtain ⟨p, _, rfl⟩ := List.mem_map.mp h
    simp only [tdr, Td.dep, Td.deps]
    have : Td.deps (p.1.map Td.int) ≤ 0 := deps_all fun t h => by
      obtain ⟨n, _, rfl⟩ := List.mem_map.mp h
      exact Nat.le_refl _
    omega
  omega
theorem sm_prs {ps : List RW} (h : ps.length ≤ 16000000) (hr : ∀ p ∈ ps, p.1.length ≤ 16000000) : (Td.tup (ps.map tdr)).sm := by
  simp only [Td.sm]
  refine ⟨by rw [List.length_map]; exact h, sms_all fun t h => ?_⟩
  obtain ⟨p, hm, rfl⟩ := List.mem_map.mp h
  show (Td.tup [.tup (p.1.map Td.int), .int p.2]).sm
  simp only [Td.sm, Td.sms]
  have := sm_ints (hr p hm)
  simp only [Td.sm] at this
  exact ⟨by simp, this, trivial, trivial⟩
/-- the form of a row list -/
def fmat (n : Nat) (ps : List RW) (b : Int) : List (List Int) := dm (wmat n ps) (gf b (wmat n ps).flatten)
def fbot (n : Nat) (ps : List RW) (b : Int) : Int := b / gf b (wmat n ps).flatten
theorem wmat_len {n : Nat} {ps : List RW} : (wmat n ps).length = n := by unfold wmat; rw [List.length_map, List.length_range]
theorem wmat_sqr {n : Nat} {ps : List RW} : Sqr (wmat n ps) := fun r hr => by
  rw [wmat_len]
  obtain ⟨i, _, rfl⟩ := List.mem_map.mp hr
  rw [List.length_map, List.length_range]
theorem wmat_ent {n : Nat} {ps : List RW} {i j : Nat} : ent (wmat n ps) i j = if i < n ∧ j < n then wsum ps i j else 0 := by
  unfold ent wmat
  by_cases hi : i < n
  · have e : ((List.range n).map fun i => (List.range n).map fun j => wsum ps i j).getD i [] = (List.range n).map fun j => wsum ps i j := by
      rw [List.getD_eq_getElem?_getD, List.getElem?_map, List.getElem?_range hi]
      rfl
    rw [e]
    by_cases hj : j < n
    · rw [List.getD_eq_getElem?_getD, List.getElem?_map, List.getElem?_range hj, if_pos ⟨hi, hj⟩]
      rfl
    · rw [List.getD_eq_getElem?_getD, List.getElem?_eq_none (by rw [List.length_map, List.length_range]; omega), if_neg (fun h => hj h.2)]
      rfl
  · rw [if_neg (fun h => hi h.1), show ((List.range n).map fun i => (List.range n).map fun j => wsum ps i j).getD i [] = [] from by
      rw [List.getD_eq_getElem?_getD, List.getElem?_eq_none (by rw [List.length_map, List.length_range]; omega)]
      rfl]
    rfl
theorem wmat_sym {n : Nat} {ps : List RW} : Sym (wmat n ps) := fun i j => by
  rw [wmat_ent, wmat_ent, wsum_sym]
  by_cases h : i < n ∧ j < n
  · rw [if_pos h, if_pos ⟨h.2, h.1⟩]
  · rw [if_neg h, if_neg fun g => h ⟨g.2, g.1⟩]
/-- a row list -/
def RowsAt (K : PySem.W.Frag) (H : Hp) (cF cR p : Addr) (n : Nat) (ps : List RW) (b : Int) : Prop := ∃ dx q F, H p = some (.ins cR dx [("size", .int n), ("pairs", .ref q), ("bottom", .int b), ("form", .ref F)]) ∧ Fz K H (.ref q) (.tup (ps.map tdr)) ∧ FormAt K H cF F n (fmat n ps b) (fbot n ps b)
theorem But.tk {K : PySem.W.Frag} {a C dx : Addr} {l : List (Str × V)} {H H' : Hp} (h : H a = some (.ins C dx l)) (e : But a H H') : Tk K H H' := tk_ins h fun b o hb eo => e b o eo hb
theorem But.trans {a : Addr} {H H' H2 : Hp} (s : But a H H') (t : But a H' H2) : But a H H2 := fun c u e h => t c u (s c u e h) h
theorem FormAt.at {K : PySem.W.Frag} {H H' : Hp} {C p : Addr} {n : Nat} {m : List (List Int)} {b : Int} (h : FormAt K H C p n m b) (e : ∀ o, H p = some o → H' p = some o) (t : Tk K H H') : FormAt K H' C p n m b := by
  obtain ⟨dx, q, h1, h2⟩ := h
  exact ⟨dx, q, e _ h1, h2.tk t⟩
theorem RowsAt.at {K : PySem.W.Frag} {H H' : Hp} {cF cR p : Addr} {n : Nat} {ps : List RW} {b : Int} (h : RowsAt K H cF cR p n ps b) (e : Same H H') : RowsAt K H' cF cR p n ps b := by
  obtain ⟨dx, q, F, h1, h2, h3⟩ := h
  exact ⟨dx, q, F, e _ _ h1, h2.tk (WK.Same.tk e), h3.at (fun o => e _ _) (WK.Same.tk e)⟩
/-- a new thing is made and filled -/
theorem made_same {H H' : Hp} {x dx : Addr} {u o : HO} (hx : H x = none) (hd : H dx = none) (e : But x (upd (upd H dx u) x o) H') : Same H H' := fun c v h => by
  have h1 := ne_of_none h hx
  refine e c v ?_ h1
  rw [upd_ne h1, upd_ne (ne_of_none h hd)]
  exact h
theorem new_two {H : Hp} {x dx : Addr} {u o : HO} (hx : H x = none) (hd : H dx = none) : Same H (upd (upd H dx u) x o) := fun c v h => by
  rw [upd_ne (ne_of_none h hx), upd_ne (ne_of_none h hd)]
  exact h
def spRows (K : PySem.W.Frag) (cF cR : Addr) : Sp := fun vs H Q _ => ∃ (a dx : Addr) (v : V) (n : Nat) (ps : List RW) (b : Int), vs = [.ref a, .int n, v, .int b] ∧ H a = some (.ins cR dx []) ∧ Sn K H v (.tup (ps.map tdr)) ∧ Prs n ps ∧ n ≤ 300 ∧ 0 < b ∧ B 9000 b ∧
  ∀ H', RowsAt K H' cF cR a n (dp ps (gf b (ws ps))) (b / gf b (ws ps)) → But a H H' → Q .non H'
section
variable {P : Program} {w : World} {K : PySem.W.Frag} {mg : Str → Option Value} {base : Heap} {f : Addr} {fd : FuncData} {cF cR : Addr}
abbrev s_iRowList : Stmt := mth 37 0
abbrev N_iRowList : List Str := ["self", "size", "pairs", "bottom", "passed", "weights", "least_bottom", "pair", "weight"]
theorem sc_iRowList : FnScope N_iRowList ["self", "size", "pairs", "bottom"] (defScope s_iRowList) := ⟨rfl, rfl, rfl, by decide +kernel, rfl, by decide +kernel, by decide +kernel⟩
theorem ok_iRowList {kws : List (Str × V)} (F : FunD K "__init__" "RowList.__init__" (defArgs s_iRowList) (defBody s_iRowList) (defScope s_iRowList) [] kws f fd) (T : Txt mg) (O : Obs K cF cR) (C_frozen : Cal P w K mg base 3 "frozen" ["value"] (spFz K 3)) (C_check_pairs : Cal P w K mg base 1 "check_pairs" ["size", "pairs"] (spPairs K))
    (C_lowered : Cal P w K mg base 1 "lowered" ["numbers", "bottom"] spLow) (C_weighted_matrix : Cal P w K mg base 2 "weighted_matrix" ["size", "pairs"] (spWmat K)) (C_Form : CalK P w K mg base 4 "Form" cF 1 ["bottom"] (spForm K cF)) : FnOk P w K mg base CX0 6 f fd ["self", "size", "pairs", "bottom"] (spRows K cF cR) := by
  refine F.ok sc_iRowList (fun vs H Q E h => ?_) (fun cdv A outer s H vs Q E hr h => ?_)
  · obtain ⟨a, dx, v, n, ps, b, rfl, _⟩ := h
    rfl
  obtain ⟨a, dx, v, n, ps, b, rfl, hself, hv, hps, hn, hb, hB, q⟩ := h
  refine ⟨_, (pss_cons (ps_set (i := 4) sc_iRowList.nd rfl (Or.inl rfl) (pe_cal C_frozen (hr.mono (by omega)) rfl (pa_cons (pv 2) pa_nil)))
  (pss_cons (ps_expr (pe_cal C_check_pairs (hr.mono (by omega)) rfl (pa_cons (pv 1) (pa_cons (pv 4) pa_nil))))
  (pss_cons (ps_asg (pe_cal C_lowered (hr.mono (by omega)) rfl (pa_cons (pe_lc (own := [("pair", 7)]) (g := gName 7) (tt := tYes) (by rfl) sc_iRowList.nd (pi_tup (pv 4)) (blkOk_by (N := N_iRowList) (sc := defScope s_iRowList) (by decide +kernel)) (fun _ _ _ _ _ => (pg_name (i := 7) sc_iRowList.nd rfl (Or.inl rfl))) (fun _ _ _ _ _ => pts_nil) (fun _ _ _ _ _ => (pe_ix (ix_tupK (K := K) rfl) (pv 7) pe_int (fun _ _ => rfl)))) (pa_cons (pv 3) pa_nil))) (pg_tup rfl (pgs_cons (pg_name (i := 5) sc_iRowList.nd rfl (Or.inl rfl)) (pgs_cons (pg_name (i := 6) sc_iRowList.nd rfl (Or.inl rfl)) pgs_nil))))
  (pss_cons (ps_fld (pv 0) (pv 1) rfl)
  (pss_cons (ps_fld (pv 0) (pe_callTy call_tuple_of (by rfl) T.b_tuple (by decide +kernel) (pa_cons (pe_lc (own := [("pair", 7), ("weight", 8)]) (tt := tYes) (by rfl) sc_iRowList.nd (RZ.pi_zipA (by rfl) T.b_zip (pa_cons (pv 4) (pa_cons (pv 5) pa_nil))) (blkOk_by (N := N_iRowList) (sc := defScope s_iRowList) (by decide +kernel)) (fun _ _ _ _ _ => (pg_tupK (K := K) (n := 2) rfl rfl (pgs_cons (pg_name (i := 7) sc_iRowList.nd rfl (Or.inl rfl)) (pgs_cons (pg_name (i := 8) sc_iRowList.nd rfl (Or.inl rfl)) pgs_nil)))) (fun _ _ _ _ _ => pts_nil) (fun _ _ _ _ _ => (pe_tup (pa_cons (pe_ix (ix_tupK (K := K) rfl) (pv 7) pe_int (fun _ _ => rfl)) (pa_cons (pv 8) pa_nil))))) pa_nil)) rfl)
  (pss_cons (ps_fld (pv 0) (pv 6) rfl)
  (pss_one (ps_fld (pv 0) (pe_calK C_Form (hr.mono (by omega)) rfl (pa_cons (pe_cal C_weighted_matrix (hr.mono (by omega)) rfl (pa_cons (pv 1) (pa_cons (pe_fld (pv 0) rfl) pa_nil))) pa_nil) (pk_cons (pv 6) pk_nil)) rfl)))))))), ?_⟩
  have hpl := hps.1
  refine ⟨_, rfl, _, _, rfl, hv, dep_prs, sm_prs (by omega) (fun p hp => by rw [(hps.2 p hp).1]; omega), fun v1 H1 s1 hz1 => ?_⟩
  refine ⟨_, rfl, _, rfl, n, _, ps, rfl, hz1, fun p hp => ⟨(hps.2 p hp).1, (hps.2 p hp).2.1⟩, fun H2 s2 => ?_⟩
  have hz2 := hz1.tk (WK.Same.tk s2)
  obtain ⟨e, vs, rfl, he, hl, hrow⟩ := fz_prs hz2
  refine ⟨_, rfl, e, rfl, ⟨_, he⟩, fun D hD => ?_⟩
  refine lc_m (walk_tup (K := K) (a := e) (xs := vs)) RI (stb_RI (K := K)) ps hl (by omega) hD (fun H' s => Same_seqT s he) (fun _ _ _ _ => ys_at) (·.2) (fun k p x H3 H4 hb1 s3 s4 y A B hA => ?_) (fun H3 l s3 hl3 rs => ?_)
  · obtain ⟨q1, r1, hq1, hq2, hq3⟩ := hrow k p hb1
    rw [y.2] at hq1
    cases hq1
    exact ⟨rfl, lc_yes ⟨_, rfl, q1, _, 1, _, rfl, rfl, Same_seqT s4 hq2, at_pos (by decide) rfl, hA _ _ (fun _ _ h => h) rfl⟩⟩
  refine ⟨_, rfl, D, ws ps, b, rfl, by rw [hl3, rs.ints]; rfl, hb, hB, by unfold ws; rw [List.length_map]; omega, fun r t H5 s5 hr5 ht5 => ?_⟩
  have hg := gf_pos hb (ws ps)
  refine ⟨_, _, rfl, SqT.of hr5, rfl, _, _, rfl, _, _, rfl, rfl, ?_⟩
  have sA : Same H H5 := s1.trans (s2.trans (s3.trans s5))
  refine ⟨_, rfl, _, rfl, a, cR, dx, _, rfl, sA _ _ hself, O.clR, O.R_size, (by show 0 < 1000; decide), ?_⟩
  generalize hH6 : upd H5 a _ = H6
  have hs6 : H6 a = some (.ins cR dx (putF "size" (.int n) [])) := by rw [← hH6, upd_same]
  have b6 : But a H H6 := by rw [← hH6]; exact (But.of sA).put _
  have t56 : Tk K H5 H6 := But.tk (sA _ _ hself) (by rw [← hH6]; exact (But.of fun _ _ h => h).put _)
  have ht6 : SqT K H6 t (((ws ps).map fun n => n / gf b (ws ps)).map V.int) := t56 _ _ (SqT.of ht5)
  have tk26 : Tk K H2 H6 := fun x ys h => t56 _ _ (Same_seqT (s3.trans s5) h)
  have he6 : SqT K H6 e vs := tk26 _ _ he
  refine ⟨_, rfl, _, rfl, e, t, vs, _, rfl, .inr ⟨he6, ht6, fun D2 hD2 => ?_⟩⟩
  have hwl : (((ws ps).map fun n => n / gf b (ws ps)).map V.int).length = ps.length := by unfold ws; rw [List.length_map, List.length_map, List.length_map]
  refine lc_m (walk_zT (K := K) (a := e) (b := t) (xs := vs) (ys := ((ws ps).map fun n => n / gf b (ws ps)).map V.int) (n := ps.length) (by rw [hwl, hl]; omega)) (Fz K) stb_Fz ps rfl (by omega) hD2 (fun H' s => ⟨Same_seqT s he6, Same_seqT s ht6⟩) (fun _ _ _ _ => ys_pair) (fun p => tdr (p.1, p.2 / gf b (ws ps))) (fun k p x H7 H8 hb2 s7 s8 y A2 B2 hA => ?_) (fun H7 l s7 hl7 rs2 => ?_)
  · obtain ⟨q1, r1, hq1, hq2, hq3⟩ := hrow k p hb2
    obtain ⟨Tp, x1, x2, rfl, hT, rfl, e1, e2⟩ := y
    rw [show vs[k]? = some x1 from e1] at hq1
    cases hq1
    have e3 : (((ws ps).map fun n => n / gf b (ws ps)).map V.int)[k]? = some (.int (p.2 / gf b (ws ps))) := by
      unfold ws
      rw [List.getElem?_map, List.getElem?_map, List.getElem?_map, hb2]
      rfl
    rw [show (((ws ps).map fun n => n / gf b (ws ps)).map V.int)[k]? = some x2 from e2] at e3
    cases e3
    have tk8 : Tk K H2 (upd H7 Tp (.tup [.ref q1, .int (p.2 / gf b (ws ps))])) := fun x ys h => Same_seqT s8 (tk26 _ _ h)
    refine ⟨_, _, rfl, SqT.of upd_same, rfl, _, _, rfl, _, _, rfl, rfl, rfl, lc_yes ?_⟩
    refine ⟨_, rfl, q1, _, 0, _, rfl, rfl, tk8 _ _ hq2, at_pos (by decide) rfl, _, rfl, two_line, fun z hz => hA _ _ (same_new hz _) ?_⟩
    refine .tup (SqT.of upd_same) (.cons (.tup (Same_seqT (same_new hz _) (tk8 _ _ hq3)) (FzAll.of_ints _)) (.cons (.int _) .nil))
  refine ⟨D2, l, rfl, .inl ⟨SqL.of hl7, fun t2 ht2 => ?_⟩⟩
  have sB : Same H6 (upd H7 t2 (.tup l)) := s7.trans (same_new ht2 _)
  have hps8 : FzAll K H7 l ((dp ps (gf b (ws ps))).map tdr) := by
    have := rs2.fz
    unfold dp
    rw [List.map_map]
    exact this
  have hp8 : Fz K (upd H7 t2 (.tup l)) (.ref t2) (.tup ((dp ps (gf b (ws ps))).map tdr)) := .tup (SqT.of upd_same) (hps8.tk (WK.Same.tk (same_new ht2 _)))
  refine ⟨_, rfl, a, cR, dx, _, rfl, sB _ _ hs6, O.clR, O.R_pairs, (by show 1 < 1000; decide), ?_⟩
  generalize hH9 : upd (upd H7 t2 (.tup l)) a _ = H9
  have b9 : But a (upd H7 t2 (.tup l)) H9 := by rw [← hH9]; exact (But.of fun _ _ h => h).put _
  have hs9 : H9 a = some (.ins cR dx (putF "pairs" (.ref t2) (putF "size" (.int n) []))) := by rw [← hH9, upd_same]
  have hp9 := hp8.tk (But.tk (sB _ _ hs6) b9)
  refine ⟨_, rfl, _, rfl, a, cR, dx, _, rfl, hs9, O.clR, O.R_bottom, (by show 2 < 1000; decide), ?_⟩
  generalize hH10 : upd H9 a _ = H10
  have b10 : But a H9 H10 := by rw [← hH10]; exact (But.of fun _ _ h => h).put _
  have hs10 : H10 a = some (.ins cR dx (putF "bottom" (.int (b / gf b (ws ps))) (putF "pairs" (.ref t2) (putF "size" (.int n) [])))) := by rw [← hH10, upd_same]
  have hp10 := hp9.tk (But.tk hs9 b10)
  have bb : But a H H10 := ((b6.then sB).trans b9).trans b10
  have hlk : (putF "bottom" (.int (b / gf b (ws ps))) (putF "pairs" (.ref t2) (putF "size" (.int n) []))).lookup ("pairs" : Str) = some (.ref t2) := by
    rw [lookup_putF, if_neg (by decide +kernel), lookup_putF, if_pos rfl]
  have hpd := prs_dp hps hb
  refine ⟨_, rfl, _, rfl, a, cR, dx, _, _, rfl, hs10, O.clR, O.R_pairs, hlk, _, n, _, rfl, hp10, hpd, by omega, fun r2 H11 s11 hsn => ?_⟩
  refine ⟨_, rfl, rfl, rfl, fun x dx2 hx hdx hne => ?_⟩
  have hb2 : 0 < b / gf b (ws ps) := quot_pos hg (gf_dvd _).1 (by omega)
  refine ⟨x, dx2, _, wmat n (dp ps (gf b (ws ps))), b / gf b (ws ps), rfl, upd_same, hsn.same (new_two hx hdx), wmat_sqr, wmat_sym, by rw [wmat_len]; exact hn, hb2, B.div hg hB, fun H12 hF hbut => ⟨rfl, ?_⟩⟩
  have s12 : Same H11 H12 := made_same hx hdx hbut
  have s1012 := s11.trans s12
  refine ⟨_, rfl, a, cR, dx, _, rfl, s1012 _ _ hs10, O.clR, O.R_form, (by show 3 < 1000; decide), ?_⟩
  have b13 : But a H12 (upd H12 a (.ins cR dx (putF "form" (.ref x) (putF "bottom" (.int (b / gf b (ws ps))) (putF "pairs" (.ref t2) (putF "size" (.int n) [])))))) := (But.of fun _ _ h => h).put _
  have t13 := But.tk (K := K) (s1012 _ _ hs10) b13
  have hxa : x ≠ a := fun z => by rw [z, s11 _ _ hs10] at hx; cases hx
  rw [wmat_len] at hF
  refine q _ ⟨dx, t2, x, by rw [upd_same, flR], (hp10.tk (WK.Same.tk s1012)).tk t13, hF.at (fun o e => b13 _ _ e hxa) t13⟩ ((bb.then s1012).trans b13)
end
end P15
set_option exponentiation.threshold 3000
namespace P15
open PySem PySem.Spec PyProof.Rows L2 SX EX WK
/-- a def with defaults that may raise, by its body -/
theorem okRD {P : Program} {w : World} {K : PySem.W.Frag} {mg : Str → Option Value} {base : Heap} {x qual : Str} {params : Arguments} {body : List Stmt} {scope : Scope} {dvs : List V} {kws : List (Str × V)} {f : Addr} {fd : FuncData} {N ps : List Str} {k : Nat} {sp : Sp} (F : FunD K x qual params body scope dvs kws f fd) (S : FnScope N ps scope)
    (len : ∀ vs H Q E, sp vs H Q E → vs.length = ps.length)
    (hbody : ∀ (cdv : Value) (A : Around) (outer : List Env) (s : Shared) (H : Hp) (vs : List V) (Q : VK) (E : XK), Room k (A.deeper (envOfC qual scope s.heap.objs.size f cdv)) → sp vs H Q E →
      ∃ t, PSs (cxOf (L2N.CX P w) P w K mg base N qual scope f cdv A outer s H E) body t ∧ t { nx := fun _ H' => Q .non H', rt := Q } (start N vs) H) :
    FnOk P w K mg base (L2N.CX P w) (k + 1) f fd ps sp := by
  obtain ⟨oc, od, dV, kV, doc, pm, an, cdv, ct, osl, rfl, lk, hcd, _, _⟩ := F.ex
  exact fn_of lk hcd S len fun A outer s H vs Q E hr hsp => hbody cdv A outer s H vs Q E hr hsp
/-- the errors of the text -/
structure Err (K : PySem.W.Frag) (mg : Str → Option Value) (cF cR cW cT cG cC cE cP cS cH fT fG fP : Addr) : Prop where
  g_CableError : mg "CableError" = some (.ref cC)
  g_BadTie : mg "BadTie" = some (.ref cT)
  g_BadWeight : mg "BadWeight" = some (.ref cG)
  g_BadRow : mg "BadRow" = some (.ref cE)
  g_SamePlace : mg "SamePlace" = some (.ref cP)
  g_SizesDiffer : mg "SizesDiffer" = some (.ref cS)
  g_SharedPlace : mg "SharedPlace" = some (.ref cH)
  g_Form : mg "Form" = some (.ref cF)
  g_RowList : mg "RowList" = some (.ref cR)
  g_Web : mg "Web" = some (.ref cW)
  o_BadTie : OexC K cT
  i_BadTie : PySem.W.findIn K (.ref cT) "__init__" = some (some (.ref fT))
  t_BadTie : PySem.W.typeIn K (.ref fT) = some (.type "function")
  xT : XCls K cT
  no_BadTie_index : PySem.W.findIn K (.ref cT) "index" = some none
  o_BadWeight : OexC K cG
  i_BadWeight : PySem.W.findIn K (.ref cG) "__init__" = some (some (.ref fG))
  t_BadWeight : PySem.W.typeIn K (.ref fG) = some (.type "function")
  xG : XCls K cG
  no_BadWeight_index : PySem.W.findIn K (.ref cG) "index" = some none
  o_SamePlace : OexC K cP
  i_SamePlace : PySem.W.findIn K (.ref cP) "__init__" = some (some (.ref fP))
  t_SamePlace : PySem.W.typeIn K (.ref fP) = some (.type "function")
  xP : XCls K cP
  no_SamePlace_place : PySem.W.findIn K (.ref cP) "place" = some none
  ePC : PySem.W.exmOne K (.ref cP) (.ref cC) = some true
  kPP : PySem.W.kitOne K (.ref cP) (.ref cP) = some true
  kPT : PySem.W.kitOne K (.ref cP) (.ref cT) = some false
  kPE : PySem.W.kitOne K (.ref cP) (.ref cE) = some false
  kPH : PySem.W.kitOne K (.ref cP) (.ref cH) = some false
  kPS : PySem.W.kitOne K (.ref cP) (.ref cS) = some false
  kPV : PySem.W.kitOne K (.ref cP) (.type "ValueError") = some true
section
variable {K : PySem.W.Frag} {mg : Str → Option Value} {cF cR cW cT cG cC cE cP cS cH fT fG fP : Addr}
theorem Err.x_BadTie (U : Err K mg cF cR cW cT cG cC cE cP cS cH fT fG fP) : XfC K cT := U.xT.xf
theorem Err.x_SamePlace (U : Err K mg cF cR cW cT cG cC cE cP cS cH fT fG fP) : XfC K cP := U.xP.xf
theorem Err.x_BadWeight (U : Err K mg cF cR cW cT cG cC cE cP cS cH fT fG fP) : XfC K cG := U.xG.xf
end
/-- an error of one field, and what stands behind it -/
def Bad (C : Addr) (k : Nat) (H : Hp) (E : XK) : Prop := ∀ d H', Same H H' → H' d = some (.xd [("index", .int (k : Int))]) → E (.ref C) (some d) H'
theorem Bad.same {C : Addr} {k : Nat} {H H' : Hp} {E : XK} (h : Bad C k H E) (s : Same H H') : Bad C k H' E := fun d H2 s2 e => h d H2 (s.trans s2) e
/-! ### ties -/
structure OkU (pl : Int) (t : T3) : Prop where
  ne : t.1 ≠ t.2.1
  a0 : 0 ≤ t.1
  a1 : t.1 < pl
  b0 : 0 ≤ t.2.1
  b1 : t.2.1 < pl
  s1 : 1 ≤ t.2.2
/-- what is wrong with a tie -/
def tflt (pl : Int) (t : T3) : Option Bool := if t.1 = t.2.1 ∨ imin t.1 t.2.1 < 0 ∨ pl ≤ imax t.1 t.2.1 then some true else if t.2.2 < 1 then some false else none
theorem imin_lt {a b : Int} : imin a b < 0 ↔ a < 0 ∨ b < 0 := by
  unfold imin
  split <;> omega
theorem le_imax {a b p : Int} : p ≤ imax a b ↔ p ≤ a ∨ p ≤ b := by
  unfold imax
  split <;> omega
theorem tflt_none {pl : Int} {t : T3} (h : tflt pl t = none) : OkU pl t := by
  unfold tflt at h
  split at h
  · cases h
  · split at h
    · cases h
    · rename_i h1 h2
      rw [imin_lt, le_imax] at h1
      exact ⟨by omega, by omega, by omega, by omega, by omega, by omega⟩
theorem OkU.flt {pl : Int} {t : T3} (h : OkU pl t) : tflt pl t = none := by
  obtain ⟨h1, h2, h3, h4, h5, h6⟩ := h
  unfold tflt
  rw [if_neg (by rw [imin_lt, le_imax]; omega), if_neg (by omega)]
/-- the first wrong tie -/
def wfltAt (pl : Int) : Nat → List T3 → Option (Bool × Nat)
  | _, [] => none
  | k, t :: ts => match tflt pl t with
    | some b => some (b, k)
    | none => wfltAt pl (k + 1) ts
def wflt (pl : Int) (ts : List T3) : Option (Bool × Nat) := wfltAt pl 0 ts
theorem wfltAt_none {pl : Int} : ∀ {ts : List T3} {k : Nat}, wfltAt pl k ts = none → ∀ t ∈ ts, OkU pl t
  | [], _, _, t, h => by cases h
  | t0 :: ts, k, e, t, h => by
    unfold wfltAt at e
    split at e
    · cases e
    · rename_i h0
      rcases List.mem_cons.mp h with rfl | m
      · exact tflt_none h0
      · exact wfltAt_none e t m
theorem wflt_none {pl : Int} {ts : List T3} (h : wflt pl ts = none) : ∀ t ∈ ts, OkU pl t := wfltAt_none h
theorem wfltAt_ok {pl : Int} : ∀ {ts : List T3} {k : Nat}, (∀ t ∈ ts, OkU pl t) → wfltAt pl k ts = none
  | [], _, _ => rfl
  | t0 :: ts, k, h => by
    unfold wfltAt
    rw [(h t0 (List.mem_cons_self ..)).flt]
    exact wfltAt_ok fun t m => h t (List.mem_cons_of_mem _ m)
theorem wflt_ok {pl : Int} {ts : List T3} (h : ∀ t ∈ ts, OkU pl t) : wflt pl ts = none := wfltAt_ok h
theorem wflt_drop {pl : Int} {i : Nat} {ts : List T3} {t : T3} (h : ts[i]? = some t) : wfltAt pl i (ts.drop i) = match tflt pl t with
    | some b => some (b, i)
    | none => wfltAt pl (i + 1) (ts.drop (i + 1)) := by
  have hi := (List.getElem?_eq_some_iff.mp h)
  obtain ⟨hl, e⟩ := hi
  rw [List.drop_eq_getElem_cons hl, e]
  rfl
/-- each turn gives one thing, where what is known of the turns before it counts -/
theorem lc_p {α β : Type} {K : PySem.W.Frag} {J : It} {n : Nat} {G : Hp → Prop} {Y : Nat → Hp → V → Hp → Prop} (w : Walk J n G Y) {g : TG} {tt : TT} {te : TE} {vs : List Nat} {σ : L2.St} {H1 : Hp} {D : Addr} {Qd : Hp → Prop}
    (R : Hp → V → α → Prop) (st : Stb K R) (xs : List β) (hn : n = xs.length) (hl : xs.length ≤ 16000000) (hD : H1 D = none) (hG : ∀ H, Same H1 H → G H) (hY : ∀ i H x H', Y i H x H' → Same H H') (f : β → α) (P : Nat → Prop) (h0 : P 0)
    (hs : ∀ i b x H H', xs[i]? = some b → P i → Same H1 H → Same H1 H' → Y i H x H' → ∀ (A : V → Hp → Prop) (B : Hp → Prop), (P (i + 1) → ∀ y H4, Same H' H4 → R H4 y (f b) → A y H4) →
      g x (wipe σ vs) H' fun σ2 H2 => wipe σ2 vs = wipe σ vs ∧ tt σ2 H2 fun b H3 => if b = true then te σ2 H3 A else B H3)
    (hd : P xs.length → ∀ H l, Same H1 H → H D = some (.lst l) → Rs R H l (xs.map f) → Qd H) :
    ∃ W : Nat → Nat → Hp → Prop, (∃ m, W 0 m (upd H1 D (.lst []))) ∧ ∀ i m H, W i m H →
      (J.stop i H ∧ Qd H) ∨ (J.go i H ∧ ∃ Nx : Hp → Prop, (∀ H', Nx H' → ∃ m', m' < m ∧ W (i + 1) m' H') ∧ ∀ x H', J.yld i H x H' → g x (wipe σ vs) H' fun σ2 H2 => wipe σ2 vs = wipe σ vs ∧ tt σ2 H2 fun b H3 =>
        if b = true then te σ2 H3 fun y H4 => ∃ acc, H4 D = some (.lst acc) ∧ acc.length < sizeLine ∧ Nx (upd H4 D (.lst (acc ++ [y]))) else Nx H3) := by
  subst hn
  have st := st.at D
  refine lc_it w (fun i H => P i ∧ Same H1 H ∧ ∃ l, H D = some (.lst l) ∧ Rs R H l ((xs.take i).map f) ∧ l.length ≤ i) ⟨h0, same_new hD _, [], upd_same, by rw [List.take_zero]; exact Rs.nil, Nat.le_refl _⟩ (fun i H _ p => hG H p.2.1) ?_ ?_
  · rintro i x H H' hi ⟨hp, sm, l, hl1, rs, hlen⟩ y
    have hb : xs[i]? = some xs[i] := List.getElem?_eq_getElem hi
    have sy := hY i H x H' y
    have et : xs.take (i + 1) = xs.take i ++ [xs[i]] := by rw [List.take_add_one, hb]; rfl
    refine hs i _ x H H' hb hp sm (sm.trans sy) y _ _ (fun hp1 v H4 s4 r => ?_)
    have h4 : H4 D = some (.lst l) := s4 _ _ (sy _ _ hl1)
    refine ⟨l, h4, sizes (by omega), hp1, fun b o e => ?_, l ++ [v], upd_same, ?_, by rw [List.length_append]; simp only [List.length_cons, List.length_nil]; omega⟩
    · rw [upd_ne (ne_of_none e hD)]
      exact s4 _ _ (sy _ _ (sm _ _ e))
    · rw [et, List.map_append]
      refine Rs.snoc (rs.tkD st ⟨l, hl1⟩ fun b o hb e => ?_) (st _ _ _ _ ⟨l, h4⟩ (fun b o hb e => ?_) r)
      · rw [upd_ne hb]
        exact s4 _ _ (sy _ _ e)
      · rw [upd_ne hb]
        exact e
  · rintro H ⟨hp, sm, l, hl1, rs, _⟩
    rw [List.take_length] at rs
    exact hd hp H l sm hl1 rs
section
variable {P : Program} {w : World} {K : PySem.W.Frag} {mg : Str → Option Value} {base : Heap} {f : Addr} {fd : FuncData} {cF cR cW cT cG cC cE cP cS cH fT fG fP : Addr} {fdT fdG : FuncData}
def spInit1 (C : Addr) : Sp := fun vs H Q _ => ∃ (a : Addr) (v : V), vs = [.ref a, v] ∧ H a = some (exo a C none) ∧ ∀ dx, H dx = none → dx ≠ a → Q .non (upd (upd H dx (exd dx [("index", v)])) a (exo a C (some dx)))
abbrev s_iBT : Stmt := mth 10 0
abbrev N_iBT : List Str := ["self", "index"]
theorem sc_iBT : FnScope N_iBT ["self", "index"] (defScope s_iBT) := ⟨rfl, rfl, rfl, by decide +kernel, rfl, by decide +kernel, by decide +kernel⟩
theorem ok_iBT (F : Fun K "__init__" "BadTie.__init__" s_iBT f fd) (U : Err K mg cF cR cW cT cG cC cE cP cS cH fT fG fP) : FnOk P w K mg base CX0 1 f fd ["self", "index"] (spInit1 cT) := by
  refine F.ok sc_iBT (fun vs H Q E h => ?_) (fun cdv A outer s H vs Q E hr h => ?_)
  · obtain ⟨a, v, rfl, _⟩ := h
    rfl
  obtain ⟨a, v, rfl, ha, q⟩ := h
  refine ⟨_, (pss_one (ps_ost (pv 0) (pv 1))), ?_⟩
  exact ⟨_, rfl, _, rfl, a, cT, rfl, U.o_BadTie, U.no_BadTie_index, .inl ⟨ha, q⟩⟩
abbrev s_iBW : Stmt := mth 9 0
abbrev N_iBW : List Str := ["self", "index"]
theorem sc_iBW : FnScope N_iBW ["self", "index"] (defScope s_iBW) := ⟨rfl, rfl, rfl, by decide +kernel, rfl, by decide +kernel, by decide +kernel⟩
theorem ok_iBW (F : Fun K "__init__" "BadWeight.__init__" s_iBW f fd) (U : Err K mg cF cR cW cT cG cC cE cP cS cH fT fG fP) : FnOk P w K mg base CX0 1 f fd ["self", "index"] (spInit1 cG) := by
  refine F.ok sc_iBW (fun vs H Q E h => ?_) (fun cdv A outer s H vs Q E hr h => ?_)
  · obtain ⟨a, v, rfl, _⟩ := h
    rfl
  obtain ⟨a, v, rfl, ha, q⟩ := h
  refine ⟨_, (pss_one (ps_ost (pv 0) (pv 1))), ?_⟩
  exact ⟨_, rfl, _, rfl, a, cG, rfl, U.o_BadWeight, U.no_BadWeight_index, .inl ⟨ha, q⟩⟩
/-- an error is made and goes on -/
theorem bad_out {C : Addr} {k : Nat} {H : Hp} {E : XK} (q : Bad C k H E) {a dx : Addr} (ha : H a = none) (hdx : upd H a (exo a C none) dx = none) (hne : dx ≠ a) :
    E (.ref C) (some dx) (upd (del (upd (upd (upd H a (exo a C none)) dx (exd dx [("index", V.int (k : Int))])) a (exo a C (some dx))) a) dx (.xd [("index", V.int (k : Int))])) := by
  have hd : H dx = none := by
    rw [upd_ne hne] at hdx
    exact hdx
  refine q dx _ (fun b o e => ?_) upd_same
  have h1 : b ≠ a := ne_of_none e ha
  have h2 : b ≠ dx := ne_of_none e hd
  rw [upd_ne h2, del_ne h1, upd_ne h1, upd_ne h2, upd_ne h1]
  exact e
def spRow (K : PySem.W.Frag) : Sp := fun vs H Q _ => ∃ (v : V) (pl : Int) (t : T3), vs = [.int pl, v] ∧ Fz K H v (td3 t) ∧ 0 ≤ pl ∧ pl ≤ 300 ∧ ∀ r H', Same H H' → H' r = some (.tup ((trow pl t).map V.int)) → Q (.ref r) H'
abbrev s_tie_row : Stmt := top 39
abbrev N_tie_row : List Str := ["places", "tie", "place"]
theorem sc_tie_row : FnScope N_tie_row ["places", "tie"] (defScope s_tie_row) := ⟨rfl, rfl, rfl, by decide +kernel, rfl, by decide +kernel, by decide +kernel⟩
theorem ok_tie_row (F : Fun K "tie_row" "tie_row" s_tie_row f fd) (T : Txt mg) : FnOk P w K mg base CX0 1 f fd ["places", "tie"] (spRow K) := by
  refine F.ok sc_tie_row (fun vs H Q E h => ?_) (fun cdv A outer s H vs Q E hr h => ?_)
  · obtain ⟨v, pl, t, rfl, _⟩ := h
    rfl
  obtain ⟨v, pl, t, rfl, hz, h0, h1, q⟩ := h
  obtain ⟨a, rfl, ha⟩ := fz_tie hz
  refine ⟨_, (pss_one (ps_ret (pe_callTy call_tuple_of (by rfl) T.b_tuple (by decide +kernel) (pa_cons (pe_lc (own := [("place", 2)]) (g := gName 2) (tt := tYes) (by rfl) sc_tie_row.nd (pi_range1 (by rfl) T.b_range (pa_cons (pv 0) pa_nil)) (blkOk_by (N := N_tie_row) (sc := defScope s_tie_row) (by decide +kernel)) (fun _ _ _ _ _ => (pg_name (i := 2) sc_tie_row.nd rfl (Or.inl rfl))) (fun _ _ _ _ _ => pts_nil) (fun _ _ _ _ _ => (pe_op op_sub (pe_callTy call_int1 (by rfl) T.b_int (by decide +kernel) (pa_cons (pe_cmpR op_eq (pv 2) (pe_ix (ix_tupK (K := K) rfl) (pv 1) pe_int (fun _ _ => rfl)) (nomark _)) pa_nil)) (pe_callTy call_int1 (by rfl) T.b_int (by decide +kernel) (pa_cons (pe_cmpR op_eq (pv 2) (pe_ix (ix_tupK (K := K) rfl) (pv 1) pe_int (fun _ _ => rfl)) (nomark _)) pa_nil))))) pa_nil)))), ?_⟩
  refine ⟨_, rfl, pl, rfl, by omega, by omega, fun D hD => ?_⟩
  refine lc_m (walk_range (lo := 0) (n := pl.toNat)) RI (stb_RI (K := K)) (List.range pl.toNat) (by rw [List.length_range]) (by rw [List.length_range]; omega) hD (fun _ _ => trivial) (fun _ _ _ _ => ys_fn) (fun (k : Nat) => b2 (decide (V.int (0 + (k : Int)) = V.int t.1)) - b2 (decide (V.int (0 + (k : Int)) = V.int t.2.1))) (fun k i x H1 H2 hb s1 s2 y A B hA => ?_) (fun H' l s1 hl1 rs => ?_)
  · have ek : i = k := by
      have h1 := (List.getElem?_eq_some_iff.mp hb).1
      rw [List.length_range] at h1
      rw [List.getElem?_range h1] at hb
      exact (Option.some.inj hb).symm
    subst ek
    rw [y.2]
    refine ⟨rfl, lc_yes ⟨_, rfl, _, rfl, a, _, 0, _, rfl, rfl, Same_seqT s2 ha, at_pos (by decide) rfl, rfl, .inr ⟨_, rfl, ?_⟩⟩⟩
    exact ⟨_, rfl, _, rfl, a, _, 1, _, rfl, rfl, Same_seqT s2 ha, at_pos (by decide) rfl, rfl, .inr ⟨_, rfl, _, _, rfl, rfl, hA _ _ (fun _ _ h => h) rfl⟩⟩
  · refine ⟨D, l, rfl, .inl ⟨SqL.of hl1, fun r hr' => q r _ (s1.trans (same_new hr' _)) ?_⟩⟩
    rw [upd_same, rs.ints]
    rfl
def spSortX (K : PySem.W.Frag) (cT cG : Addr) : Sp := fun vs H Q E => ∃ (v : V) (pl : Int) (k : Nat) (t : T3), vs = [.int pl, .int (k : Int), v] ∧ Fz K H v (td3 t) ∧ (tflt pl t = none → ∀ r H', Same H H' → H' r = some (.tup [.int (imin t.1 t.2.1), .int (imax t.1 t.2.1), .int t.2.2]) → Q (.ref r) H') ∧
  (tflt pl t = some true → Bad cT k H E) ∧ (tflt pl t = some false → Bad cG k H E)
abbrev s_sorted_tie : Stmt := top 40
abbrev N_sorted_tie : List Str := ["places", "index", "tie", "one", "two", "strength"]
theorem sc_sorted_tie : FnScope N_sorted_tie ["places", "index", "tie"] (defScope s_sorted_tie) := ⟨rfl, rfl, rfl, by decide +kernel, rfl, by decide +kernel, by decide +kernel⟩
theorem ok_sorted_tie (F : Fun K "sorted_tie" "sorted_tie" s_sorted_tie f fd) (T : Txt mg) (U : Err K mg cF cR cW cT cG cC cE cP cS cH fT fG fP) (IN_BadTie : FnOk P w K mg base CX0 1 fT fdT ["self", "index"] (spInit1 cT)) (B_BadTie : Binds K fdT ["self", "index"] []) (IN_BadWeight : FnOk P w K mg base CX0 1 fG fdG ["self", "index"] (spInit1 cG)) (B_BadWeight : Binds K fdG ["self", "index"] []) :
    FnOk P w K mg base (L2N.CX P w) 4 f fd ["places", "index", "tie"] (spSortX K cT cG) := by
  refine okR F sc_sorted_tie (fun vs H Q E h => ?_) (fun cdv A outer s H vs Q E hr h => ?_)
  · obtain ⟨v, pl, k, t, rfl, _⟩ := h
    rfl
  obtain ⟨v, pl, k, t, rfl, hz, q, qT, qG⟩ := h
  obtain ⟨a, rfl, ha⟩ := fz_tie hz
  refine ⟨_, (pss_cons (ps_asg (pv 2) (pg_tup rfl (pgs_cons (pg_name (i := 3) sc_sorted_tie.nd rfl (Or.inl rfl)) (pgs_cons (pg_name (i := 4) sc_sorted_tie.nd rfl (Or.inl rfl)) (pgs_cons (pg_name (i := 5) sc_sorted_tie.nd rfl (Or.inl rfl)) pgs_nil)))))
  (pss_cons (ps_if (PW.pt (pw_or (pt_cmpR op_eq (pv 3) (pv 4) (nomark _)) (pw_or (pt_cmpR op_lt (pe_callB (call_min2 rfl) (by rfl) T.b_min (by decide +kernel) (pa_cons (pv 3) (pa_cons (pv 4) pa_nil))) pe_int (nomark _)) (pw_or1 (pt_cmpR op_ge (pe_callB (call_max2 rfl) (by rfl) T.b_max (by decide +kernel) (pa_cons (pv 3) (pa_cons (pv 4) pa_nil))) (pv 0) (nomark _)))))) (pss_one (L2N.ps_raise rfl (L2N.takes_of rfl rfl rfl rfl) (pmkI U.o_BadTie U.i_BadTie U.t_BadTie IN_BadTie (hr.mono (by omega)) B_BadTie passN rfl U.g_BadTie (pa_cons (pv 1) pa_nil)))) pss_nil)
  (pss_cons (ps_if (pt_cmpR op_lt (pv 5) pe_int (nomark _)) (pss_one (L2N.ps_raise rfl (L2N.takes_of rfl rfl rfl rfl) (pmkI U.o_BadWeight U.i_BadWeight U.t_BadWeight IN_BadWeight (hr.mono (by omega)) B_BadWeight passN rfl U.g_BadWeight (pa_cons (pv 1) pa_nil)))) pss_nil)
  (pss_one (ps_ret (pe_tup (pa_cons (pe_callB (call_min2 rfl) (by rfl) T.b_min (by decide +kernel) (pa_cons (pv 3) (pa_cons (pv 4) pa_nil))) (pa_cons (pe_callB (call_max2 rfl) (by rfl) T.b_max (by decide +kernel) (pa_cons (pv 3) (pa_cons (pv 4) pa_nil))) (pa_cons (pv 5) pa_nil))))))))), ?_⟩
  refine ⟨_, rfl, _, _, rfl, ha, rfl, _, _, rfl, _, _, rfl, _, _, rfl, rfl, ?_⟩
  have tT : (t.1 = t.2.1 ∨ imin t.1 t.2.1 < 0 ∨ pl ≤ imax t.1 t.2.1) → Bad cT k H E := fun h => qT (by unfold tflt; rw [if_pos h])
  by_cases h1 : t.1 = t.2.1
  · refine ⟨_, rfl, _, rfl, rfl, _, rfl, ifT (int_eq h1) ?_⟩
    refine ⟨_, rfl, by show 1 ≤ 1000; decide, fun a ha => ⟨a, _, rfl, upd_same, fun dx hdx hne => ⟨rfl, dx, [("index", V.int (k : Int))], upd_same, by rw [upd_ne hne, upd_same], by
        have := hdx
        rw [upd_ne hne] at this
        exact this, bad_out (tT (.inl h1)) ha hdx hne⟩⟩⟩
  refine ⟨_, rfl, _, rfl, rfl, _, rfl, ifF (int_ne h1) ?_⟩
  by_cases h2 : imin t.1 t.2.1 < 0
  · refine ⟨_, rfl, _, rfl, _, _, rfl, _, _, rfl, rfl, _, rfl, ifT (decide_eq_true h2) ?_⟩
    refine ⟨_, rfl, by show 1 ≤ 1000; decide, fun a ha => ⟨a, _, rfl, upd_same, fun dx hdx hne => ⟨rfl, dx, [("index", V.int (k : Int))], upd_same, by rw [upd_ne hne, upd_same], by
        have := hdx
        rw [upd_ne hne] at this
        exact this, bad_out (tT (.inr (.inl h2))) ha hdx hne⟩⟩⟩
  refine ⟨_, rfl, _, rfl, _, _, rfl, _, _, rfl, rfl, _, rfl, ifF (decide_eq_false h2) ?_⟩
  by_cases h3 : pl ≤ imax t.1 t.2.1
  · refine ⟨_, rfl, _, rfl, _, _, rfl, _, rfl, _, _, rfl, rfl, _, rfl, ifT (decide_eq_true h3) ?_⟩
    refine ⟨_, rfl, by show 1 ≤ 1000; decide, fun a ha => ⟨a, _, rfl, upd_same, fun dx hdx hne => ⟨rfl, dx, [("index", V.int (k : Int))], upd_same, by rw [upd_ne hne, upd_same], by
        have := hdx
        rw [upd_ne hne] at this
        exact this, bad_out (tT (.inr (.inr h3))) ha hdx hne⟩⟩⟩
  refine ⟨_, rfl, _, rfl, _, _, rfl, _, rfl, _, _, rfl, rfl, _, rfl, ifF (decide_eq_false h3) ?_⟩
  have hn : ¬ (t.1 = t.2.1 ∨ imin t.1 t.2.1 < 0 ∨ pl ≤ imax t.1 t.2.1) := fun h => by
    rcases h with h | h | h
    · exact h1 h
    · exact h2 h
    · exact h3 h
  by_cases h4 : t.2.2 < 1
  · refine ⟨_, rfl, _, _, rfl, rfl, _, rfl, ifT (decide_eq_true h4) ?_⟩
    refine ⟨_, rfl, by show 1 ≤ 1000; decide, fun a ha => ⟨a, _, rfl, upd_same, fun dx hdx hne => ⟨rfl, dx, [("index", V.int (k : Int))], upd_same, by rw [upd_ne hne, upd_same], by
        have := hdx
        rw [upd_ne hne] at this
        exact this, bad_out (qG (by unfold tflt; rw [if_neg hn, if_pos h4])) ha hdx hne⟩⟩⟩
  refine ⟨_, rfl, _, _, rfl, rfl, _, rfl, ifF (decide_eq_false h4) ?_⟩
  exact ⟨_, rfl, _, rfl, _, _, rfl, _, rfl, _, rfl, _, _, rfl, _, rfl, three_line, fun r hr' => q (by unfold tflt; rw [if_neg hn, if_neg h4]) r _ (same_new hr' _) upd_same⟩
end
end P15
set_option exponentiation.threshold 3000
namespace P15
open PySem PySem.Spec PyProof.Rows L2 SX EX WK
theorem flW (n e b R F : V) : putF "form" F (putF "rows" R (putF "bottom" b (putF "ties" e (putF "places" n [])))) = ([("places", n), ("ties", e), ("bottom", b), ("rows", R), ("form", F)] : List (Str × V)) := by
  show putF "form" F (putF "rows" R (putF "bottom" b (putF "ties" e [("places", n)]))) = _
  rw [putF_ne (by decide +kernel)]
  show putF "form" F (putF "rows" R (putF "bottom" b [("places", n), ("ties", e)])) = _
  rw [putF_ne (by decide +kernel), putF_ne (by decide +kernel)]
  show putF "form" F (putF "rows" R [("places", n), ("ties", e), ("bottom", b)]) = _
  rw [putF_ne (by decide +kernel), putF_ne (by decide +kernel), putF_ne (by decide +kernel)]
  show putF "form" F [("places", n), ("ties", e), ("bottom", b), ("rows", R)] = _
  rw [putF_ne (by decide +kernel), putF_ne (by decide +kernel), putF_ne (by decide +kernel), putF_ne (by decide +kernel)]
  rfl
def psOf (pl : Nat) (ts : List T3) : List RW := ts.map fun t => (trow pl t, t.2.2)
theorem b2_le (p : Bool) : 0 ≤ b2 p ∧ b2 p ≤ 1 := by cases p <;> decide
theorem prs_of {pl : Nat} {ts : List T3} (hl : ts.length ≤ 1000) (h : ∀ t ∈ ts, 1 ≤ t.2.2 ∧ B 1400 t.2.2) : Prs pl (psOf pl ts) := by
  refine ⟨by unfold psOf; rw [List.length_map]; exact hl, fun p hp => ?_⟩
  obtain ⟨t, ht, rfl⟩ := List.mem_map.mp hp
  refine ⟨by show (trow pl t).length = pl; unfold trow; rw [List.length_map, List.length_range]; exact Int.toNat_natCast pl, (h t ht).1, (h t ht).2, fun x hx => ?_⟩
  obtain ⟨k, _, rfl⟩ := List.mem_map.mp hx
  have h1 := b2_le (decide (V.int (0 + (k : Int)) = V.int t.1))
  have h2 := b2_le (decide (V.int (0 + (k : Int)) = V.int t.2.1))
  have h3 : (2 : Nat) ≤ 2 ^ 1400 := Nat.le_trans (by decide : (2 : Nat) ≤ 2 ^ 1) (Nat.pow_le_pow_right (by decide) (by decide))
  show Int.natAbs _ < 2 ^ 1400
  omega
theorem td3_dep {t : T3} : (td3 t).dep ≤ 1 := by simp [td3, Td.dep, Td.deps]
theorem td3_sm {t : T3} : (td3 t).sm := by simp [td3, Td.sm, Td.sms]
theorem dep_tds {ts : List T3} : (Td.tup (ts.map td3)).dep ≤ 3 := by
  simp only [Td.dep]
  have : Td.deps (ts.map td3) ≤ 1 := deps_all fun t h => by
    obtain ⟨p, _, rfl⟩ := List.mem_map.mp h
    exact td3_dep
  omega
theorem sm_tds {ts : List T3} (h : ts.length ≤ 100000) : (Td.tup (ts.map td3)).sm := by
  simp only [Td.sm]
  refine ⟨by rw [List.length_map]; omega, sms_all fun t h => ?_⟩
  obtain ⟨p, hm, rfl⟩ := List.mem_map.mp h
  exact td3_sm
/-- the pairs and the bottom of the row list of a web -/
def wps (pl : Nat) (ts : List T3) (b : Int) : List RW := dp (psOf pl (wt ts b)) (gf (wb ts b) (ws (psOf pl (wt ts b))))
def wpb (pl : Nat) (ts : List T3) (b : Int) : Int := wb ts b / gf (wb ts b) (ws (psOf pl (wt ts b)))
/-- a web of these ties over this bottom -/
def WebAt (K : PySem.W.Frag) (H : Hp) (cF cR cW p : Addr) (pl : Nat) (ts : List T3) (b : Int) : Prop := ∃ dx t R F, H p = some (.ins cW dx [("places", .int pl), ("ties", .ref t), ("bottom", .int (wb ts b)), ("rows", .ref R), ("form", .ref F)]) ∧ Fz K H (.ref t) (.tup ((wt ts b).map td3)) ∧
  RowsAt K H cF cR R pl (wps pl ts b) (wpb pl ts b) ∧ FormAt K H cF F pl (fmat pl (wps pl ts b) (wpb pl ts b)) (fbot pl (wps pl ts b) (wpb pl ts b))
theorem WebAt.same {K : PySem.W.Frag} {H H' : Hp} {cF cR cW p : Addr} {pl : Nat} {ts : List T3} {b : Int} (h : WebAt K H cF cR cW p pl ts b) (e : Same H H') : WebAt K H' cF cR cW p pl ts b := by
  obtain ⟨dx, t, R, F, h1, h2, h3, h4⟩ := h
  exact ⟨dx, t, R, F, e _ _ h1, h2.tk (WK.Same.tk e), h3.at e, h4.at (fun o => e _ _) (WK.Same.tk e)⟩
def spWeb (K : PySem.W.Frag) (cF cR cW cT cG : Addr) : Sp := fun vs H Q E => ∃ (a dx : Addr) (v : V) (pl : Nat) (ts : List T3) (b : Int), vs = [.ref a, .int pl, v, .int b] ∧ H a = some (.ins cW dx []) ∧ Sn K H v (.tup (ts.map td3)) ∧ (∀ t ∈ ts, B 1400 t.2.2) ∧ ts.length ≤ 1000 ∧ pl ≤ 300 ∧ 0 < b ∧ B 9000 b ∧
  (wflt pl ts = none → ∀ H', WebAt K H' cF cR cW a pl ts b → But a H H' → Q .non H') ∧ (∀ k, wflt pl ts = some (true, k) → Bad cT k H E) ∧ (∀ k, wflt pl ts = some (false, k) → Bad cG k H E)
theorem wt_ok {pl : Int} {ts : List T3} {b : Int} (hb : 0 < b) (h : ∀ t ∈ ts, OkU pl t) (h2 : ∀ t ∈ ts, B 1400 t.2.2) : ∀ t ∈ wt ts b, 1 ≤ t.2.2 ∧ B 1400 t.2.2 := fun t ht => by
  obtain ⟨t0, h0, rfl⟩ := List.mem_map.mp ht
  have hg : 0 < wg ts b := gf_pos hb _
  exact ⟨quot_pos hg ((gf_dvd _).2 _ (List.mem_map.mpr ⟨t0, h0, rfl⟩)) (h t0 h0).s1, B.div hg (h2 t0 h0)⟩
section
variable {P : Program} {w : World} {K : PySem.W.Frag} {mg : Str → Option Value} {base : Heap} {f : Addr} {fd : FuncData} {cF cR cW cT cG : Addr}
abbrev s_iWeb : Stmt := mth 41 0
abbrev N_iWeb : List Str := ["self", "places", "ties", "bottom", "passed", "kept", "strengths", "least_bottom", "index", "tie"]
theorem sc_iWeb : FnScope N_iWeb ["self", "places", "ties", "bottom"] (defScope s_iWeb) := ⟨rfl, rfl, rfl, by decide +kernel, rfl, by decide +kernel, by decide +kernel⟩
theorem ok_iWeb {kws : List (Str × V)} (F : FunD K "__init__" "Web.__init__" (defArgs s_iWeb) (defBody s_iWeb) (defScope s_iWeb) [] kws f fd) (T : Txt mg) (O : Obs K cF cR) (O2 : ObW K cW) (C_frozen : Cal P w K mg base 3 "frozen" ["value"] (spFz K 3)) (C_sorted_tie : CalX P w K mg base 4 "sorted_tie" ["places", "index", "tie"] (spSortX K cT cG))
    (C_tie_row : Cal P w K mg base 1 "tie_row" ["places", "tie"] (spRow K)) (C_lowered : Cal P w K mg base 1 "lowered" ["numbers", "bottom"] spLow) (C_RowList : CalK P w K mg base 6 "RowList" cR 2 ["bottom"] (spRows K cF cR)) : FnOk P w K mg base (L2N.CX P w) 8 f fd ["self", "places", "ties", "bottom"] (spWeb K cF cR cW cT cG) := by
  refine okRD F sc_iWeb (fun vs H Q E h => ?_) (fun cdv A outer s H vs Q E hr h => ?_)
  · obtain ⟨a, dx, v, pl, ts, b, rfl, _⟩ := h
    rfl
  obtain ⟨a, dx, v, pl, ts, b, rfl, hself, hv, hw, htl, hpl, hb, hB, q, qT, qG⟩ := h
  refine ⟨_, (pss_cons (LX.ps_setLcX (E := E) (i := 4) (own := [("index", 8), ("tie", 9)]) (tt := tYes) rfl rfl (L2N.takes_of rfl rfl rfl rfl) (by rfl) sc_iWeb.nd rfl rfl (sw_true rfl rfl rfl (by decide +kernel)) (WE.pi_enT (by rfl) T.b_enumerate (pa_cons (pe_cal C_frozen (hr.mono (by omega)) rfl (pa_cons (pv 2) pa_nil)) pa_nil)) (blkOk_by (N := N_iWeb) (sc := defScope s_iWeb) (by decide +kernel)) (fun _ _ _ _ _ => (pg_tupK (K := K) (n := 2) rfl rfl (pgs_cons (pg_name (i := 8) sc_iWeb.nd rfl (Or.inl rfl)) (pgs_cons (pg_name (i := 9) sc_iWeb.nd rfl (Or.inl rfl)) pgs_nil)))) (fun _ _ _ _ _ => pts_nil) (fun _ _ _ _ _ => (LX.pe_calB C_sorted_tie (hr.mono (by omega)) rfl (pa_cons (pv 1) (pa_cons (pv 8) (pa_cons (pv 9) pa_nil))))))
  (pss_cons (ps_asg (pe_cal C_lowered (hr.mono (by omega)) rfl (pa_cons (pe_lc (own := [("tie", 9)]) (g := gName 9) (tt := tYes) (by rfl) sc_iWeb.nd (pi_list (pv 4)) (blkOk_by (N := N_iWeb) (sc := defScope s_iWeb) (by decide +kernel)) (fun _ _ _ _ _ => (pg_name (i := 9) sc_iWeb.nd rfl (Or.inl rfl))) (fun _ _ _ _ _ => pts_nil) (fun _ _ _ _ _ => (pe_ix (ix_tupK (K := K) rfl) (pv 9) pe_int (fun _ _ => rfl)))) (pa_cons (pv 3) pa_nil))) (pg_tup rfl (pgs_cons (pg_name (i := 6) sc_iWeb.nd rfl (Or.inr rfl)) (pgs_cons (pg_name (i := 7) sc_iWeb.nd rfl (Or.inl rfl)) pgs_nil))))
  (pss_cons (ps_setLc (i := 5) (own := [("index", 8), ("tie", 9)]) (tt := tYes) (by rfl) sc_iWeb.nd rfl rfl (sw_true rfl rfl rfl (by decide +kernel)) (pi_enum (by rfl) T.b_enumerate (pa_cons (pv 4) pa_nil)) (blkOk_by (N := N_iWeb) (sc := defScope s_iWeb) (by decide +kernel)) (fun _ _ _ _ _ => (pg_tupK (K := K) (n := 2) rfl rfl (pgs_cons (pg_name (i := 8) sc_iWeb.nd rfl (Or.inl rfl)) (pgs_cons (pg_name (i := 9) sc_iWeb.nd rfl (Or.inl rfl)) pgs_nil)))) (fun _ _ _ _ _ => pts_nil) (fun _ _ _ _ _ => (pe_tup (pa_cons (pe_ix (ix_tupK (K := K) rfl) (pv 9) pe_int (fun _ _ => rfl)) (pa_cons (pe_ix (ix_tupK (K := K) rfl) (pv 9) pe_int (fun _ _ => rfl)) (pa_cons (pe_ix (ix_tupK (K := K) rfl) (pv 6) (pv 8) (fun _ _ => rfl)) pa_nil))))))
  (pss_cons (ps_fld (pv 0) (pv 1) rfl)
  (pss_cons (ps_fld (pv 0) (pe_callTy call_tuple_of (by rfl) T.b_tuple (by decide +kernel) (pa_cons (pv 5) pa_nil)) rfl)
  (pss_cons (ps_fld (pv 0) (pv 7) rfl)
  (pss_cons (ps_fld (pv 0) (pe_calK C_RowList (hr.mono (by omega)) rfl (pa_cons (pv 1) (pa_cons (pe_lc (own := [("tie", 9)]) (g := gName 9) (tt := tYes) (by rfl) sc_iWeb.nd (pi_list (pv 5)) (blkOk_by (N := N_iWeb) (sc := defScope s_iWeb) (by decide +kernel)) (fun _ _ _ _ _ => (pg_name (i := 9) sc_iWeb.nd rfl (Or.inl rfl))) (fun _ _ _ _ _ => pts_nil) (fun _ _ _ _ _ => (pe_tup (pa_cons (pe_cal C_tie_row (hr.mono (by omega)) rfl (pa_cons (pv 1) (pa_cons (pv 9) pa_nil))) (pa_cons (pe_ix (ix_tupK (K := K) rfl) (pv 9) pe_int (fun _ _ => rfl)) pa_nil))))) pa_nil)) (pk_cons (pv 7) pk_nil)) rfl)
  (pss_one (ps_fld (pv 0) (pe_fld (pe_fld (pv 0) rfl) rfl) rfl))))))))), ?_⟩
  refine ⟨_, rfl, v, _, rfl, hv, dep_tds, sm_tds (by omega), fun v1 H1 s1 hz1 => ?_⟩
  cases hz1 with
  | @tup e vs _ he hall =>
  have hl : vs.length = ts.length := by rw [hall.len, List.length_map]
  refine ⟨e, vs, rfl, he, fun D hD => ?_⟩
  refine lc_p (WE.walk_enT (K := K) (a := e) (xs := vs)) (Fz K) stb_Fz ts hl (by omega) hD (fun H' s => Same_seqT s he) (fun _ _ _ _ => ys_pair) (fun t => td3 (imin t.1 t.2.1, imax t.1 t.2.1, t.2.2)) (fun i => wflt pl ts = wfltAt pl i (ts.drop i)) rfl (fun k t x H3 H4 hb1 hp s3 s4 y A B hA => ?_) (fun hp H3 l s3 hl3 rs => ?_)
  · obtain ⟨Tp, x1, x2, rfl, hT, rfl, e1, e2⟩ := y
    cases e1
    obtain ⟨t2, ht2, hz⟩ := hall.get e2
    rw [List.getElem?_map, hb1] at ht2
    cases ht2
    refine ⟨_, _, rfl, SqT.of upd_same, rfl, _, _, rfl, _, _, rfl, rfl, rfl, lc_yes ?_⟩
    rw [wflt_drop hb1] at hp
    have s04 : Same H _ := s1.trans s4
    refine ⟨_, rfl, _, rfl, _, rfl, x2, pl, k, t, rfl, hz.tk (WK.Same.tk s4), fun hno r H' s hr => ?_, fun hT => (qT k (by rw [hp, hT])).same s04, fun hG => (qG k (by rw [hp, hG])).same s04⟩
    exact hA (by rw [hp, hno]) _ _ s (.tup (SqT.of hr) (.cons (.int _) (.cons (.int _) (.cons (.int _) .nil))))
  rw [List.drop_length] at hp
  have q := q hp
  have hok := wflt_none hp
  have hll : l.length = ts.length := by rw [rs.1, List.length_map]
  have tie : ∀ {k : Nat} {x : V} {t : T3}, l[k]? = some x → ts[k]? = some t → ∃ p, x = .ref p ∧ SqT K H3 p [.int (imin t.1 t.2.1), .int (imax t.1 t.2.1), .int t.2.2] := fun {k x t} hx ht => fz_tie (rs.2 k x _ hx (by rw [List.getElem?_map, ht]; rfl))
  -- the strengths
  refine ⟨_, rfl, D, rfl, ⟨_, SqL.of hl3⟩, fun D2 hD2 => ?_⟩
  refine lc_m (walk_list (K := K) (a := D) (xs := l)) RI (stb_RI (K := K)) ts hll (by omega) hD2 (fun H' s => s.seq (SqL.of hl3)) (fun _ _ _ _ => ys_at) (·.2.2) (fun k t x H5 H6 hb1 s5 s6 y A B hA => ?_) (fun H5 l2 s5 hl5 rs2 => ?_)
  · obtain ⟨p, rfl, hp⟩ := tie y.2 hb1
    exact ⟨rfl, lc_yes ⟨_, rfl, p, _, 2, _, rfl, rfl, Same_seqT s6 hp, at_pos (by decide) rfl, hA _ _ (fun _ _ h => h) rfl⟩⟩
  refine ⟨_, rfl, D2, ts.map (·.2.2), b, rfl, by rw [hl5, rs2.ints], hb, hB, by rw [List.length_map]; omega, fun r t H6 s6 hr6 ht6 => ?_⟩
  have hg : 0 < wg ts b := gf_pos hb _
  refine ⟨_, _, rfl, SqT.of hr6, rfl, _, _, rfl, _, _, rfl, rfl, ?_⟩
  -- kept
  have s36 := s5.trans s6
  have hl6 : H6 D = some (.lst l) := s36 _ _ hl3
  refine ⟨_, rfl, D, l, rfl, SqL.of hl6, fun D3 hD3 => ?_⟩
  refine lc_m (walk_enum (K := K) (a := D) (xs := l)) (Fz K) stb_Fz ts hll (by omega) hD3 (fun H' s => s.seq (SqL.of hl6)) (fun _ _ _ _ => ys_pair) (fun t => td3 (imin t.1 t.2.1, imax t.1 t.2.1, t.2.2 / wg ts b)) (fun k t1 x H7 H8 hb1 s7 s8 y A B hA => ?_) (fun H7 l3 s7 hl7 rs3 => ?_)
  · obtain ⟨Tp, x1, x2, rfl, hT, rfl, e1, e2⟩ := y
    cases e1
    obtain ⟨p, rfl, hp⟩ := tie e2 hb1
    have hp8 := Same_seqT (s36.trans s8) hp
    refine ⟨_, _, rfl, SqT.of upd_same, rfl, _, _, rfl, _, _, rfl, rfl, rfl, lc_yes ?_⟩
    refine ⟨_, rfl, p, _, 0, _, rfl, rfl, hp8, at_pos (by decide) rfl, _, rfl, p, _, 1, _, rfl, rfl, hp8, at_pos (by decide) rfl, _, rfl, _, rfl, t, _, _, _, rfl, rfl, SqT.of (s8 _ _ ht6), at_pos (by omega) (v := .int (t1.2.2 / wg ts b)) ?_, three_line, fun z hz => hA _ _ (same_new hz _) (.tup (SqT.of upd_same) (.cons (.int _) (.cons (.int _) (.cons (.int _) .nil))))⟩
    rw [Int.toNat_natCast, List.getElem?_map, List.getElem?_map, List.getElem?_map, hb1]
    rfl
  -- self.places, self.ties, self.bottom
  have sA : Same H H7 := s1.trans (s3.trans (s36.trans s7))
  refine ⟨_, rfl, _, rfl, a, cW, dx, _, rfl, sA _ _ hself, O2.clW, O2.W_places, (by show 0 < 1000; decide), ?_⟩
  generalize hH8 : upd H7 a _ = H8
  have b8 : But a H7 H8 := by rw [← hH8]; exact (But.of fun _ _ h => h).put _
  have hs8 : H8 a = some (.ins cW dx (putF "places" (.int pl) [])) := by rw [← hH8, upd_same]
  have hne3 : D3 ≠ a := ne_of hl7 (sA _ _ hself) (by intro z; cases z)
  have hl8 : H8 D3 = some (.lst l3) := b8 _ _ hl7 hne3
  refine ⟨_, rfl, D3, l3, rfl, .inl ⟨SqL.of hl8, fun t4 ht4 => ?_⟩⟩
  have s9 := same_new ht4 (.tup l3)
  have fz3 : FzAll K H7 l3 ((wt ts b).map td3) := by
    have := rs3.fz
    unfold wt
    rw [List.map_map]
    exact this
  have tk79 : Tk K H7 (upd H8 t4 (.tup l3)) := fun x ys h => Same_seqT s9 (But.tk (sA _ _ hself) b8 _ _ h)
  have hti : Fz K (upd H8 t4 (.tup l3)) (.ref t4) (.tup ((wt ts b).map td3)) := .tup (SqT.of upd_same) (fz3.tk tk79)
  refine ⟨_, rfl, a, cW, dx, _, rfl, s9 _ _ hs8, O2.clW, O2.W_ties, (by show 1 < 1000; decide), ?_⟩
  generalize hH10 : upd (upd H8 t4 (.tup l3)) a _ = H10
  have b10 : But a (upd H8 t4 (.tup l3)) H10 := by rw [← hH10]; exact (But.of fun _ _ h => h).put _
  have hs10 : H10 a = some (.ins cW dx (putF "ties" (.ref t4) (putF "places" (.int pl) []))) := by rw [← hH10, upd_same]
  have hti10 := hti.tk (But.tk (s9 _ _ hs8) b10)
  refine ⟨_, rfl, _, rfl, a, cW, dx, _, rfl, hs10, O2.clW, O2.W_bottom, (by show 2 < 1000; decide), ?_⟩
  generalize hH11 : upd H10 a _ = H11
  have b11 : But a H10 H11 := by rw [← hH11]; exact (But.of fun _ _ h => h).put _
  have hs11 : H11 a = some (.ins cW dx (putF "bottom" (.int (wb ts b)) (putF "ties" (.ref t4) (putF "places" (.int pl) [])))) := by rw [← hH11, upd_same]; rfl
  have hti11 := hti10.tk (But.tk hs10 b11)
  have fz11 : FzAll K H11 l3 ((wt ts b).map td3) := (fz3.tk tk79).tk fun x ys h => But.tk hs10 b11 _ _ (But.tk (s9 _ _ hs8) b10 _ _ h)
  have hl11 : H11 D3 = some (.lst l3) := b11 _ _ (b10 _ _ (s9 _ _ hl8) hne3) hne3
  have bb : But a H H11 := (((But.of sA).trans b8).then s9).trans b10 |>.trans b11
  -- self.rows
  refine ⟨_, rfl, _, rfl, D3, rfl, ⟨_, SqL.of hl11⟩, fun D4 hD4 => ?_⟩
  have hl3l : l3.length = (wt ts b).length := by rw [fz11.len, List.length_map]
  have hwl : (wt ts b).length ≤ 1000 := by unfold wt; rw [List.length_map]; exact htl
  refine lc_m (walk_list (K := K) (a := D3) (xs := l3)) (Fz K) stb_Fz (wt ts b) hl3l (by omega) hD4 (fun H' s => s.seq (SqL.of hl11)) (fun _ _ _ _ => ys_at) (fun t => tdr (trow pl t, t.2.2)) (fun k t1 x H12 H13 hb1 s12 s13 y A B hA => ?_) (fun H12 l4 s12 hl12 rs4 => ?_)
  · obtain ⟨t2, ht2, hz⟩ := fz11.get y.2
    rw [List.getElem?_map, hb1] at ht2
    cases ht2
    refine ⟨rfl, lc_yes ⟨_, rfl, _, rfl, x, pl, t1, rfl, hz.tk (WK.Same.tk s13), by omega, by omega, fun r5 H14 s14 hr14 => ?_⟩⟩
    obtain ⟨p, rfl, hp⟩ := fz_tie (hz.tk (WK.Same.tk (s13.trans s14)))
    exact ⟨_, rfl, p, _, 2, _, rfl, rfl, hp, at_pos (by decide) rfl, two_line, fun z hz2 => hA _ _ (s14.trans (same_new hz2 _)) (.tup (SqT.of upd_same) (.cons (.tup (SqT.of (same_new hz2 _ _ _ hr14)) (FzAll.of_ints _)) (.cons (.int _) .nil)))⟩
  refine ⟨_, rfl, rfl, rfl, fun x dx2 hx hdx hne => ?_⟩
  have hb2 : 0 < wb ts b := quot_pos hg (gf_dvd _).1 (by omega)
  have hpr : Prs pl (psOf pl (wt ts b)) := prs_of hwl (wt_ok hb hok hw)
  have hsn : Sn K H12 (.ref D4) (.tup ((psOf pl (wt ts b)).map tdr)) := by
    refine .lst hl12 ?_
    have := rs4.fz.sn
    unfold psOf
    rw [List.map_map]
    exact this
  refine ⟨x, dx2, _, pl, psOf pl (wt ts b), wb ts b, rfl, upd_same, hsn.same (new_two hx hdx), hpr, hpl, hb2, B.div hg hB, fun H13 hR hbut => ⟨rfl, ?_⟩⟩
  have s13 : Same H12 H13 := made_same hx hdx hbut
  have s1113 := s12.trans s13
  have hs13 := s1113 _ _ hs11
  have hxa : x ≠ a := fun z => by rw [z, s12 _ _ hs11] at hx; cases hx
  refine ⟨_, rfl, a, cW, dx, _, rfl, hs13, O2.clW, O2.W_rows, (by show 3 < 1000; decide), ?_⟩
  generalize hH14 : upd H13 a _ = H14
  have b14 : But a H13 H14 := by rw [← hH14]; exact (But.of fun _ _ h => h).put _
  have hs14 : H14 a = some (.ins cW dx (putF "rows" (.ref x) (putF "bottom" (.int (wb ts b)) (putF "ties" (.ref t4) (putF "places" (.int pl) []))))) := by rw [← hH14, upd_same]
  have t1314 := But.tk (K := K) hs13 b14
  obtain ⟨dx3, qq, Fo, hr1, hr2, hr3⟩ := hR
  have hFa : Fo ≠ a := fun z => by
    obtain ⟨dx4, e4, h4, _⟩ := hr3
    rw [z, hs13] at h4
    simp only [Option.some.injEq, HO.ins.injEq] at h4
    have := congrArg List.length h4.2.2
    rw [show (putF "bottom" (.int (wb ts b)) (putF "ties" (.ref t4) (putF "places" (.int pl) []))) = ([("places", .int pl), ("ties", .ref t4), ("bottom", .int (wb ts b))] : List (Str × V)) from by
      show putF "bottom" _ (putF "ties" _ [("places", V.int pl)]) = _
      rw [putF_ne (by decide +kernel)]
      show putF "bottom" _ [("places", V.int pl), ("ties", V.ref t4)] = _
      rw [putF_ne (by decide +kernel), putF_ne (by decide +kernel)]
      rfl] at h4
    have h5 := (List.cons.inj h4.2.2).1
    have h6 : (("places" : Str)) = "size" := congrArg Prod.fst h5
    exact absurd h6 (by decide +kernel)
  have hx14 : H14 x = some (.ins cR dx3 [("size", .int pl), ("pairs", .ref qq), ("bottom", .int (wpb pl ts b)), ("form", .ref Fo)]) := b14 _ _ hr1 hxa
  have hlk1 : (putF "rows" (.ref x) (putF "bottom" (.int (wb ts b)) (putF "ties" (.ref t4) (putF "places" (.int pl) [])))).lookup ("rows" : Str) = some (.ref x) := by rw [lookup_putF, if_pos rfl]
  have hlk2 : ([("size", .int pl), ("pairs", .ref qq), ("bottom", .int (wpb pl ts b)), ("form", .ref Fo)] : List (Str × V)).lookup ("form" : Str) = some (.ref Fo) := by
    rw [lk_skip (by decide +kernel), lk_skip (by decide +kernel), lk_skip (by decide +kernel), lk_hit]
  refine ⟨_, rfl, a, cW, dx, _, _, rfl, hs14, O2.clW, O2.W_rows, hlk1, x, cR, dx3, _, _, rfl, hx14, O.clR, O.R_form, hlk2, _, rfl, a, cW, dx, _, rfl, hs14, O2.clW, O2.W_form, (by show 4 < 1000; decide), ?_⟩
  have b15 : But a H14 (upd H14 a (.ins cW dx (putF "form" (.ref Fo) (putF "rows" (.ref x) (putF "bottom" (.int (wb ts b)) (putF "ties" (.ref t4) (putF "places" (.int pl) []))))))) := (But.of fun _ _ h => h).put _
  have t15 := But.tk (K := K) hs14 b15
  have tk : Tk K H13 _ := fun y ys h => t15 y ys (t1314 y ys h)
  have hFo := FormAt.at hr3 (fun o e => b15 _ _ (b14 _ _ e hFa) hFa) tk
  refine q _ ⟨dx, t4, x, Fo, by rw [upd_same, flW], (hti11.tk (WK.Same.tk s1113)).tk tk, ⟨dx3, qq, Fo, b15 _ _ hx14 hxa, hr2.tk tk, hFo⟩, hFo⟩ (((bb.then s1113).trans b14).trans b15)
end
end P15
set_option maxHeartbeats 4000000
/-! Making and adding where an error may be caught: what is wished of it knows the state. -/
namespace KO
open PySem PySem.Spec PyProof.Rows L2
theorem pe_either {X : Cx} {e : Expr} {t1 t2 : TE} (h1 : PE X e t1) (h2 : PE X e t2) : PE X e (fun σ H Q => t1 σ H Q ∨ t2 σ H Q) := ⟨fun pins s σ H Q I h => h.elim (h1.run pins s σ H Q I) (h2.run pins s σ H Q I)⟩
def tMakeKS (C : Addr) (n m : Nat) (sp : Sp) (gV : List V → List V → List V) (E : L2.St → XK) (t tk : TA) : TE := fun σ H Q => t σ H fun vs H1 => tk σ H1 fun zs H2 => vs.length = n ∧ zs.length = m ∧ ∀ x dx, H2 x = none → H2 dx = none → dx ≠ x →
  sp (gV (.ref x :: vs) zs) (upd (upd H2 dx (.own x)) x (.ins C dx [])) (fun v H3 => v = .non ∧ Q (.ref x) H3) (E σ)
section
variable {X : Cx} {CX : CXT} {k n : Nat} {f C : Addr} {fd : FuncData} {ps ks : List Str} {sp : Sp} {E : L2.St → XK} {x : Str} {p pos : Pos} {e : Expr} {es : List Expr} {kws : List Keyword} {t tk : TA} {g : List Value → List Value → List Value} {gV : List V → List V → List V}
theorem run_makeKS {pins : List (Addr × Obj)} {σ : L2.St} {H : Hp} {s : Shared} {Q : VK} {us ws : List Value} {vs zs : List V} (M : Mk X.K C f) (F : FnOk X.prog X.w X.K X.mg X.base CX k f fd ps sp) (hr : Room (k + 1) X.A) (hb : KBn X.K fd ps (n + 1) ks g gV) (hx : PassesAt CX X σ (E σ))
    (I : Inv X pins σ H s) (r : Vals vs us) (rz : Vals zs ws) (l1 : vs.length = n) (l2 : zs.length = ks.length)
    (h : ∀ x dx, H x = none → H dx = none → dx ≠ x → sp (gV (.ref x :: vs) zs) (upd (upd H dx (.own x)) x (.ins C dx [])) (fun v H2 => v = .non ∧ Q (.ref x) H2) (E σ)) :
    wpAny (model X.prog X.w) X.A (call (.ref C) us (ks.zip ws)) (EP X pins σ Q) X.xe s := by
  have hq := h (s.heap.objs.size + 1) s.heap.objs.size (I.hok.fresh (Nat.le_succ _)) (I.hok.fresh (Nat.le_refl _)) (Nat.ne_of_lt (Nat.lt_succ_self _))
  have I2 := Inv.made (C := C) I
  have r1 : Vals (V.ref (s.heap.objs.size + 1) :: vs) (Value.ref (s.heap.objs.size + 1) :: us) := .cons rfl r
  have r2 := hb.rel r1 rz
  have n1 : (Value.ref (s.heap.objs.size + 1) :: us).length = n + 1 := by
    rw [List.length_cons, ← r.length, l1]
  refine wpAny_call (make_map (f := f) I.kIn M.makes M.init (beq_iff_eq.mp M.fn) (codeAny_mono (F.run _ X.stack _ _ ⟨Value.ref (s.heap.objs.size + 1) :: us, ks.zip ws⟩ (g (Value.ref (s.heap.objs.size + 1) :: us) ws) _ _ (E σ) (hr.make C us (ks.zip ws))
    (I2.env0.make C us (ks.zip ws)) (hb.to _ (Value.ref (s.heap.objs.size + 1) :: us) ws I2.kIn n1 (rz.length.symm.trans l2)) r2 hq) fun r s' hq' => ?_))
  cases r with
  | error e => exact hx pins _ _ e s' I2 hq'
  | ok fl =>
    cases fl with
    | ret u =>
      obtain ⟨v, H', I3, rv, ev, q3⟩ := I2.after hq'
      subst ev
      exact ⟨rv, ⟨V.ref (s.heap.objs.size + 1), H', I3, rfl, q3⟩⟩
    | next => exact False.elim hq'
    | brk => exact False.elim hq'
    | cont => exact False.elim hq'
/-- C(e, .., k = v, ..) that may raise -/
theorem pe_makeKS (M : Mk X.K C f) (F : FnOk X.prog X.w X.K X.mg X.base CX k f fd ps sp) (hr : Room (k + 1) X.A) (hg : Gl X x) (hm : X.mg x = some (.ref C)) (hb : KBn X.K fd ps (n + 1) ks g gV) (hx : ∀ σ, PassesAt CX X σ (E σ)) (ha : PA X (e :: es) t) (hkw : PK X kws tk)
    (hall : (backToKw pos (keywordEach kws X.env)).all (·.1.isSome) = true := by rfl) (hks : (backToKw pos (keywordEach kws X.env)).filterMap (·.1) = ks := by rfl) (hdb : (x == ("__debug__" : Str)) = false := by decide)
    (he : starEach (e :: es) X.env = (false, eval e X.env) :: starEach es X.env := by rfl) (hpl : ((backTo pos (starEach (e :: es) X.env)).any (·.1) || (backToKw pos (keywordEach kws X.env)).any (·.1.isNone)) = false := by rfl) :
    PE X (.Call (.Name x p) (e :: es) kws pos) (tMakeKS C n ks.length sp gV E t tk) := by
  refine ⟨fun pins s σ H Q I h => ?_⟩
  refine wpAny_Call_Name_kw (ld_glob I hg hm ?_ hdb)
  refine PySem.W.callWith_KW (h₀ := X.base) I.ok.mod.kin M.kp hall (thn (ha.run pos pins s σ H _ I h) fun us s1 ⟨vs, H1, I1, r, q⟩ => ?_) hpl he
  refine thn (hkw.run pos pins s1 σ H1 _ I1 q) fun ws s2 ⟨zs, H2, I2, rz, l1, l2, q2⟩ => ⟨I2.kIn, ?_⟩
  rw [hks]
  exact run_makeKS M F hr hb (hx σ) I2 r rz l1 l2 q2
end
/-! ### o + y that may raise -/
def tOAddS (C : Addr) (sp : Sp) (E : L2.St → XK) (ta tb : TE) : TE := fun σ H Q => ta σ H fun x H1 => tb σ H1 fun y H2 => rOAdd C sp (E σ) x y H2 Q
theorem pe_oaddS {X : Cx} {CX : CXT} {k : Nat} {C f : Addr} {fd : FuncData} {sp : Sp} {ps : List Str} {E : L2.St → XK} {a b : Expr} {ta tb : TE} {pos : Pos} (F : FnOk X.prog X.w X.K X.mg X.base CX k f fd ps sp) (hc : PySem.W.selfFirst X.K C = true) (hs : PySem.W.findIn X.K (.ref C) "__add__" = some (some (.ref f))) (hf : PySem.W.isFn X.K (.ref f) = true)
    (hr : Room k X.A) (hb : Binds X.K fd ps []) (hx : ∀ σ, PassesAt CX X σ (E σ)) (ha : PE X a ta) (hb2 : PE X b tb) : PE X (.BinOp a .Add b pos) (tOAddS C sp E ta tb) := by
  refine ⟨fun pins s0 σ H0 Q I0 h => wpAny_BinOp (binT ha hb2 I0 h fun v u s x y H I rx ry hq => ?_)⟩
  obtain ⟨a, dx, fs, b, dy, gs, rfl, ha, rfl, hb2, hsp⟩ := hq
  cases rx
  cases ry
  obtain ⟨mA, J, _⟩ := ins_get I.hok ha
  obtain ⟨od, J, _⟩ := J.look
  obtain ⟨mB, J', _⟩ := ins_get I.hok hb2
  obtain ⟨od', J', _⟩ := J'.look
  obtain ⟨m, hF⟩ := I.fr
  refine PySem.W.binop_K (op := .Add) hF I.ok.mod.kin J J'.type hc hs hf ?_
  have hl := F.len _ _ _ _ hsp
  have r2 : Vals [V.ref a, V.ref b] [Value.ref a, Value.ref b] := .cons rfl (.cons rfl .nil)
  refine wpAny_call (codeAny_mono (F.run X.A X.stack s H ⟨[.ref a, .ref b], []⟩ [.ref a, .ref b] [.ref a, .ref b] _ (E σ) hr I.env0 (by
    have := hb s [.ref a, .ref b] I.kIn (by simpa using hl)
    simpa using this) r2 hsp) fun r s' hq => ?_)
  cases r with
  | error e => exact hx σ pins H s e s' I hq
  | ok fl =>
    cases fl with
    | next => exact False.elim hq
    | brk => exact False.elim hq
    | cont => exact False.elim hq
    | ret w =>
      obtain ⟨z, H', I', rz, ⟨p, rfl⟩, q⟩ := I.after hq
      cases rz
      exact ⟨.ref p, H', I', rfl, q⟩
end KO
set_option exponentiation.threshold 3000
namespace P15
open PySem PySem.Spec PyProof.Rows L2 SX EX WK
theorem lkWp (n e b r f : V) : ([("places", n), ("ties", e), ("bottom", b), ("rows", r), ("form", f)] : List (Str × V)).lookup ("places" : Str) = some n := by rw [lk_hit]
theorem lkWt (n e b r f : V) : ([("places", n), ("ties", e), ("bottom", b), ("rows", r), ("form", f)] : List (Str × V)).lookup ("ties" : Str) = some e := by rw [lk_skip (by decide +kernel), lk_hit]
theorem lkWb (n e b r f : V) : ([("places", n), ("ties", e), ("bottom", b), ("rows", r), ("form", f)] : List (Str × V)).lookup ("bottom" : Str) = some b := by rw [lk_skip (by decide +kernel), lk_skip (by decide +kernel), lk_hit]
theorem lkWr (n e b r f : V) : ([("places", n), ("ties", e), ("bottom", b), ("rows", r), ("form", f)] : List (Str × V)).lookup ("rows" : Str) = some r := by rw [lk_skip (by decide +kernel), lk_skip (by decide +kernel), lk_skip (by decide +kernel), lk_hit]
theorem lkWf (n e b r f : V) : ([("places", n), ("ties", e), ("bottom", b), ("rows", r), ("form", f)] : List (Str × V)).lookup ("form" : Str) = some f := by rw [lk_skip (by decide +kernel), lk_skip (by decide +kernel), lk_skip (by decide +kernel), lk_skip (by decide +kernel), lk_hit]
/-- what does not raise -/
theorem calm_of {P : Program} {w : World} {K : PySem.W.Frag} {mg : Str → Option Value} {base : Heap} {k : Nat} {f : Addr} {fd : FuncData} {ps : List Str} {sp : Sp} (F : FnOk P w K mg base (L2N.CX P w) k f fd ps sp) : FnOk P w K mg base CX0 k f fd ps (fun vs H Q _ => sp vs H Q E0) := by
  refine ⟨fun vs H Q E h => F.len vs H Q E0 h, fun A outer s H args us vs Q E hr e hb hv hs => codeAny_mono (F.run A outer s H args us vs Q E0 hr e hb hv hs) fun r s' h => ?_⟩
  cases r with
  | ok fl =>
    cases fl with
    | ret u => exact h
    | next => exact h.elim
    | brk => exact h.elim
    | cont => exact h.elim
  | error e =>
    obtain ⟨_, _, _, _, _, _, _, _, _, _, _, _, z⟩ := h
    exact z.elim
/-- a class whose __init__ may raise -/
def CalKX (P : Program) (w : World) (K : PySem.W.Frag) (mg : Str → Option Value) (base : Heap) (k : Nat) (x : Str) (C : Addr) (n : Nat) (ks : List Str) (sp : Sp) : Prop :=
  ∃ (f : Addr) (fd : FuncData) (ps : List Str) (g : List Value → List Value → List Value), Mk K C f ∧ FnOk P w K mg base (L2N.CX P w) k f fd ps sp ∧ mg x = some (.ref C) ∧ KBn K fd ps (n + 1) ks g (fun vs zs => vs ++ zs)
theorem pe_calKX {X : Cx} {k n : Nat} {W : WX} {C : Addr} {x : Str} {ks : List Str} {sp : Sp} {p pos : Pos} {e : Expr} {es : List Expr} {kws : List Keyword} {t tk : TA} (M : CalKX X.prog X.w X.K X.mg X.base k x C n ks sp) (hr : Room (k + 1) X.A) (hg : Gl X x) (tk0 : L2N.Takes X W) (ha : PA X (e :: es) t) (hkw : PK X kws tk)
    (hall : (backToKw pos (keywordEach kws X.env)).all (·.1.isSome) = true := by rfl) (hks : (backToKw pos (keywordEach kws X.env)).filterMap (·.1) = ks := by rfl) (hdb : (x == ("__debug__" : Str)) = false := by decide)
    (he : starEach (e :: es) X.env = (false, eval e X.env) :: starEach es X.env := by rfl) (hpl : ((backTo pos (starEach (e :: es) X.env)).any (·.1) || (backToKw pos (keywordEach kws X.env)).any (·.1.isNone)) = false := by rfl) :
    PE X (.Call (.Name x p) (e :: es) kws pos) (KO.tMakeKS C n ks.length sp (fun vs zs => vs ++ zs) (WE W) t tk) := by
  obtain ⟨f, fd, ps, g, M, F, hm, hb⟩ := M
  exact KO.pe_makeKS M F hr hg hm hb (L2N.passAt tk0) ha hkw hall hks hdb he hpl
theorem CalKX.calm {P : Program} {w : World} {K : PySem.W.Frag} {mg : Str → Option Value} {base : Heap} {k n : Nat} {x : Str} {C : Addr} {ks : List Str} {sp : Sp} (h : CalKX P w K mg base k x C n ks sp) : CalK P w K mg base k x C n ks (fun vs H Q _ => sp vs H Q E0) := by
  obtain ⟨f, fd, ps, g, M, F, hm, hb⟩ := h
  exact ⟨f, fd, ps, g, M, calm_of F, hm, hb⟩
/-- a class without its keyword: the bottom is 1 -/
def CalK1 (P : Program) (w : World) (K : PySem.W.Frag) (mg : Str → Option Value) (base : Heap) (k : Nat) (x : Str) (C : Addr) (n : Nat) (sp : Sp) : Prop :=
  ∃ (f : Addr) (fd : FuncData) (ps : List Str) (g : List Value → List Value → List Value), Mk K C f ∧ FnOk P w K mg base CX0 k f fd ps sp ∧ mg x = some (.ref C) ∧ KBn K fd ps (n + 1) [] g (fun vs _ => vs ++ [.int 1])
theorem pe_calK1 {X : Cx} {k n : Nat} {C : Addr} {x : Str} {sp : Sp} {p pos : Pos} {e : Expr} {es : List Expr} {t : TA} (M : CalK1 X.prog X.w X.K X.mg X.base k x C n sp) (hr : Room (k + 1) X.A) (hg : Gl X x) (ha : PA X (e :: es) t)
    (hall : (backToKw pos (keywordEach [] X.env)).all (·.1.isSome) = true := by rfl) (hks : (backToKw pos (keywordEach [] X.env)).filterMap (·.1) = [] := by rfl) (hdb : (x == ("__debug__" : Str)) = false := by decide)
    (he : starEach (e :: es) X.env = (false, eval e X.env) :: starEach es X.env := by rfl) (hpl : ((backTo pos (starEach (e :: es) X.env)).any (·.1) || (backToKw pos (keywordEach [] X.env)).any (·.1.isNone)) = false := by rfl) :
    PE X (.Call (.Name x p) (e :: es) [] pos) (tMakeK C n 0 sp (fun vs _ => vs ++ [.int 1]) E0 t tNil) := by
  obtain ⟨f, fd, ps, g, M, F, hm, hb⟩ := M
  exact pe_makeK M F hr hg hm hb pass0 ha pk_nil hall hks hdb he hpl
/-! ### data -/
mutual
theorem td_lay : ∀ t : Td, t.py.canLay0 = true
  | .int i => by simp [Td.py, PyData.canLay0]
  | .tup ts => by
    rw [Td.py, PyData.canLay0]
    exact td_lays ts
theorem td_lays : ∀ ts : List Td, PyData.canLayAll0 (Td.pys ts) = true
  | [] => rfl
  | t :: ts => by
    rw [Td.pys, PyData.canLayAll0, td_lay t, td_lays ts]
    rfl
end
mutual
theorem td_dep : ∀ t : Td, t.py.depth ≤ t.dep
  | .int i => by simp [Td.py, PyData.depth]
  | .tup ts => by
    have h := td_deps ts
    simp only [Td.py, PyData.depth, Td.dep]
    omega
theorem td_deps : ∀ ts : List Td, PyData.depthAll (Td.pys ts) ≤ Td.deps ts
  | [] => Nat.zero_le _
  | t :: ts => by
    have h1 := td_dep t
    have h2 := td_deps ts
    simp only [Td.pys, PyData.depthAll, Td.deps]
    omega
end
theorem td_shaped {t : Td} (h : t.dep ≤ 64) : SeqAt.shaped t.py = true := by
  unfold SeqAt.shaped
  rw [td_lay t, decide_eq_true (Nat.le_trans (td_dep t) h)]
  rfl
theorem eqv_self {d : PyData} (h : SeqAt.shaped d = true) : PyData.eqv d d = true := SeqAt.eqv_refl _ (SeqAt.canLay_of_shaped h)
mutual
theorem td_eqv : ∀ t u : Td, (PyData.eqv t.py u.py = true ↔ t = u)
  | .int i, .int j => by
    simp only [Td.py, PyData.eqv, beq_iff_eq, Td.int.injEq]
  | .int i, .tup us => by simp [Td.py, PyData.eqv]
  | .tup ts, .int j => by simp [Td.py, PyData.eqv]
  | .tup ts, .tup us => by
    rw [Td.py, Td.py, PyData.eqv, td_eqvs ts us, Td.tup.injEq]
theorem td_eqvs : ∀ ts us : List Td, (PyData.eqvAll (Td.pys ts) (Td.pys us) = true ↔ ts = us)
  | [], [] => by simp [Td.pys, PyData.eqvAll]
  | [], u :: us => by simp [Td.pys, PyData.eqvAll]
  | t :: ts, [] => by simp [Td.pys, PyData.eqvAll]
  | t :: ts, u :: us => by
    rw [Td.pys, Td.pys, PyData.eqvAll, Bool.and_eq_true, td_eqv t u, td_eqvs ts us, List.cons.injEq]
end
theorem td3_inj {p q : T3} (h : td3 p = td3 q) : p = q := by
  obtain ⟨a, b, c⟩ := p
  obtain ⟨d, e, f⟩ := q
  unfold td3 at h
  simp only [Td.tup.injEq, List.cons.injEq, Td.int.injEq, and_true] at h
  rw [h.1, h.2.1, h.2.2]
theorem td3s_inj {ps qs : List T3} (h : ps.map td3 = qs.map td3) : ps = qs := by
  induction ps generalizing qs with
  | nil => cases qs with
    | nil => rfl
    | cons => cases h
  | cons p ps ih => cases qs with
    | nil => cases h
    | cons q qs =>
      simp only [List.map_cons, List.cons.injEq] at h
      rw [td3_inj h.1, ih h.2]
theorem ts_eqv (ps qs : List T3) : PyData.eqv (Td.tup (ps.map td3)).py (Td.tup (qs.map td3)).py = decide (ps = qs) := by
  rw [Bool.eq_iff_iff, td_eqv, decide_eq_true_iff, Td.tup.injEq]
  exact ⟨td3s_inj, fun h => by rw [h]⟩
theorem fz_all {K : PySem.W.Frag} {H : Hp} {e : Addr} {ts : List Td} (h : Fz K H (.ref e) (.tup ts)) : ∃ vs, SqT K H e vs ∧ FzAll K H vs ts := by
  cases h with
  | @tup a vs ts ha hall => exact ⟨vs, ha, hall⟩
theorem ties_at {K : PySem.W.Frag} {H : Hp} {vs : List V} {ts : List T3} (h : FzAll K H vs (ts.map td3)) {i : Nat} {t : T3} (ht : ts[i]? = some t) : ∃ q, vs[i]? = some (.ref q) ∧ SqT K H q [.int t.1, .int t.2.1, .int t.2.2] := by
  have hl : vs.length = ts.length := by rw [h.len, List.length_map]
  have hi : i < vs.length := by
    have := (List.getElem?_eq_some_iff.mp ht).1
    omega
  obtain ⟨u, hu, hz⟩ := h.get (List.getElem?_eq_getElem hi)
  rw [List.getElem?_map, ht] at hu
  cases hu
  obtain ⟨q, e, hq⟩ := fz_tie hz
  exact ⟨q, by rw [List.getElem?_eq_getElem hi, e], hq⟩
theorem wt_len {ts : List T3} {b : Int} : (wt ts b).length = ts.length := by unfold wt; rw [List.length_map]
section
variable {K : PySem.W.Frag} {cF cR cW : Addr}
/-- what a new web of these ties is -/
theorem made {H H' H3 : Hp} {x dx : Addr} {o : HO} (hx : H' x = none) (hd : H' dx = none) (s : Same H H') (hb : But x (upd (upd H' dx (.own x)) x (.ins cW dx [])) H3) : Same H H3 := s.trans (made_same hx hd hb)
theorem wt_okU {pl : Int} {ts : List T3} {b : Int} (hb : 0 < b) (h : ∀ t ∈ ts, OkU pl t) (h2 : ∀ t ∈ ts, B 1400 t.2.2) : ∀ t ∈ wt ts b, OkU pl t ∧ B 1400 t.2.2 := fun t ht => by
  have h3 := wt_ok hb h h2 t ht
  obtain ⟨t0, h0, rfl⟩ := List.mem_map.mp ht
  obtain ⟨g1, g2, g3, g4, g5, g6⟩ := h t0 h0
  refine ⟨⟨?_, ?_, ?_, ?_, ?_, h3.1⟩, h3.2⟩ <;> (show _; simp only [imin, imax]; split <;> omega)
theorem wb_pos {ts : List T3} {b : Int} (hb : 0 < b) : 0 < wb ts b := quot_pos (gf_pos hb _) (gf_dvd _).1 (by omega)
theorem wb_B {k : Nat} {ts : List T3} {b : Int} (hb : 0 < b) (h : B k b) : B k (wb ts b) := B.div (gf_pos hb _) h
end
end P15
namespace P15
open PySem PySem.Spec PyProof.Rows L2 SX EX WK
/-! ### the steps of the greatest common divisor -/
/-- behind i steps from (a0, b0): (a, b) -/
def Eu (a0 b0 : Nat) (i a b : Nat) : Prop := Nat.gcd a b = Nat.gcd a0 b0 ∧ ((i = 0 ∧ a = a0 ∧ b = b0) ∨ (1 ≤ i ∧ b < a ∧ a * b * 2 ^ (i - 1) ≤ 2 ^ 13000))
theorem eu_start {a0 b0 : Nat} : Eu a0 b0 0 a0 b0 := ⟨rfl, .inl ⟨rfl, rfl, rfl⟩⟩
theorem eu_step {a0 b0 i a b : Nat} (hb0 : b0 < 2 ^ 6500) (h : Eu a0 b0 i a b) (hb : b ≠ 0) : Eu a0 b0 (i + 1) b (a % b) := by
  obtain ⟨g, h⟩ := h
  have hlt : a % b < b := Nat.mod_lt _ (by omega)
  refine ⟨by rw [← g, Nat.gcd_comm b, ← Nat.gcd_rec b a, Nat.gcd_comm], .inr ⟨by omega, hlt, ?_⟩⟩
  rw [show i + 1 - 1 = i by omega]
  rcases h with ⟨rfl, rfl, rfl⟩ | ⟨hi, hab, hm⟩
  · have h1 : b * (a % b) ≤ b * b := Nat.mul_le_mul_left b (by omega)
    have h2 : b * b ≤ 2 ^ 6500 * 2 ^ 6500 := Nat.mul_le_mul (by omega) (by omega)
    rw [← Nat.pow_add] at h2
    rw [Nat.pow_zero, Nat.mul_one]
    exact Nat.le_trans h1 h2
  · have h1 : 2 * (a % b) ≤ a := by
      have e := Nat.div_add_mod a b
      have q : 1 ≤ a / b := Nat.div_pos (by omega) (by omega)
      have := Nat.mul_le_mul_left b q
      omega
    have h2 : b * (a % b) * 2 ≤ a * b := by
      rw [Nat.mul_assoc, Nat.mul_comm a b, Nat.mul_comm (a % b) 2]
      exact Nat.mul_le_mul_left b h1
    have e : 2 ^ i = 2 * 2 ^ (i - 1) := by
      rw [← Nat.pow_succ', Nat.succ_eq_add_one, show i - 1 + 1 = i by omega]
    rw [e, ← Nat.mul_assoc]
    exact Nat.le_trans (Nat.mul_le_mul_right _ h2) hm
theorem eu_end {a0 b0 a b : Nat} (h : Eu a0 b0 100000 a b) : b = 0 := by
  obtain ⟨_, h⟩ := h
  rcases h with ⟨h, _⟩ | ⟨_, hab, hm⟩
  · exact absurd h (by decide)
  · rcases Nat.eq_zero_or_pos b with h | h
    · exact h
    · exfalso
      have h1 : 1 ≤ a * b := Nat.mul_pos (by omega) h
      have h2 : 2 ^ (100000 - 1) ≤ a * b * 2 ^ (100000 - 1) := Nat.le_mul_of_pos_left _ h1
      have h3 : (2 : Nat) ^ 13000 < 2 ^ (100000 - 1) := Nat.pow_lt_pow_right (by decide) (by decide)
      omega
theorem eu_gcd {a0 b0 i a : Nat} (h : Eu a0 b0 i a 0) : a = Nat.gcd a0 b0 := by
  rw [← h.1, Nat.gcd_zero_right]
theorem gI_leb {t b : Int} (hb : 0 < b) : gI t b ≤ b := by
  have : Nat.gcd t.natAbs b.natAbs ≤ b.natAbs := Nat.le_of_dvd (by omega) (Nat.gcd_dvd_right _ _)
  unfold gI
  omega
theorem seq_asg {te : TE} {i : Nat} {u : TS} {D : Ends} {σ : L2.St} {H : Hp} (h : te σ H fun x H1 => u D (σ.set i (some x)) H1) : tSeq (tAsg te (gName i)) u D σ H := h
theorem kit1 {K : PySem.W.Frag} : PySem.W.kitOne K (.type "int") (.type "int") = some true := kit_ty (by decide +kernel)
theorem kit2 {K : PySem.W.Frag} : PySem.W.kitOne K (.type "int") (.type "bool") = some false := kit_ty (by decide +kernel)
theorem kit6 {K : PySem.W.Frag} : PySem.W.kitOne K (.type "tuple") (.type "tuple") = some true := kit_ty (by decide +kernel)
/-! ### _law_cell: some int -/
def spCell (K : PySem.W.Frag) : Sp := fun vs H Q _ => ∃ (a : Addr) (ns : List Int) (k : Int), vs = [.ref a, .int k] ∧ SqL K H a (ns.map V.int) ∧ 0 ≤ k ∧ k ≤ 1000 ∧ ∀ i : Int, Q (.int i) H
abbrev s__law_cell : Stmt := top 44
abbrev N__law_cell : List Str := ["script", "k", "seed", "cell"]
theorem sc__law_cell : FnScope N__law_cell ["script", "k"] (defScope s__law_cell) := ⟨rfl, rfl, rfl, by decide +kernel, rfl, by decide +kernel, by decide +kernel⟩
/-- digits: each is below its size -/
abbrev Dig (ns zs : List Int) : Prop := Paired (fun n z => 0 ≤ n ∧ n < z) ns zs
theorem Dig.snoc : ∀ {ns zs : List Int} {n z : Int}, Dig ns zs → 0 ≤ n → n < z → Dig (ns ++ [n]) (zs ++ [z])
  | _, _, _, _, .nil, h1, h2 => .cons ⟨h1, h2⟩ .nil
  | _, _, _, _, .cons r t, h1, h2 => .cons r (Dig.snoc t h1 h2)
theorem Dig.get : ∀ {ns zs : List Int} {i : Nat} {z : Int}, Dig ns zs → zs[i]? = some z → ∃ n, ns[i]? = some n ∧ 0 ≤ n ∧ n < z
  | _, _, _, _, .nil, e => by simp at e
  | _, _, 0, _, .cons r _, e => by cases e; exact ⟨_, rfl, r.1, r.2⟩
  | _, _, i + 1, z, .cons _ t, e => by
    obtain ⟨n, h1, h2⟩ := Dig.get (i := i) (z := z) t (by simpa using e)
    exact ⟨n, by simpa using h1, h2⟩
theorem Dig.len {ns zs : List Int} (d : Dig ns zs) : ns.length = zs.length := Paired.length d
theorem take_snoc {α : Type} {l : List α} {i : Nat} {x : α} (h : l[i]? = some x) : l.take (i + 1) = l.take i ++ [x] := by
  rw [List.take_add_one, h]
  rfl
theorem map_int {ns : List Int} {i : Nat} {x : V} (h : (ns.map V.int)[i]? = some x) : ∃ z, ns[i]? = some z ∧ x = .int z := by
  rw [List.getElem?_map] at h
  cases e : ns[i]? with
  | none => rw [e] at h; cases h
  | some z => rw [e] at h; exact ⟨z, rfl, (Option.some.inj h).symm⟩
theorem int_at {ns : List Int} {i : Nat} {z : Int} (h : ns[i]? = some z) : (ns.map V.int)[i]? = some (.int z) := by
  rw [List.getElem?_map, h]
  rfl
theorem snoc_int (ns : List Int) (n : Int) : ns.map V.int ++ [V.int n] = (ns ++ [n]).map V.int := by
  rw [List.map_append]
  rfl
/-! ### _law_digits: one digit for each size -/
def spDigits (K : PySem.W.Frag) : Sp := fun vs H Q _ => ∃ (c : Int) (a : Addr) (zs : List Int), vs = [.int c, .ref a] ∧ SqL K H a (zs.map V.int) ∧ zs.length ≤ 1000 ∧ (∀ z ∈ zs, 0 < z ∧ z.natAbs < 2 ^ 2000) ∧
  ∀ p ns, H p = none → Dig ns zs → Q (.ref p) (upd H p (.lst (ns.map V.int)))
abbrev s__law_digits : Stmt := top 45
abbrev N__law_digits : List Str := ["cell", "sizes", "row", "rest", "size", "seed", "k", "twice"]
theorem sc__law_digits : FnScope N__law_digits ["cell", "sizes"] (defScope s__law_digits) := ⟨rfl, rfl, rfl, by decide +kernel, rfl, by decide +kernel, by decide +kernel⟩
section
variable {P : Program} {w : World} {K : PySem.W.Frag} {mg : Str → Option Value} {base : Heap} {f : Addr} {fd : FuncData}
theorem ok__law_cell (F : Fun K "_law_cell" "_law_cell" s__law_cell f fd) (T : Txt mg) : FnOk P w K mg base CX0 1 f fd ["script", "k"] (spCell K) := by
  refine F.ok sc__law_cell (fun vs H Q E h => ?_) (fun cdv A outer s H vs Q E hr h => ?_)
  · obtain ⟨a, ns, k, rfl, _⟩ := h
    rfl
  obtain ⟨a, ns, k, rfl, hs, h0, h1, q⟩ := h
  refine ⟨_, (pss_cons (ps_if (pt_cmpR op_lt (pv 1) (pe_callB call_len_seq (by rfl) T.b_len PySem.boot_len (pa_cons (pv 0) pa_nil)) (nomark _)) (pss_one (ps_ret (pe_ix ix_list (pv 0) (pv 1) (fun _ _ => rfl)))) pss_nil)
  (pss_cons (ps_set (i := 2) sc__law_cell.nd rfl (Or.inl rfl) pe_int)
  (pss_cons (ps_for PassesOwn.never rfl (pi_list (pv 0)) (pg_name (i := 3) sc__law_cell.nd rfl (Or.inl rfl)) (pss_one (ps_set (i := 2) sc__law_cell.nd rfl (Or.inl rfl) (pe_op op_mod (pe_callTy call_int1 (by rfl) T.b_int (by decide +kernel) (pa_cons (pe_op op_add (pe_op op_mul (pv 2) pe_int) (pe_op op_mod (pe_callTy call_int1 (by rfl) T.b_int (by decide +kernel) (pa_cons (pv 3) pa_nil)) pe_int)) pa_nil)) pe_int))))
  (pss_one (ps_ret (pe_op op_mod (pe_callTy call_int1 (by rfl) T.b_int (by decide +kernel) (pa_cons (pe_op op_mul (pe_op op_mul (pe_op op_add (pv 2) pe_int) (pe_op op_add (pv 1) pe_int)) pe_int) pa_nil)) pe_int)))))), ?_⟩
  refine ⟨_, rfl, _, rfl, a, _, rfl, .inl hs, _, _, rfl, rfl, _, rfl, ?_⟩
  refine ite2 (fun c => ?_) (fun c => ?_)
  · have c' : k < (((ns.map V.int).length : Nat) : Int) := of_decide_eq_true c
    rw [List.length_map] at c'
    obtain ⟨z, hz⟩ : ∃ z, ns[k.toNat]? = some z := ⟨ns[k.toNat]'(by omega), List.getElem?_eq_getElem (by omega)⟩
    exact ⟨_, rfl, _, rfl, a, _, k, _, rfl, rfl, hs, at_pos h0 (int_at hz), q z⟩
  · refine ⟨_, rfl, a, rfl, ⟨_, hs⟩, for_list (K := K) (a := a) (xs := ns.map V.int) (fun i σ H' => ∃ (z : Int) (v : Option V), σ = [some (.ref a), some (.int k), some (.int z), v] ∧ H' = H)
      ⟨17, none, rfl, rfl⟩ (fun i σ H' _ ⟨_, _, _, e⟩ => by rw [e]; exact hs) ?_ ?_⟩
    · rintro i y σ H' hi ⟨z, v, rfl, rfl⟩
      obtain ⟨x, hx, rfl⟩ := map_int hi
      refine ⟨_, rfl, _, _, rfl, rfl, .inr (by decide), _, rfl, .inl ⟨_, rfl, _, _, rfl, rfl, (by show (0 : Int) < 1000003; decide), _, _, rfl, rfl, .inl ⟨_, rfl, _, _, rfl, rfl, (by show (0 : Int) < 1000003; decide), ?_⟩⟩⟩
      exact ⟨_, _, rfl, rfl⟩
    · rintro σ H' ⟨z, v, rfl, rfl⟩
      refine ⟨_, rfl, _, _, rfl, rfl, _, rfl, _, _, rfl, rfl, _, _, rfl, rfl, .inr (by omega), _, _, rfl, rfl, .inr (by decide), .inl ⟨_, rfl, _, _, rfl, rfl, (by show (0 : Int) < 2147483647; decide), ?_⟩⟩
      exact q _
theorem ok__law_digits (F : Fun K "_law_digits" "_law_digits" s__law_digits f fd) (T : Txt mg) : FnOk P w K mg base CX0 1 f fd ["cell", "sizes"] (spDigits K) := by
  refine F.ok sc__law_digits (fun vs H Q E h => ?_) (fun cdv A outer s H vs Q E hr h => ?_)
  · obtain ⟨c, a, zs, rfl, _⟩ := h
    rfl
  obtain ⟨c, a, zs, rfl, hs, hz9, hz, q⟩ := h
  refine ⟨_, (pss_cons (ps_set (i := 2) sc__law_digits.nd rfl (Or.inl rfl) (pe_lst pa_nil))
  (pss_cons (ps_set (i := 3) sc__law_digits.nd rfl (Or.inl rfl) (pe_callTy call_int1 (by rfl) T.b_int (by decide +kernel) (pa_cons (pv 0) pa_nil)))
  (pss_cons (ps_if (pt_cmpR op_ge (pv 3) (pe_op op_pow pe_int pe_int) (nomark _)) (pss_cons (ps_set (i := 3) sc__law_digits.nd rfl (Or.inl rfl) (pe_op op_sub (pv 3) (pe_op op_pow pe_int pe_int)))
  (pss_cons (ps_for PassesOwn.never rfl (pi_list (pv 1)) (pg_name (i := 4) sc__law_digits.nd rfl (Or.inl rfl)) (pss_cons (ps_expr (pe_bm PySem.F.plainAttrs_list PySem.F.slot_list_append PySem.F.type_list_append mt_append (pv 2) (pa_cons (pe_op op_mod (pe_callTy call_int1 (by rfl) T.b_int (by decide +kernel) (pa_cons (pv 3) pa_nil)) (pv 4)) pa_nil)))
  (pss_one (ps_set (i := 3) sc__law_digits.nd rfl (Or.inl rfl) (pe_op op_fdivW (pe_callTy call_int1 (by rfl) T.b_int (by decide +kernel) (pa_cons (pv 3) pa_nil)) (pv 4))))))
  (pss_one (ps_ret (pv 2))))) pss_nil)
  (pss_cons (ps_set (i := 5) sc__law_digits.nd rfl (Or.inl rfl) (pe_op op_mod (pe_callTy call_int1 (by rfl) T.b_int (by decide +kernel) (pa_cons (pv 3) pa_nil)) pe_int))
  (pss_cons (ps_for PassesOwn.never rfl (pi_range1 (by rfl) T.b_range (pa_cons (pe_callB call_len_seq (by rfl) T.b_len PySem.boot_len (pa_cons (pv 1) pa_nil)) pa_nil)) (pg_name (i := 6) sc__law_digits.nd rfl (Or.inl rfl)) (pss_cons (ps_set (i := 5) sc__law_digits.nd rfl (Or.inl rfl) (pe_op op_mod (pe_callTy call_int1 (by rfl) T.b_int (by decide +kernel) (pa_cons (pe_op op_add (pe_op op_add (pe_op op_mul (pv 5) pe_int) (pe_op op_mul pe_int (pv 6))) pe_int) pa_nil)) pe_int))
  (pss_cons (ps_set (i := 7) sc__law_digits.nd rfl (Or.inl rfl) (pe_op op_mod (pe_callTy call_int1 (by rfl) T.b_int (by decide +kernel) (pa_cons (pe_op op_mul (pv 5) (pe_op op_add (pe_op op_fdiv (pv 5) pe_int) pe_int)) pa_nil)) pe_int))
  (pss_one (ps_expr (pe_bm PySem.F.plainAttrs_list PySem.F.slot_list_append PySem.F.type_list_append mt_append (pv 2) (pa_cons (pe_op op_mod (pe_op op_fdiv (pv 7) pe_int) (pe_ix ix_list (pv 1) (pv 6) (fun _ _ => rfl))) pa_nil)))))))
  (pss_one (ps_ret (pv 2)))))))), ?_⟩
  have keep : ∀ {p : Addr} {o : HO}, H p = none → SqL K (upd H p o) a (zs.map V.int) := fun hp => (same_new hp _).seq hs
  refine ⟨(by show 0 ≤ sizeLine; exact Nat.zero_le _), fun p hp => ?_⟩
  refine ⟨_, rfl, .inl ⟨_, rfl, ?_⟩⟩
  refine ⟨_, rfl, _, _, rfl, rfl, ⟨by decide, by decide, by decide⟩, _, _, rfl, rfl, _, rfl, ?_⟩
  refine ite2 (fun _ => ?_) (fun _ => ?_)
  · refine ⟨_, rfl, _, _, rfl, rfl, ⟨by decide, by decide, by decide⟩, _, _, rfl, rfl, ?_⟩
    refine ⟨_, rfl, a, rfl, ⟨_, keep hp⟩, for_list (K := K) (a := a) (xs := zs.map V.int) (fun i σ H' => ∃ (z : Int) (v : Option V) (ns : List Int), σ = [some (.int c), some (.ref a), some (.ref p), some (.int z), v, none, none, none] ∧ H' = upd H p (.lst (ns.map V.int)) ∧ Dig ns (zs.take i))
      ⟨_, none, [], rfl, rfl, .nil⟩ (fun i σ H' _ ⟨_, _, _, _, e, _⟩ => by rw [e]; exact keep hp) ?_ ?_⟩
    · rintro i y σ H' hi ⟨z, v, ns, rfl, rfl, hd⟩
      obtain ⟨x, hx, rfl⟩ := map_int hi
      have hx2 := hz x (List.mem_of_getElem? hx)
      have hlen : ns.length ≤ 1000 := by
        have := hd.len
        rw [List.length_take] at this
        omega
      refine ⟨_, rfl, .inl ⟨rfl, _, SqL.of upd_same⟩, _, rfl, .inl ⟨_, rfl, _, rfl, _, _, rfl, rfl, hx2.1, p, _, _, rfl, rfl, upd_same, by rw [List.length_map]; exact small1000 hlen, ?_⟩⟩
      refine ⟨_, rfl, .inl ⟨_, rfl, _, rfl, _, _, rfl, rfl, wide_div hx2.1 hx2.2 (by decide) (by decide), ?_⟩⟩
      exact ⟨_, _, ns ++ [z % x], rfl, by rw [upd_upd, snoc_int], by rw [take_snoc hx]; exact hd.snoc (Int.emod_nonneg _ (by omega)) (Int.emod_lt_of_pos _ hx2.1)⟩
    · rintro σ H' ⟨z, v, ns, rfl, rfl, hd⟩
      rw [List.length_map, List.take_length] at hd
      exact ⟨_, rfl, q p ns hp hd⟩
  · refine ⟨_, rfl, .inl ⟨_, rfl, _, _, rfl, rfl, (by show (0 : Int) < 2147483629; decide), ?_⟩⟩
    refine ⟨_, rfl, a, _, rfl, .inl (keep hp), _, rfl, by rw [List.length_map]; omega, by rw [List.length_map]; omega, for_range (lo := 0) (n := (((zs.map V.int).length : Nat) : Int).toNat)
      (fun i σ H' => ∃ (sd : Int) (v6 v7 : Option V) (r : Int) (ns : List Int), σ = [some (.int c), some (.ref a), some (.ref p), some (.int r), none, some (.int sd), v6, v7] ∧ 0 ≤ sd ∧ sd < 2147483648 ∧ H' = upd H p (.lst (ns.map V.int)) ∧ Dig ns (zs.take i))
      ⟨_, none, none, _, [], rfl, Int.emod_nonneg _ (by decide), Int.lt_trans (Int.emod_lt_of_pos _ (by decide)) (by decide), rfl, .nil⟩ ?_ ?_⟩
    · rintro i σ H' hi ⟨sd, v6, v7, r, ns, rfl, hs0, hs1, rfl, hd⟩
      rw [Int.toNat_natCast, List.length_map] at hi
      obtain ⟨x, hx⟩ : ∃ x, zs[i]? = some x := ⟨zs[i], List.getElem?_eq_getElem hi⟩
      have hx2 := hz x (List.mem_of_getElem? hx)
      have hlen : ns.length ≤ 1000 := by
        have := hd.len
        rw [List.length_take] at this
        omega
      refine ⟨_, rfl, _, _, rfl, rfl, .inr (by decide), _, rfl, _, _, rfl, rfl, .inl (by decide), _, _, rfl, rfl, _, _, rfl, rfl, .inl ⟨_, rfl, _, _, rfl, rfl, (by show (0 : Int) < 2147483647; decide), ?_⟩⟩
      have b0 : 0 ≤ (sd * 48271 + 974711 * (0 + (i : Int)) + 12345) % 2147483647 := Int.emod_nonneg _ (by decide)
      have b1 : (sd * 48271 + 974711 * (0 + (i : Int)) + 12345) % 2147483647 < 2147483648 := Int.lt_trans (Int.emod_lt_of_pos _ (by decide)) (by decide)
      refine ⟨_, rfl, _, rfl, _, _, rfl, rfl, ⟨by decide, by decide⟩, _, _, rfl, rfl, _, _, rfl, rfl, .inl ⟨Int.lt_of_lt_of_le (by decide) b0, Int.lt_trans b1 (by decide)⟩, .inl ⟨_, rfl, _, _, rfl, rfl, (by show (0 : Int) < 2147483629; decide), ?_⟩⟩
      refine ⟨_, rfl, .inl ⟨rfl, _, SqL.of upd_same⟩, _, rfl, _, _, rfl, rfl, ⟨by decide, by decide⟩, _, rfl, _, rfl, a, _, _, _, rfl, rfl, keep hp, at_pos (by omega) (int_at (by rw [show ((0 : Int) + (i : Nat)).toNat = i by omega]; exact hx)), _, _, rfl, rfl, hx2.1, p, _, _, rfl, rfl, upd_same, by rw [List.length_map]; exact small1000 hlen, ?_⟩
      exact ⟨_, _, _, r, _, rfl, b0, b1, by rw [upd_upd, snoc_int], by rw [take_snoc hx]; exact hd.snoc (Int.emod_nonneg _ (by omega)) (Int.emod_lt_of_pos _ hx2.1)⟩
    · rintro σ H' ⟨sd, v6, v7, r, ns, rfl, hs0, hs1, rfl, hd⟩
      rw [Int.toNat_natCast, List.length_map, List.take_length] at hd
      exact ⟨_, rfl, q p ns hp hd⟩
end
section
variable {P : Program} {w : World} {K : PySem.W.Frag} {mg : Str → Option Value} {base : Heap} {f : Addr} {fd : FuncData}
def spLaw_whole : Sp := fun vs H Q _ => ∃ i : Int, vs = [.int i] ∧ Q (.bl true) H
abbrev s__law_whole : Stmt := top 43
abbrev N__law_whole : List Str := ["value"]
theorem sc__law_whole : FnScope N__law_whole ["value"] (defScope s__law_whole) := ⟨rfl, rfl, rfl, by decide +kernel, rfl, by decide +kernel, by decide +kernel⟩
theorem ok__law_whole (F : Fun K "_law_whole" "_law_whole" s__law_whole f fd) (T : Txt mg) : FnOk P w K mg base CX0 1 f fd ["value"] spLaw_whole := by
  refine F.ok sc__law_whole (fun vs H Q E h => ?_) (fun cdv A outer s H vs Q E hr h => ?_)
  · obtain ⟨i, rfl, _⟩ := h
    rfl
  obtain ⟨i, rfl, q⟩ := h
  refine ⟨_, (pss_one (ps_ret (pe_and (pe_callB call_isi (by rfl) T.b_isinstance (by decide +kernel) (pa_cons (pv 0) (pa_cons (pe_bltn (v := .ty "int") (by rfl) T.b_int (by decide +kernel) rfl) pa_nil))) (pe_one (pe_not (pe_callB call_isi (by rfl) T.b_isinstance (by decide +kernel) (pa_cons (pv 0) (pa_cons (pe_bltn (v := .ty "bool") (by rfl) T.b_bool (by decide +kernel) rfl) pa_nil)))))))), ?_⟩
  refine ⟨_, rfl, _, _, _, _, true, rfl, .ty _, .base (.int i), kit1, true, rfl, ifT rfl ?_⟩
  exact ⟨_, rfl, _, _, _, _, false, rfl, .ty _, .base (.int i), kit2, false, rfl, q⟩
theorem okH__law_whole (F : Fun K "_law_whole" "_law_whole" s__law_whole f fd) (T : Txt mg) : L2H.FnH P w K mg base CX0 1 f fd ["value"] spLaw_whole := by
  refine okH F sc__law_whole (fun vs H Q E h => ?_) (fun cdv A outer s H vs Q E p hr hot h => ?_)
  · obtain ⟨i, rfl, _⟩ := h
    rfl
  obtain ⟨i, rfl, q⟩ := h
  refine ⟨_, (pss_one (ps_ret (pe_and (pe_callB call_isi (by rfl) T.b_isinstance (by decide +kernel) (pa_cons (pv 0) (pa_cons (pe_bltn (v := .ty "int") (by rfl) T.b_int (by decide +kernel) rfl) pa_nil))) (pe_one (pe_not (pe_callB call_isi (by rfl) T.b_isinstance (by decide +kernel) (pa_cons (pv 0) (pa_cons (pe_bltn (v := .ty "bool") (by rfl) T.b_bool (by decide +kernel) rfl) pa_nil)))))))), ?_⟩
  refine ⟨_, rfl, _, _, _, _, true, rfl, .ty _, .base (.int i), kit1, true, rfl, ifT rfl ?_⟩
  exact ⟨_, rfl, _, _, _, _, false, rfl, .ty _, .base (.int i), kit2, false, rfl, q⟩
def spGcd : Sp := fun vs H Q _ => ∃ a b : Int, vs = [.int a, .int b] ∧ B 6500 b ∧ Q (.int (gI a b)) H
abbrev s__law_gcd : Stmt := top 46
abbrev N__law_gcd : List Str := ["one", "two", "turn", "rest"]
theorem sc__law_gcd : FnScope N__law_gcd ["one", "two"] (defScope s__law_gcd) := ⟨rfl, rfl, rfl, by decide +kernel, rfl, by decide +kernel, by decide +kernel⟩
theorem abs_nat (a : Int) : (if a < 0 then -a else a) = ((a.natAbs : Nat) : Int) := by
  split <;> omega
theorem ok__law_gcd (F : Fun K "_law_gcd" "_law_gcd" s__law_gcd f fd) (T : Txt mg) : FnOk P w K mg base CX0 1 f fd ["one", "two"] spGcd := by
  refine F.ok sc__law_gcd (fun vs H Q E h => ?_) (fun cdv A outer s H vs Q E hr h => ?_)
  · obtain ⟨a, b, rfl, _⟩ := h
    rfl
  obtain ⟨a, b, rfl, hB, q⟩ := h
  refine ⟨_, (pss_cons (ps_set (i := 0) sc__law_gcd.nd rfl (Or.inl rfl) (pe_callB call_abs (by rfl) T.b_abs (by decide +kernel) (pa_cons (pv 0) pa_nil)))
  (pss_cons (ps_set (i := 1) sc__law_gcd.nd rfl (Or.inl rfl) (pe_callB call_abs (by rfl) T.b_abs (by decide +kernel) (pa_cons (pv 1) pa_nil)))
  (pss_cons (ps_for PassesOwn.never rfl (pi_range1 (by rfl) T.b_range (pa_cons pe_int pa_nil)) (pg_name (i := 2) sc__law_gcd.nd rfl (Or.inl rfl)) (pss_cons (ps_if (pt_cmpR op_eq (pv 1) pe_int (nomark _)) (pss_one ps_break) pss_nil)
  (pss_cons (ps_set (i := 3) sc__law_gcd.nd rfl (Or.inl rfl) (pe_op op_mod (pe_callTy call_int1 (by rfl) T.b_int (by decide +kernel) (pa_cons (pv 0) pa_nil)) (pv 1)))
  (pss_cons (ps_set (i := 0) sc__law_gcd.nd rfl (Or.inl rfl) (pv 1))
  (pss_one (ps_set (i := 1) sc__law_gcd.nd rfl (Or.inl rfl) (pv 3)))))))
  (pss_one (ps_ret (pv 0)))))), ?_⟩
  refine seq_asg ⟨_, rfl, _, rfl, ?_⟩
  rw [abs_nat a]
  refine seq_asg ⟨_, rfl, _, rfl, ?_⟩
  rw [abs_nat b]
  refine ⟨100000, rfl, by decide, by decide, for_range (lo := 0) (n := (100000 : Int).toNat) (fun i σ H' => ∃ (x y : Nat) (v2 v3 : Option V), σ = [some (.int (x : Nat)), some (.int (y : Nat)), v2, v3] ∧ H' = H ∧ Eu a.natAbs b.natAbs i x y) ⟨a.natAbs, b.natAbs, none, none, rfl, rfl, eu_start⟩ ?_ ?_⟩
  · rintro i σ H' hi ⟨x, y, v2, v3, rfl, rfl, e⟩
    refine ⟨_, rfl, rfl, _, rfl, ?_⟩
    refine ite2 (fun c => ?_) (fun c => ?_)
    · have hy : y = 0 := by
        have := V.int.inj (of_decide_eq_true c)
        omega
      subst hy
      refine ⟨_, rfl, ?_⟩
      rw [eu_gcd e]
      exact q
    · have hy : y ≠ 0 := fun z => c (by subst z; exact decide_eq_true rfl)
      refine ⟨_, rfl, .inl ⟨_, rfl, _, rfl, _, _, rfl, rfl, by omega, ?_⟩⟩
      refine ⟨_, rfl, _, rfl, ?_⟩
      exact ⟨y, x % y, _, _, rfl, rfl, eu_step hB e hy⟩
  · rintro σ H' ⟨x, y, v2, v3, rfl, rfl, e⟩
    have hy := eu_end e
    subst hy
    refine ⟨_, rfl, ?_⟩
    rw [eu_gcd e]
    exact q
/-! ### _law_is_fraction -/
def spLeast : Sp := fun vs H Q _ => ∃ t b : Int, vs = [.int t, .int b] ∧ 0 < b ∧ B 6500 b ∧ ∀ r H', Same H H' → FrAt H' r (t / gI t b) (b / gI t b) → Q (.ref r) H'
abbrev s__law_least : Stmt := top 47
abbrev N__law_least : List Str := ["top", "base", "shared"]
theorem sc__law_least : FnScope N__law_least ["top", "base"] (defScope s__law_least) := ⟨rfl, rfl, rfl, by decide +kernel, rfl, by decide +kernel, by decide +kernel⟩
theorem ok__law_least (F : Fun K "_law_least" "_law_least" s__law_least f fd) (T : Txt mg) (C__law_gcd : Cal P w K mg base 1 "_law_gcd" ["one", "two"] spGcd) : FnOk P w K mg base CX0 2 f fd ["top", "base"] spLeast := by
  refine F.ok sc__law_least (fun vs H Q E h => ?_) (fun cdv A outer s H vs Q E hr h => ?_)
  · obtain ⟨t, b, rfl, _⟩ := h
    rfl
  obtain ⟨t, b, rfl, hb, hB, q⟩ := h
  refine ⟨_, (pss_cons (ps_set (i := 2) sc__law_least.nd rfl (Or.inl rfl) (pe_cal C__law_gcd (hr.mono (by omega)) rfl (pa_cons (pv 0) (pa_cons (pv 1) pa_nil))))
  (pss_cons (ps_if (pt_cmpR op_lt (pv 1) pe_int (nomark _)) (pss_one (ps_set (i := 2) sc__law_least.nd rfl (Or.inl rfl) (pe_un un_neg (pv 2)))) pss_nil)
  (pss_one (ps_ret (pe_tup (pa_cons (pe_op op_fdivW (pv 0) (pv 2)) (pa_cons (pe_op op_fdivW (pv 1) (pv 2)) pa_nil))))))), ?_⟩
  refine ⟨_, rfl, _, rfl, t, b, rfl, hB, ?_⟩
  refine ⟨_, rfl, _, _, rfl, rfl, _, rfl, ifF (decide_eq_false (by omega)) ?_⟩
  have g := gI_pos' (t := t) hb
  have gB : B 6500 (gI t b) := B.le (Int.le_of_lt g) (gI_leb hb) hB
  exact ⟨_, rfl, _, rfl, _, _, rfl, rfl, wdiv g gB (by decide) (by decide), _, rfl, _, rfl, _, _, rfl, rfl, wdiv g gB (by decide) (by decide), two_line, fun r hr' => q r _ (same_new hr' _) upd_same⟩
def spFrac : Sp := fun vs H Q _ => ∃ (p : Addr) (t b : Int), vs = [.ref p] ∧ FrAt H p t b ∧ 1 ≤ b ∧ B 6500 b ∧ gI t b = 1 ∧ Q (.bl true) H
abbrev s__law_is_fraction : Stmt := top 48
abbrev N__law_is_fraction : List Str := ["value"]
theorem sc__law_is_fraction : FnScope N__law_is_fraction ["value"] (defScope s__law_is_fraction) := ⟨rfl, rfl, rfl, by decide +kernel, rfl, by decide +kernel, by decide +kernel⟩
theorem ok__law_is_fraction (F : Fun K "_law_is_fraction" "_law_is_fraction" s__law_is_fraction f fd) (T : Txt mg) (C__law_whole : Cal P w K mg base 1 "_law_whole" ["value"] spLaw_whole) (C__law_gcd : Cal P w K mg base 1 "_law_gcd" ["one", "two"] spGcd) : FnOk P w K mg base CX0 2 f fd ["value"] spFrac := by
  refine F.ok sc__law_is_fraction (fun vs H Q E h => ?_) (fun cdv A outer s H vs Q E hr h => ?_)
  · obtain ⟨p, t, b, rfl, _⟩ := h
    rfl
  obtain ⟨p, t, b, rfl, hp, hb, hB, hg, q⟩ := h
  refine ⟨_, (pss_cons (ps_if (PW.pt (pw_or (pt_not (pt_val (pe_callB call_isi (by rfl) T.b_isinstance (by decide +kernel) (pa_cons (pv 0) (pa_cons (pe_bltn (v := .ty "tuple") (by rfl) T.b_tuple (by decide +kernel) rfl) pa_nil))))) (pw_or (pt_cmpR op_ne (pe_callB call_len_seq (by rfl) T.b_len PySem.boot_len (pa_cons (pv 0) pa_nil)) pe_int (nomark _)) (pw_or (pt_not (pt_val (pe_cal C__law_whole (hr.mono (by omega)) rfl (pa_cons (pe_ix ix_tup (pv 0) pe_int (fun _ _ => rfl)) pa_nil)))) (pw_or1 (pt_not (pt_val (pe_cal C__law_whole (hr.mono (by omega)) rfl (pa_cons (pe_ix ix_tup (pv 0) pe_int (fun _ _ => rfl)) pa_nil))))))))) (pss_one (ps_ret pe_bl)) pss_nil)
  (pss_one (ps_ret (pe_and (pe_cmpR op_ge (pe_ix ix_tup (pv 0) pe_int (fun _ _ => rfl)) pe_int (nomark _)) (pe_one (pe_cmpR op_eq (pe_cal C__law_gcd (hr.mono (by omega)) rfl (pa_cons (pe_ix ix_tup (pv 0) pe_int (fun _ _ => rfl)) (pa_cons (pe_ix ix_tup (pv 0) pe_int (fun _ _ => rfl)) pa_nil))) pe_int (nomark _))))))), ?_⟩
  refine ⟨_, rfl, _, _, _, _, true, rfl, .ty _, .base (.tup hp), kit6, true, rfl, ifF rfl ?_⟩
  refine ⟨_, rfl, p, _, rfl, .inr (SqT.of hp), rfl, _, rfl, ifF (by simp) ?_⟩
  refine ⟨_, rfl, p, _, 0, _, rfl, rfl, SqT.of hp, at_pos (by decide) rfl, t, rfl, true, rfl, ifF rfl ?_⟩
  refine ⟨_, rfl, p, _, 1, _, rfl, rfl, SqT.of hp, at_pos (by decide) rfl, b, rfl, true, rfl, ifF rfl ?_⟩
  refine ⟨_, rfl, p, _, 1, _, rfl, rfl, SqT.of hp, at_pos (by decide) rfl, _, _, rfl, rfl, _, rfl, ifT (decide_eq_true hb) ?_⟩
  refine ⟨_, rfl, p, _, 0, _, rfl, rfl, SqT.of hp, at_pos (by decide) rfl, _, rfl, p, _, 1, _, rfl, rfl, SqT.of hp, at_pos (by decide) rfl, t, b, rfl, hB, rfl, ?_⟩
  rw [hg]
  exact q
end
end P15
/-! Sums, square tables as functions, lowest terms. -/
namespace P15
open PySem PySem.Spec PyProof.Rows L2 SX EX WK
def Ls {α : Type} (l : List α) (f : α → Int) : Int := (l.map f).sum
theorem Ls_nil {α : Type} (f : α → Int) : Ls [] f = 0 := rfl
theorem Ls_cons {α : Type} (a : α) (l : List α) (f : α → Int) : Ls (a :: l) f = f a + Ls l f := by
  unfold Ls
  rw [List.map_cons, List.sum_cons]
theorem Ls_snoc {α : Type} (l : List α) (a : α) (f : α → Int) : Ls (l ++ [a]) f = Ls l f + f a := by
  unfold Ls
  rw [List.map_append, List.sum_append]
  simp
theorem Ls_congr {α : Type} {l : List α} {f g : α → Int} (h : ∀ a ∈ l, f a = g a) : Ls l f = Ls l g := by
  unfold Ls
  rw [List.map_congr_left h]
theorem Ls_zero {α : Type} (l : List α) : Ls l (fun _ => 0) = 0 := by
  induction l with
  | nil => rfl
  | cons a l ih => rw [Ls_cons, ih]; rfl
theorem Ls_add {α : Type} (l : List α) (f g : α → Int) : Ls l (fun a => f a + g a) = Ls l f + Ls l g := by
  induction l with
  | nil => rfl
  | cons a l ih => rw [Ls_cons, Ls_cons, Ls_cons, ih]; omega
theorem Ls_mul {α : Type} (c : Int) (l : List α) (f : α → Int) : Ls l (fun a => c * f a) = c * Ls l f := by
  induction l with
  | nil => simp [Ls_nil]
  | cons a l ih => rw [Ls_cons, Ls_cons, ih, Int.mul_add]
theorem Ls_mulr {α : Type} (c : Int) (l : List α) (f : α → Int) : Ls l (fun a => f a * c) = Ls l f * c := by
  rw [Int.mul_comm, ← Ls_mul]
  exact Ls_congr fun a _ => Int.mul_comm _ _
theorem Ls_swap {α β : Type} (l : List α) (m : List β) (f : α → β → Int) : Ls l (fun a => Ls m (f a)) = Ls m fun b => Ls l fun a => f a b := by
  induction l with
  | nil =>
    rw [Ls_nil]
    exact (Ls_zero m).symm
  | cons a l ih =>
    rw [Ls_cons, ih, ← Ls_add]
    exact Ls_congr fun b _ => (Ls_cons a l fun a => f a b).symm
abbrev S (n : Nat) (f : Nat → Int) : Int := Ls (List.range n) f
theorem S_congr {n : Nat} {f g : Nat → Int} (h : ∀ i, i < n → f i = g i) : S n f = S n g := Ls_congr fun i hi => h i (List.mem_range.mp hi)
theorem S_congr2 {n m : Nat} {f g : Nat → Nat → Int} (h : ∀ i j, i < n → j < m → f i j = g i j) : S n (fun i => S m (f i)) = S n (fun i => S m (g i)) := S_congr fun i hi => S_congr fun j hj => h i j hi hj
theorem S_succ (n : Nat) (f : Nat → Int) : S (n + 1) f = S n f + f n := by
  show Ls (List.range (n + 1)) f = _
  rw [List.range_succ, Ls_snoc]
theorem BS {k c n : Nat} {f : Nat → Int} (h : ∀ i, i < n → B k (f i)) (hn : n ≤ 2 ^ c) : B (k + c) (S n f) := by
  have e : ∀ m, m ≤ n → (S m f).natAbs + m ≤ m * 2 ^ k := fun m hm => by
    induction m with
    | zero =>
      rw [show S 0 f = 0 from rfl]
      simp
    | succ m ih =>
      rw [S_succ, Nat.succ_mul]
      have h1 := ih (by omega)
      have h2 : (f m).natAbs < 2 ^ k := h m (by omega)
      have h3 := Int.natAbs_add_le (S m f) (f m)
      omega
  have h0 := e n (Nat.le_refl _)
  show (S n f).natAbs < 2 ^ (k + c)
  have p : 0 < 2 ^ k := Nat.two_pow_pos k
  rw [Nat.pow_add]
  have h1 : n * 2 ^ k ≤ 2 ^ k * 2 ^ c := by
    rw [Nat.mul_comm]
    exact Nat.mul_le_mul_left _ hn
  have p2 : 0 < 2 ^ k * 2 ^ c := Nat.mul_pos p (Nat.two_pow_pos c)
  rcases Nat.eq_zero_or_pos n with z | z
  · subst z
    show (Ls [] f).natAbs < _
    rw [Ls_nil]
    exact p2
  · omega
theorem BLs {α : Type} {k c : Nat} {l : List α} {f : α → Int} (h : ∀ a ∈ l, B k (f a)) (hn : l.length ≤ 2 ^ c) : B (k + c) (Ls l f) := by
  have e : ∀ m : List α, (∀ a ∈ m, a ∈ l) → (Ls m f).natAbs + m.length ≤ m.length * 2 ^ k := fun m hm => by
    induction m with
    | nil => simp [Ls_nil]
    | cons a m ih =>
      rw [Ls_cons, List.length_cons, Nat.succ_mul]
      have h1 := ih (fun a ha => hm a (List.mem_cons_of_mem _ ha))
      have h2 : (f a).natAbs < 2 ^ k := h a (hm a List.mem_cons_self)
      have h3 := Int.natAbs_add_le (f a) (Ls m f)
      omega
  have h0 := e l fun _ h => h
  show (Ls l f).natAbs < 2 ^ (k + c)
  have p : 0 < 2 ^ k := Nat.two_pow_pos k
  rw [Nat.pow_add]
  have h1 : l.length * 2 ^ k ≤ 2 ^ k * 2 ^ c := by
    rw [Nat.mul_comm]
    exact Nat.mul_le_mul_left _ hn
  have p2 : 0 < 2 ^ k * 2 ^ c := Nat.mul_pos p (Nat.two_pow_pos c)
  cases l with
  | nil =>
    rw [Ls_nil]
    exact p2
  | cons a l =>
    rw [List.length_cons] at h0 h1
    omega
/-! ### vectors, tables -/
def vec (n : Nat) (x : Nat → Int) : List Int := (List.range n).map x
def mat (n : Nat) (f : Nat → Nat → Int) : List (List Int) := (List.range n).map fun i => vec n (f i)
theorem vec_len {n : Nat} {x : Nat → Int} : (vec n x).length = n := by unfold vec; rw [List.length_map, List.length_range]
theorem mat_len {n : Nat} {f : Nat → Nat → Int} : (mat n f).length = n := by unfold mat; rw [List.length_map, List.length_range]
theorem vec_at {n i : Nat} {x : Nat → Int} (h : i < n) : (vec n x)[i]? = some (x i) := by
  unfold vec
  rw [List.getElem?_map, List.getElem?_range h]
  rfl
theorem vecV_at {n i : Nat} {x : Nat → Int} (h : i < n) : ((vec n x).map V.int)[i]? = some (.int (x i)) := by
  rw [List.getElem?_map, vec_at h]
  rfl
theorem mat_at {n i : Nat} {f : Nat → Nat → Int} (h : i < n) : (mat n f)[i]? = some (vec n (f i)) := by
  unfold mat
  rw [List.getElem?_map, List.getElem?_range h]
  rfl
theorem vec_congr {n : Nat} {x y : Nat → Int} (h : ∀ i, i < n → x i = y i) : vec n x = vec n y := List.map_congr_left fun i hi => h i (List.mem_range.mp hi)
theorem mat_congr {n : Nat} {f g : Nat → Nat → Int} (h : ∀ i j, i < n → j < n → f i j = g i j) : mat n f = mat n g := List.map_congr_left fun i hi => vec_congr fun j hj => h i j (List.mem_range.mp hi) hj
theorem vec_of {n : Nat} {ns : List Int} (h : ns.length = n) : ns = vec n fun i => ns.getD i 0 := by
  refine List.ext_getElem? fun i => ?_
  by_cases hi : i < n
  · rw [vec_at hi, List.getD_eq_getElem?_getD, List.getElem?_eq_getElem (by omega)]
    rfl
  · rw [List.getElem?_eq_none (by omega), List.getElem?_eq_none (by rw [vec_len]; omega)]
theorem mat_sqr {n : Nat} {f : Nat → Nat → Int} : Sqr (mat n f) := fun r hr => by
  rw [mat_len]
  obtain ⟨i, _, rfl⟩ := List.mem_map.mp hr
  exact vec_len
theorem mat_ent {n : Nat} {f : Nat → Nat → Int} {i j : Nat} : ent (mat n f) i j = if i < n ∧ j < n then f i j else 0 := by
  unfold ent
  by_cases hi : i < n
  · rw [show (mat n f).getD i [] = vec n (f i) from by rw [List.getD_eq_getElem?_getD, mat_at hi]; rfl]
    by_cases hj : j < n
    · rw [List.getD_eq_getElem?_getD, vec_at hj, if_pos ⟨hi, hj⟩]
      rfl
    · rw [List.getD_eq_getElem?_getD, List.getElem?_eq_none (by rw [vec_len]; omega), if_neg (fun h => hj h.2)]
      rfl
  · rw [if_neg (fun h => hi h.1), show (mat n f).getD i [] = [] from by
      rw [List.getD_eq_getElem?_getD, List.getElem?_eq_none (by rw [mat_len]; omega)]
      rfl]
    rfl
theorem mat_sym {n : Nat} {f : Nat → Nat → Int} (h : ∀ i j, i < n → j < n → f i j = f j i) : Sym (mat n f) := fun i j => by
  rw [mat_ent, mat_ent]
  by_cases c : i < n ∧ j < n
  · rw [if_pos c, if_pos ⟨c.2, c.1⟩, h i j c.1 c.2]
  · rw [if_neg c, if_neg fun g => c ⟨g.2, g.1⟩]
theorem mat_mem {n : Nat} {f : Nat → Nat → Int} {i j : Nat} (hi : i < n) (hj : j < n) : f i j ∈ (mat n f).flatten :=
  List.mem_flatten.mpr ⟨_, List.mem_of_getElem? (mat_at hi), List.mem_of_getElem? (vec_at hj)⟩
theorem dm_mat {n : Nat} {f : Nat → Nat → Int} {g : Int} : dm (mat n f) g = mat n fun i j => f i j / g := by
  unfold dm mat vec
  rw [List.map_map]
  refine List.map_congr_left fun i _ => ?_
  show ((List.range n).map (f i)).map _ = _
  rw [List.map_map]
  rfl
/-! ### lowest terms -/
theorem gI_one {t b : Int} (hb : 0 < b) : gI (t / gI t b) (b / gI t b) = 1 := by
  have g := gI_pos' (t := t) hb
  have g2 : 0 < Nat.gcd t.natAbs b.natAbs := Nat.gcd_pos_of_pos_right _ (by omega)
  have e1 : (t / gI t b).natAbs = t.natAbs / Nat.gcd t.natAbs b.natAbs := by
    unfold gI
    obtain ⟨k, hk⟩ := (gI_dvd1 : gI t b ∣ t)
    unfold gI at hk
    generalize Nat.gcd t.natAbs b.natAbs = d at *
    subst hk
    rw [Int.mul_ediv_cancel_left _ (by omega), Int.natAbs_mul, Int.natAbs_natCast, Nat.mul_div_cancel_left _ g2]
  have e2 : (b / gI t b).natAbs = b.natAbs / Nat.gcd t.natAbs b.natAbs := by
    unfold gI
    obtain ⟨k, hk⟩ := (gI_dvd2 : gI t b ∣ b)
    unfold gI at hk
    generalize Nat.gcd t.natAbs b.natAbs = d at *
    subst hk
    rw [Int.mul_ediv_cancel_left _ (by omega), Int.natAbs_mul, Int.natAbs_natCast, Nat.mul_div_cancel_left _ g2]
  show ((Nat.gcd (t / gI t b).natAbs (b / gI t b).natAbs : Nat) : Int) = 1
  rw [e1, e2, Nat.gcd_div_gcd_div_gcd_of_pos_right (by omega)]
  rfl
theorem cross {t b g : Int} (hg : 0 < g) (h1 : g ∣ t) (h2 : g ∣ b) : t / g * b = t * (b / g) := by
  obtain ⟨k, rfl⟩ := h1
  obtain ⟨l, rfl⟩ := h2
  rw [Int.mul_ediv_cancel_left _ (by omega), Int.mul_ediv_cancel_left _ (by omega), Int.mul_comm g k, Int.mul_assoc]
/-- two quotients of the same number -/
theorem cross2 {t b g u v : Int} (hg : 0 < g) (h1 : g ∣ t) (h2 : g ∣ b) (h : t * v = u * b) : t / g * v = u * (b / g) := by
  obtain ⟨k, rfl⟩ := h1
  obtain ⟨l, rfl⟩ := h2
  rw [Int.mul_ediv_cancel_left _ (by omega), Int.mul_ediv_cancel_left _ (by omega)]
  have e : g * (k * v) = g * (u * l) := by
    rw [← Int.mul_assoc, h, Int.mul_left_comm]
  exact Int.eq_of_mul_eq_mul_left (by omega) e
theorem gI_scale {t b g : Int} (hg : 0 < g) (h1 : g ∣ t) (h2 : g ∣ b) : gI t b = g * gI (t / g) (b / g) := by
  obtain ⟨k, rfl⟩ := h1
  obtain ⟨l, rfl⟩ := h2
  rw [Int.mul_ediv_cancel_left _ (by omega), Int.mul_ediv_cancel_left _ (by omega)]
  unfold gI
  rw [Int.natAbs_mul, Int.natAbs_mul, Nat.gcd_mul_left]
  have : ((g.natAbs : Nat) : Int) = g := by omega
  rw [Int.natCast_mul, this]
theorem gf_scale {g : Int} (hg : 0 < g) : ∀ {ns : List Int} {b : Int}, g ∣ b → (∀ n ∈ ns, g ∣ n) → gf b ns = g * gf (b / g) (ns.map (· / g))
  | [], b, h, _ => by
    obtain ⟨k, rfl⟩ := h
    show g * k = g * (g * k / g)
    rw [Int.mul_ediv_cancel_left _ (by omega)]
  | n :: ns, b, h, hn => by
    have h1 := hn n List.mem_cons_self
    have e := gI_scale hg h h1
    have hd : g ∣ gI b n := ⟨_, e⟩
    show gf (gI b n) ns = g * gf (gI (b / g) (n / g)) (ns.map (· / g))
    rw [gf_scale hg hd fun m hm => hn m (List.mem_cons_of_mem _ hm)]
    congr 2
    rw [e, Int.mul_ediv_cancel_left _ (by omega)]
theorem gf_one {b : Int} (hb : 0 < b) (ns : List Int) : gf (b / gf b ns) (ns.map (· / gf b ns)) = 1 := by
  have hg := gf_pos hb ns
  have h := gf_scale hg (ns := ns) (b := b) (gf_dvd ns).1 (gf_dvd ns).2
  have e : gf b ns * 1 = gf b ns * gf (b / gf b ns) (ns.map (· / gf b ns)) := by rw [Int.mul_one]; exact h
  exact (Int.eq_of_mul_eq_mul_left (by omega) e).symm
theorem flat_mat {n : Nat} {f : Nat → Nat → Int} {g : Int} : (mat n fun i j => f i j / g).flatten = (mat n f).flatten.map (· / g) := by
  rw [← dm_mat]
  unfold dm
  rw [List.map_flatten]
/-- a form in lowest terms, of T over U -/
structure Red (n : Nat) (f : Nat → Nat → Int) (b : Int) (k : Nat) : Prop where
  pos : 0 < b
  bb : B k b
  fb : ∀ i j, i < n → j < n → B k (f i j)
  sym : ∀ i j, i < n → j < n → f i j = f j i
  one : gf b (mat n f).flatten = 1
def Is (n : Nat) (f : Nat → Nat → Int) (b : Int) (T : Nat → Nat → Int) (U : Int) : Prop := ∀ i j, i < n → j < n → f i j * U = T i j * b
theorem red_of {n k : Nat} {T : Nat → Nat → Int} {U : Int} (hU : 0 < U) (hB : B k U) (hT : ∀ i j, i < n → j < n → B k (T i j)) (hs : ∀ i j, i < n → j < n → T i j = T j i) :
    Red n (fun i j => T i j / gf U (mat n T).flatten) (U / gf U (mat n T).flatten) k ∧ Is n (fun i j => T i j / gf U (mat n T).flatten) (U / gf U (mat n T).flatten) T U := by
  have hg := gf_pos hU (mat n T).flatten
  have hd := gf_dvd (b := U) (mat n T).flatten
  refine ⟨⟨quot_pos hg hd.1 (by omega), B.div hg hB, fun i j hi hj => B.div hg (hT i j hi hj), fun i j hi hj => by rw [hs i j hi hj], ?_⟩, fun i j hi hj => cross hg (hd.2 _ (mat_mem hi hj)) hd.1⟩
  rw [flat_mat]
  exact gf_one hU _
/-- the same form by other terms -/
theorem Is.of {n : Nat} {f T T' : Nat → Nat → Int} {b U U' : Int} (h : Is n f b T U) (hU : 0 < U) (e : ∀ i j, i < n → j < n → T i j * U' = T' i j * U) : Is n f b T' U' := fun i j hi hj => by
  have h1 := h i j hi hj
  have h2 := e i j hi hj
  have e1 : U * (f i j * U') = U * (T' i j * b) := by
    have a1 : U * (f i j * U') = f i j * U * U' := by rw [Int.mul_left_comm, Int.mul_assoc]
    have a2 : U * (T' i j * b) = T' i j * U * b := by rw [Int.mul_left_comm, Int.mul_assoc]
    rw [a1, a2, h1, ← h2, Int.mul_assoc, Int.mul_assoc, Int.mul_comm b]
  exact Int.eq_of_mul_eq_mul_left (by omega) e1
end P15
namespace P15
open PySem PySem.Spec PyProof.Rows L2 SX EX WK
abbrev tv (n : Nat) (x : Nat → Int) : Td := .tup ((vec n x).map Td.int)
abbrev tm (n : Nat) (f : Nat → Nat → Int) : Td := tdm (mat n f)
theorem sq_same {K : PySem.W.Frag} {H H' : Hp} {k : Bool} {a : Addr} {xs : List V} (s : Same H H') (h : WZ.Sq k K H a xs) : WZ.Sq k K H' a xs := by
  cases k with
  | true => exact s.seq h
  | false => exact Same_seqT s h
theorem sq_or {K : PySem.W.Frag} {H : Hp} {k : Bool} {a : Addr} {xs : List V} (h : WZ.Sq k K H a xs) : SqL K H a xs ∨ SqT K H a xs := by
  cases k with
  | true => exact .inl h
  | false => exact .inr h
theorem sn_ints {K : PySem.W.Frag} {H : Hp} {v : V} {ns : List Int} (h : Sn K H v (.tup (ns.map Td.int))) : ∃ (k : Bool) (a : Addr), v = .ref a ∧ WZ.Sq k K H a (ns.map V.int) := by
  cases h with
  | @lst a vs ts ha hall =>
    rw [hall.ints] at ha
    exact ⟨true, a, rfl, SqL.of ha⟩
  | @tup a vs ts ha hall =>
    rw [hall.ints] at ha
    exact ⟨false, a, rfl, ha⟩
theorem sn_mat {K : PySem.W.Frag} {H : Hp} {v : V} {n : Nat} {f : Nat → Nat → Int} (h : Sn K H v (tm n f)) : ∃ (k : Bool) (a : Addr) (vs : List V), v = .ref a ∧ WZ.Sq k K H a vs ∧ vs.length = n ∧ ∀ i, i < n → ∃ u, vs[i]? = some u ∧ Sn K H u (tv n (f i)) := by
  have row : ∀ {vs : List V}, SnAll K H vs ((mat n f).map fun r => .tup (r.map Td.int)) → vs.length = n ∧ ∀ i, i < n → ∃ u, vs[i]? = some u ∧ Sn K H u (tv n (f i)) := fun {vs} hall => by
    have hl : vs.length = n := by rw [hall.len, List.length_map, mat_len]
    refine ⟨hl, fun i hi => ?_⟩
    have e := List.getElem?_eq_getElem (l := vs) (i := i) (by omega)
    obtain ⟨t, ht, hz⟩ := hall.get e
    rw [List.getElem?_map, mat_at hi] at ht
    cases ht
    exact ⟨_, e, hz⟩
  cases h with
  | @lst a vs ts ha hall => exact ⟨true, a, vs, rfl, SqL.of ha, row hall⟩
  | @tup a vs ts ha hall => exact ⟨false, a, vs, rfl, ha, row hall⟩
theorem in_range {n c i : Nat} (h : (List.range n)[c]? = some i) : c < n ∧ i = c := by
  have h1 := (List.getElem?_eq_some_iff.mp h).1
  rw [List.length_range] at h1
  rw [List.getElem?_range h1] at h
  exact ⟨h1, (Option.some.inj h).symm⟩
theorem vec_lenV {n : Nat} {x : Nat → Int} : ((vec n x).map V.int).length = n := by rw [List.length_map, vec_len]
theorem lkFs (n e b : V) : ([("size", n), ("entries", e), ("bottom", b)] : List (Str × V)).lookup ("size" : Str) = some n := by rw [lk_hit]
theorem lkFe (n e b : V) : ([("size", n), ("entries", e), ("bottom", b)] : List (Str × V)).lookup ("entries" : Str) = some e := by rw [lk_skip (by decide +kernel), lk_hit]
theorem lkFb (n e b : V) : ([("size", n), ("entries", e), ("bottom", b)] : List (Str × V)).lookup ("bottom" : Str) = some b := by rw [lk_skip (by decide +kernel), lk_skip (by decide +kernel), lk_hit]
theorem lkFx {x : Str} (n e b : V) (h1 : ¬ x = ("size" : Str)) (h2 : ¬ x = ("entries" : Str)) (h3 : ¬ x = ("bottom" : Str)) : ([("size", n), ("entries", e), ("bottom", b)] : List (Str × V)).lookup x = none := by
  rw [lk_skip h1, lk_skip h2, lk_skip h3]
  rfl
/-- a list of lists -/
def LTab (H : Hp) (a : Addr) (n : Nat) (f : Nat → Nat → Int) : Prop := ∃ rs : List Addr, H a = some (.lst (rs.map V.ref)) ∧ rs.length = n ∧ ∀ i, i < n → ∃ p, rs[i]? = some p ∧ H p = some (.lst ((vec n (f i)).map V.int))
theorem LTab.same {H H' : Hp} {a : Addr} {n : Nat} {f : Nat → Nat → Int} (e : Same H H') (h : LTab H a n f) : LTab H' a n f := by
  obtain ⟨rs, h1, h2, h3⟩ := h
  refine ⟨rs, e _ _ h1, h2, fun i hi => ?_⟩
  obtain ⟨p, h4, h5⟩ := h3 i hi
  exact ⟨p, h4, e _ _ h5⟩
theorem LTab.at {H : Hp} {a : Addr} {n : Nat} {f : Nat → Nat → Int} (h : LTab H a n f) : ∃ vs : List V, H a = some (.lst vs) ∧ vs.length = n ∧ ∀ i, i < n → ∃ p, vs[i]? = some (.ref p) ∧ H p = some (.lst ((vec n (f i)).map V.int)) := by
  obtain ⟨rs, h1, h2, h3⟩ := h
  refine ⟨_, h1, by rw [List.length_map]; exact h2, fun i hi => ?_⟩
  obtain ⟨p, h4, h5⟩ := h3 i hi
  exact ⟨p, by rw [List.getElem?_map, h4]; rfl, h5⟩
theorem snall_of {K : PySem.W.Frag} {H : Hp} : ∀ {vs : List V} {ts : List Td}, vs.length = ts.length → (∀ (i : Nat) (v : V) (t : Td), vs[i]? = some v → ts[i]? = some t → Sn K H v t) → SnAll K H vs ts
  | [], [], _, _ => .nil
  | [], _ :: _, h, _ => by simp at h
  | _ :: _, [], h, _ => by simp at h
  | v :: vs, t :: ts, h, g => .cons (g 0 v t rfl rfl) (snall_of (by simpa using h) fun i v t a b => g (i + 1) v t a b)
theorem LTab.sn {K : PySem.W.Frag} {H : Hp} {a : Addr} {n : Nat} {f : Nat → Nat → Int} (h : LTab H a n f) : Sn K H (.ref a) (tm n f) := by
  obtain ⟨vs, h1, h2, h3⟩ := h.at
  refine .lst h1 (snall_of (by rw [List.length_map, mat_len]; exact h2) fun i v t hv ht => ?_)
  have hi : i < n := by
    have := (List.getElem?_eq_some_iff.mp hv).1
    omega
  obtain ⟨p, h4, h5⟩ := h3 i hi
  rw [hv] at h4
  cases h4
  rw [List.getElem?_map, mat_at hi] at ht
  cases ht
  exact .lst h5 (FzAll.of_ints _).sn
def adr : V → Addr
  | .ref p => p
  | _ => 0
theorem LTab.of {H : Hp} {D : Addr} {l : List V} {n : Nat} {f : Nat → Nat → Int} (h : H D = some (.lst l)) (r : Rs (RL D) H l ((List.range n).map fun i => vec n (f i))) : LTab H D n f := by
  have hl : l.length = n := by rw [r.1, List.length_map, List.length_range]
  have at_ : ∀ i, i < n → ∃ p, l[i]? = some (.ref p) ∧ H p = some (.lst ((vec n (f i)).map V.int)) := fun i hi => by
    have e := List.getElem?_eq_getElem (l := l) (i := i) (by omega)
    obtain ⟨p, h1, _, h2⟩ := r.2 i _ (vec n (f i)) e (by rw [List.getElem?_map, List.getElem?_range hi]; rfl)
    exact ⟨p, by rw [e, h1], h2⟩
  refine ⟨l.map adr, ?_, by rw [List.length_map]; exact hl, fun i hi => ?_⟩
  · rw [h]
    congr 2
    refine List.ext_getElem? fun i => ?_
    rw [List.getElem?_map, List.getElem?_map]
    by_cases hi : i < n
    · obtain ⟨p, h1, _⟩ := at_ i hi
      rw [h1]
      rfl
    · rw [List.getElem?_eq_none (by omega)]
      rfl
  · obtain ⟨p, h1, h2⟩ := at_ i hi
    exact ⟨p, by rw [List.getElem?_map, h1]; rfl, h2⟩
theorem ix_any {K : PySem.W.Frag} {H : Hp} {k : Bool} {a : Addr} {xs : List V} {z : Int} {v : V} {Q : VK} (h : WZ.Sq k K H a xs) (e : atI xs z = some v) (q : Q v H) : rIxL K (.ref a) (.int z) H Q ∨ rIxT K (.ref a) (.int z) H Q := by
  cases k with
  | true => exact .inl ⟨a, xs, z, v, rfl, rfl, h, e, q⟩
  | false => exact .inr ⟨a, xs, z, v, rfl, rfl, h, e, q⟩
theorem ne_T {a b : Int} (h : a ≠ b) : (!decide (V.int a = V.int b)) = true := by rw [int_ne h]; rfl
theorem ne_F {a b : Int} (h : a = b) : (!decide (V.int a = V.int b)) = false := by rw [int_eq h]; rfl
theorem gI_unit (x : Int) : gI 1 x = 1 := by
  unfold gI
  rw [show (1 : Int).natAbs = 1 from rfl, Nat.gcd_one_left]
  rfl
theorem ixv {n i : Nat} {x : Nat → Int} (hi : i < n) : atI ((vec n x).map V.int) (0 + (i : Int)) = some (.int (x i)) := at_pos (by omega) (by rw [show (0 + (i : Int)).toNat = i by omega]; exact vecV_at hi)
theorem none_of {H H' : Hp} {r : Addr} (s : Same H H') (h : H' r = none) : H r = none := by
  cases e : H r with
  | none => rfl
  | some u => rw [s _ _ e] at h; cases h
section
variable {P : Program} {w : World} {K : PySem.W.Frag} {mg : Str → Option Value} {base : Heap} {f : Addr} {fd : FuncData} {cF cR : Addr}
def spIsPoint (K : PySem.W.Frag) : Sp := fun vs H Q _ => ∃ (a : Addr) (n : Nat) (x : Nat → Int), vs = [.ref a, .int n] ∧ SqT K H a ((vec n x).map V.int) ∧ n ≤ 1000 ∧ ∀ H', Same H H' → Q (.bl true) H'
abbrev s__law_is_point : Stmt := top 49
abbrev N__law_is_point : List Str := ["value", "size", "number"]
theorem sc__law_is_point : FnScope N__law_is_point ["value", "size"] (defScope s__law_is_point) := ⟨rfl, rfl, rfl, by decide +kernel, rfl, by decide +kernel, by decide +kernel⟩
theorem ok__law_is_point (F : Fun K "_law_is_point" "_law_is_point" s__law_is_point f fd) (T : Txt mg) (C__law_whole : Cal P w K mg base 1 "_law_whole" ["value"] spLaw_whole) : FnOk P w K mg base CX0 2 f fd ["value", "size"] (spIsPoint K) := by
  refine F.ok sc__law_is_point (fun vs H Q E h => ?_) (fun cdv A outer s H vs Q E hr h => ?_)
  · obtain ⟨a, n, x, rfl, _⟩ := h
    rfl
  obtain ⟨a, n, x, rfl, ha, hn, q⟩ := h
  refine ⟨_, (pss_one (ps_ret (pe_and (pe_callB call_isi (by rfl) T.b_isinstance (by decide +kernel) (pa_cons (pv 0) (pa_cons (pe_bltn (v := .ty "tuple") (by rfl) T.b_tuple (by decide +kernel) rfl) pa_nil))) (pe_and (pe_cmpR op_eq (pe_callB call_len_seq (by rfl) T.b_len PySem.boot_len (pa_cons (pv 0) pa_nil)) (pv 1) (nomark _)) (pe_one (pe_callB (cr_all rfl) (by rfl) T.b_all (by decide +kernel) (pa_cons (pe_lc (own := [("number", 2)]) (g := gName 2) (tt := tYes) (by rfl) sc__law_is_point.nd (pi_tup (pv 0)) (blkOk_by (N := N__law_is_point) (sc := defScope s__law_is_point) (by decide +kernel)) (fun _ _ _ _ _ => (pg_name (i := 2) sc__law_is_point.nd rfl (Or.inl rfl))) (fun _ _ _ _ _ => pts_nil) (fun _ _ _ _ _ => (pe_cal C__law_whole (hr.mono (by omega)) rfl (pa_cons (pv 2) pa_nil)))) pa_nil))))))), ?_⟩
  refine ⟨_, rfl, _, _, _, _, true, rfl, .ty _, ty_tup ha, kit6, true, rfl, ifT rfl ?_⟩
  refine ⟨_, rfl, a, _, rfl, .inr ha, _, rfl, rfl, _, rfl, ifT (by rw [vec_lenV]; exact int_eq rfl) ?_⟩
  refine ⟨_, rfl, a, rfl, ⟨_, ha⟩, fun D hD => ?_⟩
  refine lc_m (walk_tup (K := K) (a := a) (xs := (vec n x).map V.int)) RB (stb_RB (K := K)) (List.range n) (by rw [vec_lenV, List.length_range]) (by rw [List.length_range]; omega) hD (fun H' s => Same_seqT s ha) (fun _ _ _ _ => ys_at) (fun _ => true) (fun c i v H1 H2 hc s1 s2 y A B hA => ?_) (fun H' l s1 hl1 rs => ?_)
  · obtain ⟨hc1, rfl⟩ := in_range hc
    have e := y.2
    rw [vecV_at hc1] at e
    cases e
    exact ⟨rfl, lc_yes ⟨_, rfl, x i, rfl, hA _ _ (fun _ _ h => h) rfl⟩⟩
  · refine ⟨D, _, rfl, SqL.of (by rw [hl1, rs.bls]), ?_⟩
    have e : (((List.range n).map fun _ => true).all id) = true := by
      rw [List.all_map]
      exact List.all_eq_true.mpr fun _ _ => rfl
    rw [e]
    exact q H' s1
end
end P15
namespace P15
open PySem PySem.Spec PyProof.Rows L2 SX EX WK
section
variable {P : Program} {w : World} {K : PySem.W.Frag} {mg : Str → Option Value} {base : Heap} {f : Addr} {fd : FuncData} {cF cR : Addr}
def spDot (K : PySem.W.Frag) : Sp := fun vs H Q _ => ∃ (v1 v2 : V) (n k1 k2 : Nat) (x y : Nat → Int), vs = [v1, v2] ∧ Sn K H v1 (tv n x) ∧ Sn K H v2 (tv n y) ∧ n ≤ 1000 ∧ (∀ i, i < n → B k1 (x i)) ∧ (∀ i, i < n → B k2 (y i)) ∧ 0 < k1 ∧ 0 < k2 ∧ k1 + k2 ≤ 100000 ∧
  ∀ H', Same H H' → Q (.int (S n fun i => x i * y i)) H'
abbrev s_dot : Stmt := top 19
abbrev N_dot : List Str := ["one", "two", "first", "second"]
theorem sc_dot : FnScope N_dot ["one", "two"] (defScope s_dot) := ⟨rfl, rfl, rfl, by decide +kernel, rfl, by decide +kernel, by decide +kernel⟩
theorem ok_dot (F : Fun K "dot" "dot" s_dot f fd) (T : Txt mg) : FnOk P w K mg base CX0 1 f fd ["one", "two"] (spDot K) := by
  refine F.ok sc_dot (fun vs H Q E h => ?_) (fun cdv A outer s H vs Q E hr h => ?_)
  · obtain ⟨v1, v2, n, k1, k2, x, y, rfl, _⟩ := h
    rfl
  obtain ⟨v1, v2, n, k1, k2, x, y, rfl, h1, h2, hn, hx, hy, p1, p2, hk, q⟩ := h
  refine ⟨_, (pss_one (ps_ret (pe_callB (cr_sum rfl) (by rfl) T.b_sum (by decide +kernel) (pa_cons (pe_lc (own := [("first", 2), ("second", 3)]) (tt := tYes) (by rfl) sc_dot.nd (WZ.pi_zipB (by rfl) T.b_zip (pa_cons (pv 0) (pa_cons (pv 1) pa_nil))) (blkOk_by (N := N_dot) (sc := defScope s_dot) (by decide +kernel)) (fun _ _ _ _ _ => (pg_tupK (K := K) (n := 2) rfl rfl (pgs_cons (pg_name (i := 2) sc_dot.nd rfl (Or.inl rfl)) (pgs_cons (pg_name (i := 3) sc_dot.nd rfl (Or.inl rfl)) pgs_nil)))) (fun _ _ _ _ _ => pts_nil) (fun _ _ _ _ _ => (pe_op op_mulW (pv 2) (pv 3)))) pa_nil)))), ?_⟩
  obtain ⟨k, a, rfl, ha⟩ := sn_ints h1
  obtain ⟨l, b, rfl, hb⟩ := sn_ints h2
  refine ⟨_, rfl, _, rfl, k, l, a, b, _, _, rfl, ha, hb, fun D hD => ?_⟩
  refine lc_m (WZ.walk_zA (K := K) (k := k) (l := l) (a := a) (b := b) (xs := (vec n x).map V.int) (ys := (vec n y).map V.int) (n := n) vec_lenV.symm vec_lenV.symm) RI (stb_RI (K := K)) (List.range n) (by rw [List.length_range]) (by rw [List.length_range]; omega) hD (fun H' s => ⟨sq_same s ha, sq_same s hb⟩) (fun _ _ _ _ => ys_pair) (fun i => x i * y i) (fun c i v H1 H2 hc s1 s2 yl A B hA => ?_) (fun H' l1 s1 hl1 rs => ?_)
  · obtain ⟨hc1, rfl⟩ := in_range hc
    obtain ⟨Tp, x1, x2, rfl, hT, rfl, e1, e2⟩ := yl
    have e3 := (show ((vec n x).map V.int)[i]? = some x1 from e1).symm.trans (vecV_at hc1)
    have e4 := (show ((vec n y).map V.int)[i]? = some x2 from e2).symm.trans (vecV_at hc1)
    cases e3
    cases e4
    exact ⟨_, _, rfl, SqT.of upd_same, rfl, _, _, rfl, _, _, rfl, rfl, rfl, lc_yes ⟨_, rfl, _, rfl, _, _, rfl, rfl, wmul (hx i hc1) (hy i hc1) p1 p2 (by omega), hA _ _ (fun _ _ h => h) rfl⟩⟩
  · exact ⟨D, _, rfl, SqL.of (by rw [hl1, rs.ints]), q H' s1⟩
def spPoint (K : PySem.W.Frag) (cF : Addr) : Sp := fun vs H Q _ => ∃ (p : Addr) (v : V) (n : Nat) (m : List (List Int)) (b : Int) (ns : List Int), vs = [.ref p, v] ∧ FormAt K H cF p n m b ∧ Sn K H v (.tup (ns.map Td.int)) ∧ ns.length = n ∧ Q .non H
abbrev s_check_point : Stmt := top 30
abbrev N_check_point : List Str := ["form", "point"]
theorem sc_check_point : FnScope N_check_point ["form", "point"] (defScope s_check_point) := ⟨rfl, rfl, rfl, by decide +kernel, rfl, by decide +kernel, by decide +kernel⟩
theorem ok_check_point (F : Fun K "check_point" "check_point" s_check_point f fd) (T : Txt mg) (O : Obs K cF cR) : FnOk P w K mg base CX0 1 f fd ["form", "point"] (spPoint K cF) := by
  refine F.ok sc_check_point (fun vs H Q E h => ?_) (fun cdv A outer s H vs Q E hr h => ?_)
  · obtain ⟨p, v, n, m, b, ns, rfl, _⟩ := h
    rfl
  obtain ⟨p, v, n, m, b, ns, rfl, hp, hv, hn, q⟩ := h
  refine ⟨_, (pss_one (ps_if (pt_cmpR op_ne (pe_callB call_len_seq (by rfl) T.b_len PySem.boot_len (pa_cons (pv 1) pa_nil)) (pe_fld (pv 0) rfl) (nomark _)) (pss_one ps_never) pss_nil)), ?_⟩
  obtain ⟨k, a, rfl, ha⟩ := sn_ints hv
  obtain ⟨dx, e, h1, h2⟩ := hp
  refine ⟨_, rfl, _, _, rfl, sq_or ha, _, rfl, p, cF, dx, _, _, rfl, h1, O.clF, O.F_size, lkFs _ _ _, rfl, _, rfl, ifF ?_ q⟩
  rw [List.length_map, hn]
  simp
/-- the value between two points -/
def bil (n : Nat) (f : Nat → Nat → Int) (x y : Nat → Int) : Int := S n fun i => x i * S n fun j => f i j * y j
def spBetw (K : PySem.W.Frag) (cF : Addr) : Sp := fun vs H Q _ => ∃ (p : Addr) (v1 v2 : V) (n : Nat) (g : Nat → Nat → Int) (b : Int) (x y : Nat → Int), vs = [.ref p, v1, v2] ∧ FormAt K H cF p n (mat n g) b ∧ Sn K H v1 (tv n x) ∧ Sn K H v2 (tv n y) ∧ n ≤ 16 ∧ 0 < b ∧ B 9000 b ∧
  (∀ i, i < n → B 8000 (x i)) ∧ (∀ i, i < n → B 8000 (y i)) ∧ (∀ i j, i < n → j < n → B 8000 (g i j)) ∧ ∀ r H', Same H H' → FrAt H' r (bil n g x y / gI (bil n g x y) b) (b / gI (bil n g x y) b) → Q (.ref r) H'
abbrev s_mbetween : Stmt := mth 32 7
abbrev N_mbetween : List Str := ["self", "one", "two", "line"]
theorem sc_mbetween : FnScope N_mbetween ["self", "one", "two"] (defScope s_mbetween) := ⟨rfl, rfl, rfl, by decide +kernel, rfl, by decide +kernel, by decide +kernel⟩
theorem ok_mbetween (F : Fun K "between" "Form.between" s_mbetween f fd) (T : Txt mg) (O : Obs K cF cR) (C_check_point : Cal P w K mg base 1 "check_point" ["form", "point"] (spPoint K cF)) (C_fraction : Cal P w K mg base 1 "fraction" ["top", "bottom"] spFraction) (C_dot : Cal P w K mg base 1 "dot" ["one", "two"] (spDot K)) :
    FnOk P w K mg base CX0 2 f fd ["self", "one", "two"] (spBetw K cF) := by
  refine F.ok sc_mbetween (fun vs H Q E h => ?_) (fun cdv A outer s H vs Q E hr h => ?_)
  · obtain ⟨p, v1, v2, n, g, b, x, y, rfl, _⟩ := h
    rfl
  obtain ⟨p, v1, v2, n, g, b, x, y, rfl, hp, h1, h2, hn, hb, hB, bx, by_, bg, q⟩ := h
  refine ⟨_, (pss_cons (ps_expr (pe_cal C_check_point (hr.mono (by omega)) rfl (pa_cons (pv 0) (pa_cons (pv 1) pa_nil))))
  (pss_cons (ps_expr (pe_cal C_check_point (hr.mono (by omega)) rfl (pa_cons (pv 0) (pa_cons (pv 2) pa_nil))))
  (pss_one (ps_ret (pe_cal C_fraction (hr.mono (by omega)) rfl (pa_cons (pe_cal C_dot (hr.mono (by omega)) rfl (pa_cons (pv 1) (pa_cons (pe_lc (own := [("line", 3)]) (g := gName 3) (tt := tYes) (by rfl) sc_mbetween.nd (pi_tup (pe_fld (pv 0) rfl)) (blkOk_by (N := N_mbetween) (sc := defScope s_mbetween) (by decide +kernel)) (fun _ _ _ _ _ => (pg_name (i := 3) sc_mbetween.nd rfl (Or.inl rfl))) (fun _ _ _ _ _ => pts_nil) (fun _ _ _ _ _ => (pe_cal C_dot (hr.mono (by omega)) rfl (pa_cons (pv 3) (pa_cons (pv 2) pa_nil))))) pa_nil))) (pa_cons (pe_fld (pv 0) rfl) pa_nil))))))), ?_⟩
  refine ⟨_, rfl, _, rfl, p, v1, n, _, b, _, rfl, hp, h1, vec_len, ?_⟩
  refine ⟨_, rfl, _, rfl, p, v2, n, _, b, _, rfl, hp, h2, vec_len, ?_⟩
  obtain ⟨dx, e, hi, hz⟩ := hp
  obtain ⟨a, vs, ea, he, hl, hrow⟩ := fz_mat hz
  cases ea
  rw [mat_len] at hl
  refine ⟨_, rfl, _, rfl, p, cF, dx, _, _, rfl, hi, O.clF, O.F_entries, lkFe _ _ _, e, rfl, ⟨_, he⟩, fun D hD => ?_⟩
  refine lc_m (walk_tup (K := K) (a := e) (xs := vs)) RI (stb_RI (K := K)) (List.range n) (by rw [hl, List.length_range]) (by rw [List.length_range]; omega) hD (fun H' s => Same_seqT s he) (fun _ _ _ _ => ys_at) (fun i => S n fun j => g i j * y j) (fun c i v H1 H2 hc s1 s2 yl A B hA => ?_) (fun H3 l1 s3 hl1 rs => ?_)
  · obtain ⟨hc1, rfl⟩ := in_range hc
    obtain ⟨p1, hp1, hp2⟩ := hrow i _ (mat_at hc1)
    rw [yl.2] at hp1
    cases hp1
    exact ⟨rfl, lc_yes ⟨_, rfl, _, rfl, _, _, n, 8000, 8000, g i, y, rfl, .tup (Same_seqT s2 hp2) (FzAll.of_ints _).sn, h2.same s2, by omega, fun j hj => bg i j hc1 hj, by_, by decide, by decide, by decide, fun H' s => hA _ _ s rfl⟩⟩
  · have hD2 : H3 D = some (.lst ((vec n fun i => S n fun j => g i j * y j).map V.int)) := by rw [hl1, rs.ints]; rfl
    refine ⟨_, _, n, 8000, 16004, x, _, rfl, h1.same s3, .lst hD2 (FzAll.of_ints _).sn, by omega, bx, fun i hi => ?_, by decide, by decide, by decide, fun H4 s4 => ?_⟩
    · exact BS (k := 16000) (c := 4) (fun j hj => B.mul (m := 8000) (n := 8000) (bg i j hi hj) (by_ j hj)) hn
    · refine ⟨_, rfl, p, cF, dx, _, _, rfl, s4 _ _ (s3 _ _ hi), O.clF, O.F_bottom, lkFb _ _ _, _, _, rfl, hb, hB, fun r H5 s5 hr => q r H5 (s3.trans (s4.trans s5)) hr⟩
def spCall (K : PySem.W.Frag) (cF : Addr) : Sp := fun vs H Q _ => ∃ (p : Addr) (v1 : V) (n : Nat) (g : Nat → Nat → Int) (b : Int) (x : Nat → Int), vs = [.ref p, v1] ∧ FormAt K H cF p n (mat n g) b ∧ Sn K H v1 (tv n x) ∧ n ≤ 16 ∧ 0 < b ∧ B 9000 b ∧
  (∀ i, i < n → B 8000 (x i)) ∧ (∀ i j, i < n → j < n → B 8000 (g i j)) ∧ ∀ r H', Same H H' → FrAt H' r (bil n g x x / gI (bil n g x x) b) (b / gI (bil n g x x) b) → Q (.ref r) H'
abbrev s_mcall : Stmt := mth 32 6
abbrev N_mcall : List Str := ["self", "point"]
theorem sc_mcall : FnScope N_mcall ["self", "point"] (defScope s_mcall) := ⟨rfl, rfl, rfl, by decide +kernel, rfl, by decide +kernel, by decide +kernel⟩
theorem ok_mcall (F : Fun K "__call__" "Form.__call__" s_mcall f fd) (T : Txt mg) (O : Obs K cF cR) (C_mbetween : CalM P w K mg base 2 cF "between" ["self", "one", "two"] (spBetw K cF)) : FnOk P w K mg base CX0 3 f fd ["self", "point"] (spCall K cF) := by
  refine F.ok sc_mcall (fun vs H Q E h => ?_) (fun cdv A outer s H vs Q E hr h => ?_)
  · obtain ⟨p, v1, n, g, b, x, rfl, _⟩ := h
    rfl
  obtain ⟨p, v1, n, g, b, x, rfl, hp, h1, hn, hb, hB, bx, bg, q⟩ := h
  refine ⟨_, (pss_one (ps_ret (pe_calM O.clF C_mbetween (hr.mono (by omega)) (pv 0) (pa_cons (pv 1) (pa_cons (pv 1) pa_nil))))), ?_⟩
  obtain ⟨dx, e, hi, hz⟩ := id hp
  exact ⟨_, rfl, p, dx, _, rfl, hi, lkFx _ _ _ (by decide +kernel) (by decide +kernel) (by decide +kernel), _, rfl, _, rfl, p, v1, v1, n, g, b, x, x, rfl, hp, h1, h1, hn, hb, hB, bx, bx, bg, q⟩
end
end P15
set_option exponentiation.threshold 3000
namespace P15
open PySem PySem.Spec PyProof.Rows L2 SX EX WK
/-- a list of ties -/
def TL (K : PySem.W.Frag) (H : Hp) (a : Addr) (ts : List T3) : Prop := ∃ vs, H a = some (.lst vs) ∧ FzAll K H vs (ts.map td3)
theorem TL.same {K : PySem.W.Frag} {H H' : Hp} {a : Addr} {ts : List T3} (e : Same H H') (h : TL K H a ts) : TL K H' a ts := by
  obtain ⟨vs, h1, h2⟩ := h
  exact ⟨vs, e _ _ h1, h2.tk (WK.Same.tk e)⟩
theorem TL.at {K : PySem.W.Frag} {H : Hp} {a : Addr} {ts : List T3} (h : TL K H a ts) : ∃ vs : List V, H a = some (.lst vs) ∧ vs.length = ts.length ∧ FzAll K H vs (ts.map td3) ∧ ∀ (i : Nat) (t : T3), ts[i]? = some t → ∃ q, vs[i]? = some (.ref q) ∧ SqT K H q [.int t.1, .int t.2.1, .int t.2.2] := by
  obtain ⟨vs, h1, h2⟩ := h
  exact ⟨vs, h1, by rw [h2.len, List.length_map], h2, fun i t ht => ties_at h2 ht⟩
/-- what is asked of a web: its ties and its bottom -/
def DueW (K : PySem.W.Frag) (H : Hp) (d : Addr) (ts : List T3) (b : Int) : Prop := ∃ c, H d = some (.lst [.ref c, .int b]) ∧ TL K H c ts
theorem DueW.same {K : PySem.W.Frag} {H H' : Hp} {d : Addr} {ts : List T3} {b : Int} (e : Same H H') (h : DueW K H d ts b) : DueW K H' d ts b := let ⟨c, h1, h2⟩ := h; ⟨c, e _ _ h1, h2.same e⟩
/-- a list of ties that grows at D -/
structure Grow (K : PySem.W.Frag) (H0 H : Hp) (D : Addr) (l : List V) (ts : List T3) : Prop where
  same : Same H0 H
  at_ : H D = some (.lst l)
  fz : FzAll K H l (ts.map td3)
theorem Grow.start {K : PySem.W.Frag} {H0 : Hp} {D : Addr} (h : H0 D = none) : Grow K H0 (upd H0 D (.lst [])) D [] [] := ⟨same_new h _, upd_same, .nil⟩
theorem Grow.len {K : PySem.W.Frag} {H0 H : Hp} {D : Addr} {l : List V} {ts : List T3} (g : Grow K H0 H D l ts) : l.length = ts.length := by rw [g.fz.len, List.length_map]
theorem Grow.keep {K : PySem.W.Frag} {H0 H H' : Hp} {D : Addr} {l : List V} {ts : List T3} (g : Grow K H0 H D l ts) (s : Same H H') : Grow K H0 H' D l ts := ⟨g.same.trans s, s _ _ g.at_, g.fz.tk (WK.Same.tk s)⟩
theorem fz_snoc {K : PySem.W.Frag} {H : Hp} : ∀ {vs : List V} {ts : List Td} {u : V} {t : Td}, FzAll K H vs ts → Fz K H u t → FzAll K H (vs ++ [u]) (ts ++ [t])
  | _, _, _, _, .nil, g => .cons g .nil
  | _, _, _, _, .cons a r, g => .cons a (fz_snoc r g)
theorem Grow.push {K : PySem.W.Frag} {H0 H : Hp} {D z : Addr} {l : List V} {ts : List T3} (g : Grow K H0 H D l ts) (h0 : H0 D = none) (hz : H z = none) (t : T3) {o : HO} (ho : o = .tup [.int t.1, .int t.2.1, .int t.2.2]) :
    Grow K H0 (upd (upd H z o) D (.lst (l ++ [.ref z]))) D (l ++ [.ref z]) (ts ++ [t]) := by
  subst ho
  have zD : z ≠ D := fun e => by rw [e, g.at_] at hz; cases hz
  have s1 := same_new hz (.tup [.int t.1, .int t.2.1, .int t.2.2])
  have tk : Tk K (upd H z (.tup [.int t.1, .int t.2.1, .int t.2.2])) (upd (upd H z (.tup [.int t.1, .int t.2.1, .int t.2.2])) D (.lst (l ++ [.ref z]))) := tk_lst (s1 _ _ g.at_) fun b o hb e => by rw [upd_ne hb]; exact e
  refine ⟨same_at (g.same.trans s1) h0, upd_same, ?_⟩
  rw [List.map_append]
  exact fz_snoc ((g.fz.tk (WK.Same.tk s1)).tk tk) ((Fz.tup (SqT.of upd_same) (.cons (.int _) (.cons (.int _) (.cons (.int _) .nil)))).tk tk)
theorem Grow.tl {K : PySem.W.Frag} {H0 H : Hp} {D : Addr} {l : List V} {ts : List T3} (g : Grow K H0 H D l ts) : TL K H D ts := ⟨l, g.at_, g.fz⟩
theorem trow_len {pl : Nat} {t : T3} : (trow pl t).length = pl := by unfold trow; rw [List.length_map, List.length_range]; exact Int.toNat_natCast pl
theorem trow_at {pl : Nat} {t : T3} {i : Nat} (hi : i < pl) : (trow pl t).getD i 0 = b2 (decide ((i : Int) = t.1)) - b2 (decide ((i : Int) = t.2.1)) := by
  unfold trow
  rw [List.getD_eq_getElem?_getD, List.getElem?_map, List.getElem?_range (by rw [Int.toNat_natCast]; exact hi)]
  show b2 (decide (V.int (0 + (i : Int)) = V.int t.1)) - b2 (decide (V.int (0 + (i : Int)) = V.int t.2.1)) = _
  have e : ∀ x : Int, decide (V.int (0 + (i : Int)) = V.int x) = decide ((i : Int) = x) := fun x => by
    rw [Bool.eq_iff_iff, decide_eq_true_iff, decide_eq_true_iff, Int.zero_add]
    exact ⟨V.int.inj, fun e => by rw [e]⟩
  rw [e, e]
end P15
set_option exponentiation.threshold 3000
namespace P15
open PySem PySem.Spec PyProof.Rows L2 SX EX WK
/-! ### a web in lowest terms -/
theorem ws_psOf {pl : Nat} {ts : List T3} : ws (psOf pl ts) = ts.map (·.2.2) := by
  unfold ws psOf
  rw [List.map_map]
  rfl
theorem wt_ws {ts : List T3} {b : Int} : (wt ts b).map (·.2.2) = (ts.map (·.2.2)).map (· / wg ts b) := by
  unfold wt
  rw [List.map_map, List.map_map]
  rfl
theorem web_one {pl : Nat} {ts : List T3} {b : Int} (hb : 0 < b) : gf (wb ts b) (ws (psOf pl (wt ts b))) = 1 := by
  rw [ws_psOf, wt_ws]
  exact gf_one hb _
theorem dp_one (ps : List RW) : dp ps 1 = ps := by
  unfold dp
  have : (fun p : RW => (p.1, p.2 / 1)) = id := by
    funext p
    show (p.1, p.2 / 1) = p
    rw [Int.ediv_one]
  rw [this, List.map_id]
theorem wps_eq {pl : Nat} {ts : List T3} {b : Int} (hb : 0 < b) : wps pl ts b = psOf pl (wt ts b) := by
  unfold wps
  rw [web_one hb, dp_one]
theorem wpb_eq {pl : Nat} {ts : List T3} {b : Int} (hb : 0 < b) : wpb pl ts b = wb ts b := by
  unfold wpb
  rw [web_one hb, Int.ediv_one]
theorem fmat_eq {n : Nat} {ps : List RW} {b : Int} : fmat n ps b = mat n fun i j => wsum ps i j / gf b (mat n (wsum ps)).flatten := by
  unfold fmat
  exact dm_mat
theorem fbot_eq {n : Nat} {ps : List RW} {b : Int} : fbot n ps b = b / gf b (mat n (wsum ps)).flatten := rfl
theorem prs_B {n : Nat} {ps : List RW} (h : Prs n ps) {p : RW} (hp : p ∈ ps) (j : Nat) : B 1400 (p.1.getD j 0) := by
  obtain ⟨h1, h2, h3, h4⟩ := h.2 p hp
  by_cases hj : j < p.1.length
  · rw [List.getD_eq_getElem?_getD, List.getElem?_eq_getElem hj]
    exact h4 _ (List.getElem_mem hj)
  · rw [List.getD_eq_getElem?_getD, List.getElem?_eq_none (by omega)]
    show (0 : Int).natAbs < 2 ^ 1400
    exact Nat.pow_pos (by decide)
theorem wsum_B {n : Nat} {ps : List RW} (h : Prs n ps) (i j : Nat) : B 6500 (wsum ps i j) := by
  have : B (4200 + 10) (wsum ps i j) := BLs (k := 4200) (c := 10) (l := ps) (fun p hp => B.mul (m := 2800) (n := 1400) (B.mul (m := 1400) (n := 1400) (h.2 p hp).2.2.1 (prs_B h hp i)) (prs_B h hp j)) (Nat.le_trans h.1 (by decide))
  exact this.mono (by decide)
theorem ints_dp {K : PySem.W.Frag} {H : Hp} {t : Addr} {ns : List Int} (h : SqT K H t (ns.map V.int)) : Dp K H (.ref t) (Td.tup (ns.map Td.int)).py := (Fz.tup h (FzAll.of_ints ns)).dp
def ipy (ns : List Int) : List PyData := ns.map PyData.int
theorem ipy_lay : ∀ ns : List Int, PyData.canLayAll0 (ipy ns) = true
  | [] => by unfold ipy; rw [List.map_nil, PyData.canLayAll0]
  | n :: ns => by
    have h := ipy_lay ns
    unfold ipy at h ⊢
    rw [List.map_cons, PyData.canLayAll0, h, PyData.canLay0]
    rfl
theorem ipy_dep : ∀ ns : List Int, PyData.depthAll (ipy ns) = 0
  | [] => by unfold ipy; rw [List.map_nil, PyData.depthAll]
  | n :: ns => by
    have h := ipy_dep ns
    unfold ipy at h ⊢
    rw [List.map_cons, PyData.depthAll, h, PyData.depth]
    rfl
theorem ints_dpl {K : PySem.W.Frag} {H : Hp} : ∀ ns : List Int, DpAll K H (ns.map V.int) (ipy ns)
  | [] => .nil
  | n :: ns => .cons (.int n) (ints_dpl ns)
theorem ilst_dp {K : PySem.W.Frag} {H : Hp} {t : Addr} {ns : List Int} (h : H t = some (.lst (ns.map V.int))) : Dp K H (.ref t) (.list (ipy ns)) := .lst (SqL.of h) (ints_dpl ns)
theorem ilst_shaped (ns : List Int) : SeqAt.shaped (.list (ipy ns)) = true := by
  unfold SeqAt.shaped
  rw [Bool.and_eq_true]
  constructor
  · simp [PyData.canLay0, ipy_lay]
  · refine decide_eq_true ?_
    simp only [PyData.depth, ipy_dep]
    omega
/-- a list of such data -/
theorem pys_eq : ∀ ts : List Td, Td.pys ts = ts.map Td.py
  | [] => rfl
  | t :: ts => by rw [Td.pys, pys_eq ts, List.map_cons]
theorem fzall_dp {K : PySem.W.Frag} {H : Hp} : ∀ {vs : List V} {ts : List Td}, FzAll K H vs ts → DpAll K H vs (Td.pys ts)
  | _, _, .nil => .nil
  | _, _, .cons a r => .cons a.dp (fzall_dp r)
/-- ties that a web may have -/
structure TOk (pl : Nat) (ts : List T3) (b : Int) : Prop where
  ok : ∀ t ∈ ts, OkU pl t
  bd : ∀ t ∈ ts, B 1400 t.2.2
  len : ts.length ≤ 1000
  pl : pl ≤ 300
  bot : 0 < b
  bB : B 6000 b
theorem TOk.low {pl : Nat} {ts : List T3} {b : Int} (h : TOk pl ts b) : TOk pl (wt ts b) (wb ts b) :=
  ⟨fun t ht => (wt_okU h.bot h.ok h.bd t ht).1, fun t ht => (wt_okU h.bot h.ok h.bd t ht).2, by rw [wt_len]; exact h.len, h.pl, wb_pos h.bot, wb_B h.bot h.bB⟩
end P15
set_option exponentiation.threshold 3000
namespace P15
open PySem PySem.Spec PyProof.Rows L2 SX EX WK
abbrev T2 := Int × Int
def tde (e : T2) : Td := .tup [.int e.1, .int e.2]
structure OkE (n : Nat) (e : T2) : Prop where
  ne : e.1 ≠ e.2
  a0 : 0 ≤ e.1
  a1 : e.1 < n
  b0 : 0 ≤ e.2
  b1 : e.2 < n
/-- a list of ends -/
def EL (K : PySem.W.Frag) (H : Hp) (a : Addr) (es : List T2) : Prop := ∃ vs, H a = some (.lst vs) ∧ FzAll K H vs (es.map tde)
theorem EL.same {K : PySem.W.Frag} {H H' : Hp} {a : Addr} {es : List T2} (e : Same H H') (h : EL K H a es) : EL K H' a es := by
  obtain ⟨vs, h1, h2⟩ := h
  exact ⟨vs, e _ _ h1, h2.tk (WK.Same.tk e)⟩
theorem fz_end {K : PySem.W.Frag} {H : Hp} {v : V} {t : T2} (h : Fz K H v (tde t)) : ∃ p, v = .ref p ∧ SqT K H p [.int t.1, .int t.2] := by
  cases h with
  | tup hs hf =>
    refine ⟨_, rfl, ?_⟩
    cases hf with
    | cons h1 hf =>
      cases hf with
      | cons h2 hf =>
        cases hf
        cases h1
        cases h2
        exact hs
structure GE (K : PySem.W.Frag) (H0 H : Hp) (D : Addr) (l : List V) (es : List T2) : Prop where
  same : Same H0 H
  at_ : H D = some (.lst l)
  fz : FzAll K H l (es.map tde)
theorem GE.start {K : PySem.W.Frag} {H0 : Hp} {D : Addr} (h : H0 D = none) : GE K H0 (upd H0 D (.lst [])) D [] [] := ⟨same_new h _, upd_same, .nil⟩
theorem GE.len {K : PySem.W.Frag} {H0 H : Hp} {D : Addr} {l : List V} {es : List T2} (g : GE K H0 H D l es) : l.length = es.length := by rw [g.fz.len, List.length_map]
theorem GE.push {K : PySem.W.Frag} {H0 H : Hp} {D z : Addr} {l : List V} {es : List T2} (g : GE K H0 H D l es) (h0 : H0 D = none) (hz : H z = none) (t : T2) {o : HO} (ho : o = .tup [.int t.1, .int t.2]) :
    GE K H0 (upd (upd H z o) D (.lst (l ++ [.ref z]))) D (l ++ [.ref z]) (es ++ [t]) := by
  subst ho
  have zD : z ≠ D := fun e => by rw [e, g.at_] at hz; cases hz
  have s1 := same_new hz (.tup [.int t.1, .int t.2])
  have tk : Tk K (upd H z (.tup [.int t.1, .int t.2])) (upd (upd H z (.tup [.int t.1, .int t.2])) D (.lst (l ++ [.ref z]))) := tk_lst (s1 _ _ g.at_) fun b o hb e => by rw [upd_ne hb]; exact e
  refine ⟨same_at (g.same.trans s1) h0, upd_same, ?_⟩
  rw [List.map_append]
  exact fz_snoc ((g.fz.tk (WK.Same.tk s1)).tk tk) ((Fz.tup (SqT.of upd_same) (.cons (.int _) (.cons (.int _) .nil))).tk tk)
theorem GE.el {K : PySem.W.Frag} {H0 H : Hp} {D : Addr} {l : List V} {es : List T2} (g : GE K H0 H D l es) : EL K H D es := ⟨l, g.at_, g.fz⟩
theorem okE_snoc {n : Nat} {es : List T2} {e : T2} (h : ∀ x ∈ es, OkE n x) (h2 : OkE n e) : ∀ x ∈ es ++ [e], OkE n x := fun x hx => by
  rcases List.mem_append.mp hx with m | m
  · exact h x m
  · rw [List.mem_singleton.mp m]
    exact h2
section
variable {P : Program} {w : World} {K : PySem.W.Frag} {mg : Str → Option Value} {base : Heap} {f : Addr} {fd : FuncData} {cF cR cW : Addr}
/-- the state between the rules -/
def RInv (K : PySem.W.Frag) (n : Nat) (kind : Int) (H : Hp) (m : Nat) (σ : List (Option V)) (H' : Hp) : Prop := ∃ (D : Addr) (l : List V) (es : List T2) (v4 v5 v6 : Option V), σ = [some (.int (n : Int)), some (.int kind), some (.ref D), some (.int ((n : Int) / 2)), v4, v5, v6] ∧ H D = none ∧ GE K H H' D l es ∧ (∀ e ∈ es, OkE n e) ∧ es.length ≤ m
theorem RInv.mono {n : Nat} {kind : Int} {H : Hp} {m m' : Nat} {σ : List (Option V)} {H' : Hp} (h : RInv K n kind H m σ H') (hm : m ≤ m') : RInv K n kind H m' σ H' := by
  obtain ⟨D, l, es, v4, v5, v6, h1, h2, h3, h4, h5⟩ := h
  exact ⟨D, l, es, v4, v5, v6, h1, h2, h3, h4, Nat.le_trans h5 hm⟩
def spRule (K : PySem.W.Frag) : Sp := fun vs H Q _ => ∃ (n : Nat) (kind : Int), vs = [.int (n : Int), .int kind] ∧ 2 ≤ n ∧ n ≤ 10 ∧ ∀ r H' es, Same H H' → EL K H' r es → (∀ e ∈ es, OkE n e) → es.length ≤ 140 → Q (.ref r) H'
theorem half_le {n : Nat} (h : n ≤ 10) : (n : Int) / 2 ≤ 5 ∧ 0 ≤ (n : Int) / 2 ∧ 2 * ((n : Int) / 2) ≤ n := by omega
abbrev s__law_rule : Stmt := top 50
abbrev N__law_rule : List Str := ["places", "kind", "ends", "half", "k", "one", "two"]
theorem sc__law_rule : FnScope N__law_rule ["places", "kind"] (defScope s__law_rule) := ⟨rfl, rfl, rfl, by decide +kernel, rfl, by decide +kernel, by decide +kernel⟩
theorem ok__law_rule (F : Fun K "_law_rule" "_law_rule" s__law_rule f fd) (T : Txt mg) : FnOk P w K mg base CX0 1 f fd ["places", "kind"] (spRule K) := by
  refine F.ok sc__law_rule (fun vs H Q E h => ?_) (fun cdv A outer s H vs Q E hr h => ?_)
  · obtain ⟨n, kind, rfl, _⟩ := h
    rfl
  obtain ⟨n, kind, rfl, hn2, hn, q⟩ := h
  refine ⟨_, (pss_cons (ps_set (i := 2) sc__law_rule.nd rfl (Or.inl rfl) (pe_lst pa_nil))
  (pss_cons (ps_set (i := 3) sc__law_rule.nd rfl (Or.inl rfl) (pe_op op_fdivW (pv 0) pe_int))
  (C8.pss_cut (ps_if (PW.pt (pw_or (pt_cmpR op_eq (pv 1) pe_int (nomark _)) (pw_or1 (pt_cmpR op_eq (pv 1) pe_int (nomark _))))) (pss_one (ps_setLc (i := 2) (own := [("k", 4)]) (g := gName 4) (tt := tYes) (by rfl) sc__law_rule.nd rfl rfl (sw_true rfl rfl rfl (by decide +kernel)) (pi_range1 (by rfl) T.b_range (pa_cons (pe_op op_sub (pv 0) pe_int) pa_nil)) (blkOk_by (N := N__law_rule) (sc := defScope s__law_rule) (by decide +kernel)) (fun _ _ _ _ _ => (pg_name (i := 4) sc__law_rule.nd rfl (Or.inl rfl))) (fun _ _ _ _ _ => pts_nil) (fun _ _ _ _ _ => (pe_tup (pa_cons (pv 4) (pa_cons (pe_op op_add (pv 4) pe_int) pa_nil)))))) pss_nil)
  (C8.pss_cut (ps_if (PW.pt (pw_and (pt_cmpR op_eq (pv 1) pe_int (nomark _)) (pw_and1 (pt_cmpR op_gt (pv 0) pe_int (nomark _))))) (pss_one (ps_expr (pe_bm PySem.F.plainAttrs_list PySem.F.slot_list_append PySem.F.type_list_append mt_append (pv 2) (pa_cons (pe_tup (pa_cons (pe_op op_sub (pv 0) pe_int) (pa_cons pe_int pa_nil))) pa_nil)))) pss_nil)
  (C8.pss_cut (ps_if (pt_cmpR op_eq (pv 1) pe_int (nomark _)) (pss_one (ps_for PassesOwn.never rfl (pi_range1 (by rfl) T.b_range (pa_cons (pv 0) pa_nil)) (pg_name (i := 5) sc__law_rule.nd rfl (Or.inl rfl)) (pss_one (ps_for PassesOwn.never rfl (pi_range1 (by rfl) T.b_range (pa_cons (pv 5) pa_nil)) (pg_name (i := 6) sc__law_rule.nd rfl (Or.inl rfl)) (pss_one (ps_expr (pe_bm PySem.F.plainAttrs_list PySem.F.slot_list_append PySem.F.type_list_append mt_append (pv 2) (pa_cons (pe_tup (pa_cons (pv 5) (pa_cons (pv 6) pa_nil))) pa_nil)))))))) pss_nil)
  (C8.pss_cut (ps_if (pt_cmpR op_eq (pv 1) pe_int (nomark _)) (pss_one (ps_for PassesOwn.never rfl (pi_range1 (by rfl) T.b_range (pa_cons (pv 3) pa_nil)) (pg_name (i := 4) sc__law_rule.nd rfl (Or.inl rfl)) (pss_cons (ps_expr (pe_bm PySem.F.plainAttrs_list PySem.F.slot_list_append PySem.F.type_list_append mt_append (pv 2) (pa_cons (pe_tup (pa_cons (pv 4) (pa_cons (pe_op op_add (pv 3) (pv 4)) pa_nil))) pa_nil)))
  (pss_one (ps_if (pt_cmpR op_lt (pe_op op_add (pv 4) pe_int) (pv 3) (nomark _)) (pss_cons (ps_expr (pe_bm PySem.F.plainAttrs_list PySem.F.slot_list_append PySem.F.type_list_append mt_append (pv 2) (pa_cons (pe_tup (pa_cons (pe_op op_add (pv 4) pe_int) (pa_cons (pv 4) pa_nil))) pa_nil)))
  (pss_one (ps_expr (pe_bm PySem.F.plainAttrs_list PySem.F.slot_list_append PySem.F.type_list_append mt_append (pv 2) (pa_cons (pe_tup (pa_cons (pe_op op_add (pv 3) (pv 4)) (pa_cons (pe_op op_add (pe_op op_add (pv 3) (pv 4)) pe_int) pa_nil))) pa_nil))))) pss_nil))))) pss_nil)
  (C8.pss_cut (ps_if (pt_cmpR op_eq (pv 1) pe_int (nomark _)) (pss_one (ps_setLc (i := 2) (own := [("k", 4)]) (g := gName 4) (tt := tYes) (by rfl) sc__law_rule.nd rfl rfl (sw_true rfl rfl rfl (by decide +kernel)) (pi_range2 (by rfl) T.b_range (pa_cons pe_int (pa_cons (pv 0) pa_nil))) (blkOk_by (N := N__law_rule) (sc := defScope s__law_rule) (by decide +kernel)) (fun _ _ _ _ _ => (pg_name (i := 4) sc__law_rule.nd rfl (Or.inl rfl))) (fun _ _ _ _ _ => pts_nil) (fun _ _ _ _ _ => (pe_tup (pa_cons pe_int (pa_cons (pv 4) pa_nil)))))) pss_nil)
  (pss_one (ps_ret (pv 2)))))))))), ?_⟩
  obtain ⟨hh1, hh2, hh3⟩ := half_le hn
  refine ⟨Nat.zero_le _, fun D hD => ?_⟩
  refine ⟨_, rfl, _, _, rfl, rfl, wdiv (n := 3) (by decide) (by decide) (by decide) (by decide), ?_⟩
  -- a comprehension of pairs
  have comp : ∀ {H1 H2 : Hp} {D2 : Addr} {l2 : List V} {es : List T2} {m : Nat}, Same H H1 → H1 D2 = none → Same H1 H2 → H2 D2 = some (.lst l2) → Rs (Fz K) H2 l2 (es.map tde) → (∀ e ∈ es, OkE n e) → es.length ≤ m → ∀ {v4 v5 v6 : Option V}, RInv K n kind H m [some (.int (n : Int)), some (.int kind), some (.ref D2), some (.int ((n : Int) / 2)), v4, v5, v6] H2 := by
    intro H1 H2 D2 l2 es m s1 h2 s2 h3 rs ho hl v4 v5 v6
    exact ⟨_, _, _, v4, v5, v6, rfl, none_of s1 h2, ⟨s1.trans s2, h3, rs.fz⟩, ho, hl⟩
  -- path
  refine ⟨RInv K n kind H 11, ?_, ?_⟩
  · refine ⟨_, rfl, rfl, _, rfl, ite2 (fun _ => ?a) (fun _ => ⟨_, rfl, rfl, _, rfl, ite2 (fun _ => ?b) (fun _ => ?c)⟩)⟩
    case c => exact ⟨D, [], [], none, none, none, rfl, hD, GE.start hD, fun e he => (by cases he), by simp⟩
    all_goals
      refine ⟨_, rfl, _, _, rfl, rfl, ((n : Int) - 1), rfl, by omega, by omega, fun D2 hD2 => ?_⟩
      refine lc_m (walk_range (lo := 0) (n := ((n : Int) - 1).toNat)) (Fz K) stb_Fz (List.range ((n : Int) - 1).toNat) (by rw [List.length_range]) (by rw [List.length_range]; omega) hD2 (fun _ _ => trivial) (fun _ _ _ _ => ys_fn) (fun (k : Nat) => tde (0 + (k : Int), 0 + (k : Int) + 1)) (fun c k x H1 H2 hc s1 s2 y A B hA => ?_) (fun H1 l s1 hl1 rs => ?_)
      · obtain ⟨hc1, rfl⟩ := in_range hc
        rw [y.2]
        exact ⟨rfl, lc_yes ⟨_, rfl, _, rfl, _, _, rfl, rfl, two_line, fun z hz => hA _ _ (same_new hz _) (.tup (SqT.of upd_same) (.cons (.int _) (.cons (.int _) .nil)))⟩⟩
      · refine comp (es := (List.range ((n : Int) - 1).toNat).map fun (k : Nat) => ((0 + (k : Int), 0 + (k : Int) + 1) : T2)) (same_new hD _) hD2 s1 hl1 (by rw [List.map_map]; exact rs) (fun e he => ?_) (by rw [List.length_map, List.length_range]; omega)
        obtain ⟨k, hk, rfl⟩ := List.mem_map.mp he
        have := List.mem_range.mp hk
        exact ⟨by show (0 + (k : Int)) ≠ 0 + (k : Int) + 1; omega, by show (0 : Int) ≤ 0 + (k : Int); omega, by show (0 + (k : Int)) < n; omega, by show (0 : Int) ≤ 0 + (k : Int) + 1; omega, by show (0 + (k : Int) + 1) < n; omega⟩
  rintro σ H1 ⟨D1, l, es, v4, v5, v6, rfl, hD1, g, ho, hl⟩
  -- ring
  refine ⟨RInv K n kind H 12, ?_, ?_⟩
  · refine ⟨_, rfl, rfl, _, rfl, ite2 (fun _ => ⟨_, rfl, _, _, rfl, rfl, _, rfl, ite2 (fun hp => ?_) (fun _ => ?_)⟩) (fun _ => ?_)⟩
    · refine ⟨_, rfl, .inl ⟨rfl, _, SqL.of g.at_⟩, _, rfl, _, _, rfl, rfl, two_line, fun z hz => ?_⟩
      refine ⟨D1, _, _, rfl, rfl, same_new hz _ _ _ g.at_, small1000 (by have := g.len; omega), D1, l ++ [.ref z], es ++ [((n : Int) - 1, 0)], v4, v5, v6, rfl, hD1, g.push hD1 hz ((n : Int) - 1, 0) rfl, okE_snoc ho ⟨by show (n : Int) - 1 ≠ 0; omega, by show (0 : Int) ≤ (n : Int) - 1; omega, by show (n : Int) - 1 < n; omega, by show (0 : Int) ≤ 0; omega, by show (0 : Int) < n; omega⟩, by rw [List.length_append]; simp; omega⟩
    · exact ⟨D1, l, es, v4, v5, v6, rfl, hD1, g, ho, by omega⟩
    · exact ⟨D1, l, es, v4, v5, v6, rfl, hD1, g, ho, by omega⟩
  clear g ho hl hD1
  rintro σ H2 ⟨D1, l, es, v4, v5, v6, rfl, hD1, g, ho, hl⟩
  -- all pairs
  refine ⟨RInv K n kind H 112, ?_, ?_⟩
  · refine ⟨_, rfl, rfl, _, rfl, ite2 (fun _ => ?_) (fun _ => ⟨D1, l, es, v4, v5, v6, rfl, hD1, g, ho, by omega⟩)⟩
    refine ⟨_, rfl, (n : Int), rfl, by omega, by omega, for_range (lo := 0) (n := n) (fun i σ H' => ∃ (l : List V) (es : List T2) (v5 v6 : Option V), σ = [some (.int (n : Int)), some (.int kind), some (.ref D1), some (.int ((n : Int) / 2)), v4, v5, v6] ∧ GE K H H' D1 l es ∧ (∀ e ∈ es, OkE n e) ∧ es.length ≤ 12 + 10 * i) ⟨l, es, v5, v6, rfl, g, ho, by omega⟩ ?_ ?_⟩
    · rintro i σ H3 hi ⟨l, es, v5, v6, rfl, g, ho, hl⟩
      refine ⟨_, rfl, (0 + (i : Int)), rfl, by omega, by omega, for_range (lo := 0) (n := (0 + (i : Int)).toNat) (fun j σ H' => ∃ (l : List V) (es : List T2) (v6 : Option V), σ = [some (.int (n : Int)), some (.int kind), some (.ref D1), some (.int ((n : Int) / 2)), v4, some (.int (0 + (i : Int))), v6] ∧ GE K H H' D1 l es ∧ (∀ e ∈ es, OkE n e) ∧ es.length ≤ 12 + 10 * i + j) ⟨l, es, v6, rfl, g, ho, by omega⟩ ?_ ?_⟩
      · rintro j σ H4 hj ⟨l, es, v6, rfl, g, ho, hl⟩
        refine ⟨_, rfl, .inl ⟨rfl, _, SqL.of g.at_⟩, _, rfl, _, rfl, two_line, fun z hz => ?_⟩
        refine ⟨D1, _, _, rfl, rfl, same_new hz _ _ _ g.at_, small1000 (by have := g.len; omega), l ++ [.ref z], es ++ [(0 + (i : Int), 0 + (j : Int))], some (.int (0 + (j : Int))), rfl, g.push hD1 hz (0 + (i : Int), 0 + (j : Int)) rfl, okE_snoc ho ⟨by show 0 + (i : Int) ≠ 0 + (j : Int); omega, by show (0 : Int) ≤ 0 + (i : Int); omega, by show 0 + (i : Int) < n; omega, by show (0 : Int) ≤ 0 + (j : Int); omega, by show 0 + (j : Int) < n; omega⟩, by rw [List.length_append]; simp; omega⟩
      · rintro σ H4 ⟨l, es, v6, rfl, g, ho, hl⟩
        exact ⟨l, es, some (.int (0 + (i : Int))), v6, rfl, g, ho, by omega⟩
    · rintro σ H3 ⟨l, es, v5, v6, rfl, g, ho, hl⟩
      exact ⟨D1, l, es, v4, v5, v6, rfl, hD1, g, ho, by omega⟩
  clear g ho hl hD1
  rintro σ H3 ⟨D1, l, es, v4, v5, v6, rfl, hD1, g, ho, hl⟩
  -- two rows
  refine ⟨RInv K n kind H 127, ?_, ?_⟩
  · refine ⟨_, rfl, rfl, _, rfl, ite2 (fun _ => ?_) (fun _ => ⟨D1, l, es, v4, v5, v6, rfl, hD1, g, ho, by omega⟩)⟩
    refine ⟨_, rfl, ((n : Int) / 2), rfl, by omega, by omega, for_range (lo := 0) (n := ((n : Int) / 2).toNat) (fun i σ H' => ∃ (l : List V) (es : List T2) (v4 : Option V), σ = [some (.int (n : Int)), some (.int kind), some (.ref D1), some (.int ((n : Int) / 2)), v4, v5, v6] ∧ GE K H H' D1 l es ∧ (∀ e ∈ es, OkE n e) ∧ es.length ≤ 112 + 3 * i) ⟨l, es, v4, rfl, g, ho, by omega⟩ ?_ ?_⟩
    · rintro i σ H4 hi ⟨l, es, v4, rfl, g, ho, hl⟩
      refine ⟨_, rfl, .inl ⟨rfl, _, SqL.of g.at_⟩, _, rfl, _, rfl, _, rfl, _, _, rfl, rfl, two_line, fun z hz => ?_⟩
      have g2 := g.push hD1 hz (0 + (i : Int), (n : Int) / 2 + (0 + (i : Int))) rfl
      have ho2 := okE_snoc ho (e := (0 + (i : Int), (n : Int) / 2 + (0 + (i : Int)))) ⟨by show 0 + (i : Int) ≠ (n : Int) / 2 + (0 + (i : Int)); omega, by show (0 : Int) ≤ 0 + (i : Int); omega, by show 0 + (i : Int) < n; omega, by show (0 : Int) ≤ (n : Int) / 2 + (0 + (i : Int)); omega, by show (n : Int) / 2 + (0 + (i : Int)) < n; omega⟩
      have hl2 : (es ++ [((0 + (i : Int), (n : Int) / 2 + (0 + (i : Int))) : T2)]).length ≤ 113 + 3 * i := by rw [List.length_append]; simp; omega
      refine ⟨D1, _, _, rfl, rfl, same_new hz _ _ _ g.at_, small1000 (by have := g.len; omega), ?_⟩
      generalize es ++ [((0 + (i : Int), (n : Int) / 2 + (0 + (i : Int))) : T2)] = es2 at g2 ho2 hl2
      generalize upd (upd H4 z _) D1 _ = H5 at g2 ⊢
      generalize l ++ [.ref z] = l2 at g2
      refine ⟨_, rfl, _, _, rfl, rfl, _, rfl, _, _, rfl, rfl, _, rfl, ite2 (fun hp => ?_) (fun _ => ⟨l2, es2, some (.int (0 + (i : Int))), rfl, g2, ho2, by omega⟩)⟩
      have hp' : 0 + (i : Int) + 1 < (n : Int) / 2 := of_decide_eq_true hp
      refine ⟨_, rfl, .inl ⟨rfl, _, SqL.of g2.at_⟩, _, rfl, _, _, rfl, rfl, _, rfl, two_line, fun z2 hz2 => ?_⟩
      have g3 := g2.push hD1 hz2 (0 + (i : Int) + 1, 0 + (i : Int)) rfl
      have ho3 := okE_snoc ho2 (e := (0 + (i : Int) + 1, 0 + (i : Int))) ⟨by show 0 + (i : Int) + 1 ≠ 0 + (i : Int); omega, by show (0 : Int) ≤ 0 + (i : Int) + 1; omega, by show 0 + (i : Int) + 1 < n; omega, by show (0 : Int) ≤ 0 + (i : Int); omega, by show 0 + (i : Int) < n; omega⟩
      have hl3 : (es2 ++ [((0 + (i : Int) + 1, 0 + (i : Int)) : T2)]).length ≤ 114 + 3 * i := by rw [List.length_append]; simp; omega
      refine ⟨D1, _, _, rfl, rfl, same_new hz2 _ _ _ g2.at_, small1000 (by have := g2.len; omega), ?_⟩
      generalize es2 ++ [((0 + (i : Int) + 1, 0 + (i : Int)) : T2)] = es3 at g3 ho3 hl3
      generalize upd (upd H5 z2 _) D1 _ = H6 at g3 ⊢
      generalize l2 ++ [.ref z2] = l3 at g3
      refine ⟨_, rfl, .inl ⟨rfl, _, SqL.of g3.at_⟩, _, rfl, _, rfl, _, _, rfl, rfl, _, rfl, _, rfl, _, _, rfl, rfl, _, _, rfl, rfl, two_line, fun z3 hz3 => ?_⟩
      refine ⟨D1, _, _, rfl, rfl, same_new hz3 _ _ _ g3.at_, small1000 (by have := g3.len; omega), l3 ++ [.ref z3], es3 ++ [((n : Int) / 2 + (0 + (i : Int)), (n : Int) / 2 + (0 + (i : Int)) + 1)], some (.int (0 + (i : Int))), rfl, g3.push hD1 hz3 ((n : Int) / 2 + (0 + (i : Int)), (n : Int) / 2 + (0 + (i : Int)) + 1) rfl, okE_snoc ho3 ⟨by show (n : Int) / 2 + (0 + (i : Int)) ≠ (n : Int) / 2 + (0 + (i : Int)) + 1; omega, by show (0 : Int) ≤ (n : Int) / 2 + (0 + (i : Int)); omega, by show (n : Int) / 2 + (0 + (i : Int)) < n; omega, by show (0 : Int) ≤ (n : Int) / 2 + (0 + (i : Int)) + 1; omega, by show (n : Int) / 2 + (0 + (i : Int)) + 1 < n; omega⟩, by rw [List.length_append]; simp; omega⟩
    · rintro σ H4 ⟨l, es, v4, rfl, g, ho, hl⟩
      exact ⟨D1, l, es, v4, v5, v6, rfl, hD1, g, ho, by omega⟩
  clear g ho hl hD1
  rintro σ H4 ⟨D1, l, es, v4, v5, v6, rfl, hD1, g, ho, hl⟩
  -- star
  refine ⟨RInv K n kind H 130, ?_, ?_⟩
  · refine ⟨_, rfl, rfl, _, rfl, ite2 (fun _ => ?_) (fun _ => ⟨D1, l, es, v4, v5, v6, rfl, hD1, g, ho, by omega⟩)⟩
    refine ⟨_, rfl, (1 : Int), (n : Int), rfl, ⟨by omega, by omega, by omega, by omega⟩, fun D2 hD2 => ?_⟩
    refine lc_m (walk_range (lo := 1) (n := ((n : Int) - 1).toNat)) (Fz K) stb_Fz (List.range ((n : Int) - 1).toNat) (by rw [List.length_range]) (by rw [List.length_range]; omega) hD2 (fun _ _ => trivial) (fun _ _ _ _ => ys_fn) (fun (k : Nat) => tde (0, 1 + (k : Int))) (fun c k x H1 H2 hc s1 s2 y A B hA => ?_) (fun H5 l s1 hl1 rs => ?_)
    · obtain ⟨hc1, rfl⟩ := in_range hc
      rw [y.2]
      exact ⟨rfl, lc_yes ⟨_, rfl, two_line, fun z hz => hA _ _ (same_new hz _) (.tup (SqT.of upd_same) (.cons (.int _) (.cons (.int _) .nil)))⟩⟩
    · refine comp (es := (List.range ((n : Int) - 1).toNat).map fun (k : Nat) => ((0, 1 + (k : Int)) : T2)) g.same hD2 s1 hl1 (by rw [List.map_map]; exact rs) (fun e he => ?_) (by rw [List.length_map, List.length_range]; omega)
      obtain ⟨k, hk, rfl⟩ := List.mem_map.mp he
      have := List.mem_range.mp hk
      exact ⟨by show (0 : Int) ≠ 1 + (k : Int); omega, by show (0 : Int) ≤ 0; omega, by show (0 : Int) < n; omega, by show (0 : Int) ≤ 1 + (k : Int); omega, by show (1 + (k : Int)) < n; omega⟩
  clear g ho hl hD1
  rintro σ H5 ⟨D1, l, es, v4, v5, v6, rfl, hD1, g, ho, hl⟩
  exact ⟨_, rfl, q D1 H5 es g.same g.el ho (by omega)⟩
end
end P15
set_option exponentiation.threshold 3000
namespace P15
open PySem PySem.Spec PyProof.Rows L2 SX EX WK
theorem szs {zs : List Int} (h : zs.all (fun z => decide (0 < z) && decide (z.natAbs < 2 ^ 2000)) = true) : ∀ z ∈ zs, 0 < z ∧ z.natAbs < 2 ^ 2000 := fun z hz => by
  have := List.all_eq_true.mp h z hz
  simp only [Bool.and_eq_true, decide_eq_true_eq] at this
  exact this
theorem pick {cs : List Int} {d : Int} (h0 : 0 ≤ d) (h1 : d < (cs.length : Nat)) : ∃ x, x ∈ cs ∧ (cs.map V.int)[d.toNat]? = some (.int x) := by
  have hl : d.toNat < cs.length := by omega
  exact ⟨cs[d.toNat], List.getElem_mem hl, at_int (List.getElem?_eq_getElem hl)⟩
theorem ok_two {n : Nat} {sp a x : Int} (hp : 1 < sp) (hs : sp ≤ n) (h0 : 0 ≤ a) (h1 : a < sp) : OkE n (a, (a + 1 + x % (sp - 1)) % sp) := by
  have g0 := Int.emod_nonneg x (show sp - 1 ≠ 0 by omega)
  have g1 := Int.emod_lt_of_pos x (show 0 < sp - 1 by omega)
  generalize x % (sp - 1) = d at g0 g1
  have m0 := Int.emod_nonneg (a + 1 + d) (show sp ≠ 0 by omega)
  have m1 := Int.emod_lt_of_pos (a + 1 + d) (show 0 < sp by omega)
  refine ⟨fun e => ?_, h0, by show a < n; omega, m0, by show (a + 1 + d) % sp < n; omega⟩
  have e1 : a = (a + 1 + d) % sp := e
  by_cases h : a + 1 + d < sp
  · rw [Int.emod_eq_of_lt (by omega) h] at e1
    omega
  · have e2 : (a + 1 + d) % sp = a + 1 + d - sp := by
      rw [← Int.sub_emod_right, Int.emod_eq_of_lt (by omega) (by omega)]
    omega
theorem rep_map (k : Nat) (cs : List Int) : (List.replicate k (cs.map V.int)).flatten = ((List.replicate k cs).flatten).map V.int := by
  rw [List.map_flatten, List.map_replicate]
theorem rep_len (k : Nat) (cs : List Int) : (List.replicate k cs).flatten.length = k * cs.length := by
  rw [List.length_flatten, List.map_replicate, List.sum_replicate_nat]
theorem rep_mem {k : Nat} {cs : List Int} {z : Int} (h : z ∈ (List.replicate k cs).flatten) : z ∈ cs := by
  obtain ⟨l, hl, hz⟩ := List.mem_flatten.mp h
  rw [(List.mem_replicate.mp hl).2] at hz
  exact hz
theorem dg {ns zs : List Int} {i : Nat} {z : Int} (d : Dig ns zs) (e : zs[i]? = some z) : ∃ n, (ns.map V.int)[i]? = some (.int n) ∧ 0 ≤ n ∧ n < z := by
  obtain ⟨n, h1, h2, h3⟩ := d.get e
  exact ⟨n, at_int h1, h2, h3⟩
theorem Dig.mem {ns zs : List Int} (d : Dig ns zs) {m : Int} (h : ∀ z ∈ zs, z ≤ m) : ∀ n ∈ ns, 0 ≤ n ∧ n < m := fun n hn => by
  obtain ⟨i, hi⟩ := List.mem_iff_getElem?.mp hn
  have hl : i < zs.length := by
    have := (List.getElem?_eq_some_iff.mp hi).1
    have := d.len
    omega
  obtain ⟨n', h1, h2, h3⟩ := d.get (List.getElem?_eq_getElem hl)
  rw [hi] at h1
  cases h1
  have := h _ (List.getElem_mem hl)
  omega
theorem one_line : 1 ≤ sizeLine := line_ge (by omega)
theorem five_line : 5 ≤ sizeLine := line_ge (by omega)
theorem take_three {ns : List Int} {k : Nat} (h : 3 * k + 3 ≤ ns.length) : ∃ a b c, (ns.drop (3 * k)).take 3 = [a, b, c] ∧ a ∈ ns ∧ b ∈ ns ∧ c ∈ ns := by
  have e : ns.drop (3 * k) = ns[3 * k] :: ns[3 * k + 1] :: ns[3 * k + 2] :: ns.drop (3 * k + 3) := by
    rw [List.drop_eq_getElem_cons (by omega), List.drop_eq_getElem_cons (by omega : 3 * k + 1 < ns.length), List.drop_eq_getElem_cons (by omega : 3 * k + 2 < ns.length)]
  exact ⟨_, _, _, by rw [e]; rfl, List.getElem_mem _, List.getElem_mem _, List.getElem_mem _⟩
theorem ipy_eqv : ∀ ns ms : List Int, (PyData.eqvAll (ipy ns) (ipy ms) = true ↔ ns = ms)
  | [], [] => by simp [ipy, PyData.eqvAll]
  | [], m :: ms => by simp [ipy, PyData.eqvAll]
  | n :: ns, [] => by simp [ipy, PyData.eqvAll]
  | n :: ns, m :: ms => by
    have h := ipy_eqv ns ms
    unfold ipy at h ⊢
    rw [List.map_cons, List.map_cons, PyData.eqvAll, Bool.and_eq_true, h, PyData.eqv, List.cons.injEq, beq_iff_eq]
theorem ilst_eqv (ns ms : List Int) : PyData.eqv (.list (ipy ns)) (.list (ipy ms)) = decide (ns = ms) := by
  rw [Bool.eq_iff_iff, decide_eq_true_iff, PyData.eqv, ipy_eqv]
section
variable {P : Program} {w : World} {K : PySem.W.Frag} {mg : Str → Option Value} {base : Heap} {f : Addr} {fd : FuncData} {cF cR cW : Addr}
def spEnds (K : PySem.W.Frag) : Sp := fun vs H Q _ => ∃ (n : Nat) (kind : Int) (r c : Addr) (ns : List Int) (ts : List T3) (x0 x1 : Int), vs = [.int (n : Int), .int kind, .ref r, .ref c] ∧ SqL K H r (ns.map V.int) ∧ (ns.map V.int)[0]? = some (.int x0) ∧ (ns.map V.int)[1]? = some (.int x1) ∧ TL K H c ts ∧ (∀ t ∈ ts, OkE n (t.1, t.2.1)) ∧ ts.length ≤ 1000 ∧ 2 ≤ n ∧ n ≤ 10 ∧
  ∀ p H' e, Same H H' → SqT K H' p [.int e.1, .int e.2] → OkE n e → Q (.ref p) H'
abbrev s__law_draw_ends : Stmt := top 51
abbrev N__law_draw_ends : List Str := ["places", "kind", "row", "ties", "old", "span", "one", "two", "others", "place"]
theorem sc__law_draw_ends : FnScope N__law_draw_ends ["places", "kind", "row", "ties"] (defScope s__law_draw_ends) := ⟨rfl, rfl, rfl, by decide +kernel, rfl, by decide +kernel, by decide +kernel⟩
theorem ok__law_draw_ends (F : Fun K "_law_draw_ends" "_law_draw_ends" s__law_draw_ends f fd) (T : Txt mg) : FnOk P w K mg base CX0 1 f fd ["places", "kind", "row", "ties"] (spEnds K) := by
  refine F.ok sc__law_draw_ends (fun vs H Q E h => ?_) (fun cdv A outer s H vs Q E hr h => ?_)
  · obtain ⟨n, kind, r, c, ns, ts, x0, x1, rfl, _⟩ := h
    rfl
  obtain ⟨n, kind, r, c, ns, ts, x0, x1, rfl, ha, e0, e1, hts, hok, htl, hn2, hn, q⟩ := h
  refine ⟨_, (pss_cons (ps_if (PW.pt (pw_and (pt_cmpR op_eq (pv 1) pe_int (nomark _)) (pw_and1 (pt_cmpR op_gt (pe_callB call_len_seq (by rfl) T.b_len PySem.boot_len (pa_cons (pv 3) pa_nil)) pe_int (nomark _))))) (pss_cons (ps_set (i := 4) sc__law_draw_ends.nd rfl (Or.inl rfl) (pe_ix ix_list (pv 3) (pe_op op_mod (pe_callTy call_int1 (by rfl) T.b_int (by decide +kernel) (pa_cons (pe_ix ix_list (pv 2) pe_int (fun _ _ => rfl)) pa_nil)) pe_int) (fun _ _ => rfl)))
  (pss_one (ps_ret (pe_tup (pa_cons (pe_ix ix_tup (pv 4) pe_int (fun _ _ => rfl)) (pa_cons (pe_ix ix_tup (pv 4) pe_int (fun _ _ => rfl)) pa_nil)))))) pss_nil)
  (pss_cons (ps_set (i := 5) sc__law_draw_ends.nd rfl (Or.inl rfl) (pv 0))
  (C8.pss_cut (ps_if (PW.pt (pw_and (pt_cmpR op_eq (pv 1) pe_int (nomark _)) (pw_and1 (pt_cmpR op_gt (pv 0) pe_int (nomark _))))) (pss_one (ps_set (i := 5) sc__law_draw_ends.nd rfl (Or.inl rfl) (pe_op op_sub (pv 0) pe_int))) pss_nil)
  (pss_cons (ps_set (i := 6) sc__law_draw_ends.nd rfl (Or.inr rfl) (pe_op op_mod (pe_callTy call_int1 (by rfl) T.b_int (by decide +kernel) (pa_cons (pe_ix ix_list (pv 2) pe_int (fun _ _ => rfl)) pa_nil)) (pv 5)))
  (pss_cons (ps_set (i := 7) sc__law_draw_ends.nd rfl (Or.inl rfl) (pe_op op_mod (pe_callTy call_int1 (by rfl) T.b_int (by decide +kernel) (pa_cons (pe_op op_add (pe_op op_add (pv 6) pe_int) (pe_op op_mod (pe_callTy call_int1 (by rfl) T.b_int (by decide +kernel) (pa_cons (pe_ix ix_list (pv 2) pe_int (fun _ _ => rfl)) pa_nil)) (pe_op op_sub (pv 5) pe_int))) pa_nil)) (pv 5)))
  (C8.pss_cut (ps_if (PW.pt (pw_and (pt_cmpR op_eq (pv 1) pe_int (nomark _)) (pw_and1 (pt_cmpR op_gt (pv 0) pe_int (nomark _))))) (pss_cons (ps_setLc (i := 8) (own := [("place", 9)]) (g := gName 9) (by rfl) sc__law_draw_ends.nd rfl rfl (sw_true rfl rfl rfl (by decide +kernel)) (pi_range1 (by rfl) T.b_range (pa_cons (pv 0) pa_nil)) (blkOk_by (N := N__law_draw_ends) (sc := defScope s__law_draw_ends) (by decide +kernel)) (fun _ _ _ _ _ => (pg_name (i := 9) sc__law_draw_ends.nd rfl (Or.inl rfl))) (fun _ _ _ _ _ => (pts_one (PW.pt (pw_and (pt_cmpR op_ne (pv 9) (pv 6) (nomark _)) (pw_and1 (pt_cmpR op_eq (pe_op op_mod (pe_callTy call_int1 (by rfl) T.b_int (by decide +kernel) (pa_cons (pe_op op_add (pv 9) (pv 6)) pa_nil)) pe_int) pe_int (nomark _))))))) (fun _ _ _ _ _ => (pv 9)))
  (pss_cons (ps_if (pt_cmpR (op_eqD hr.units) (pv 8) (pe_lst pa_nil) (nomark _)) (pss_one (ps_ret (pe_tup (pa_cons pe_int (pa_cons pe_int pa_nil))))) pss_nil)
  (pss_one (ps_set (i := 7) sc__law_draw_ends.nd rfl (Or.inl rfl) (pe_ix ix_list (pv 8) (pe_op op_mod (pe_callTy call_int1 (by rfl) T.b_int (by decide +kernel) (pa_cons (pe_ix ix_list (pv 2) pe_int (fun _ _ => rfl)) pa_nil)) (pe_callB call_len_seq (by rfl) T.b_len PySem.boot_len (pa_cons (pv 8) pa_nil))) (fun _ _ => rfl)))))) pss_nil)
  (pss_one (ps_ret (pe_tup (pa_cons (pv 6) (pa_cons (pv 7) pa_nil))))))))))), ?_⟩
  obtain ⟨vs, hc, hvl, hall, hrow⟩ := hts.at
  have i0 : atI (ns.map V.int) 0 = some (.int x0) := at_pos (by decide) e0
  have i1 : atI (ns.map V.int) 1 = some (.int x1) := at_pos (by decide) e1
  refine ⟨_, rfl, rfl, _, rfl, ite2 (fun _ => ⟨_, rfl, c, vs, rfl, .inl (SqL.of hc), _, _, rfl, rfl, _, rfl, ite2 (fun hl => ?_) (fun _ => ?a)⟩) (fun _ => ?b)⟩
  · have hl2 : 1 < ts.length := by
      have : 1 < ((vs.length : Nat) : Int) := of_decide_eq_true hl
      omega
    have m0 := Int.emod_nonneg x0 (show (2 : Int) ≠ 0 by decide)
    have m1 := Int.emod_lt_of_pos x0 (show (0 : Int) < 2 by decide)
    obtain ⟨t, ht⟩ : ∃ t, ts[(x0 % 2).toNat]? = some t := ⟨_, List.getElem?_eq_getElem (by omega)⟩
    obtain ⟨q1, hq1, hq2⟩ := hrow _ t ht
    have o := hok t (List.mem_of_getElem? ht)
    refine ⟨_, rfl, _, rfl, r, _, 0, _, rfl, rfl, ha, i0, .inl ⟨_, rfl, _, _, rfl, rfl, (by show (0 : Int) < 2; decide), c, _, _, _, rfl, rfl, SqL.of hc, at_pos m0 hq1, ?_⟩⟩
    refine ⟨_, rfl, q1, _, 1, _, rfl, rfl, hq2, at_pos (by decide) rfl, _, rfl, q1, _, 0, _, rfl, rfl, hq2, at_pos (by decide) rfl, two_line, fun z hz => ?_⟩
    exact q z _ (t.2.1, t.1) (same_new hz _) (SqT.of upd_same) ⟨Ne.symm o.ne, o.b0, o.b1, o.a0, o.a1⟩
  all_goals
    refine ⟨_, rfl, ?_⟩
    refine ⟨fun σ' H' => ∃ sp : Int, σ' = [some (.int (n : Int)), some (.int kind), some (.ref r), some (.ref c), none, some (.int sp), none, none, none, none] ∧ H' = H ∧ 2 ≤ sp ∧ sp ≤ n, ?_, ?_⟩
    · refine ⟨_, rfl, rfl, _, rfl, ite2 (fun _ => ⟨_, rfl, _, _, rfl, rfl, _, rfl, ite2 (fun hp => ?_) (fun _ => ⟨(n : Int), rfl, rfl, by omega, by omega⟩)⟩) (fun _ => ⟨(n : Int), rfl, rfl, by omega, by omega⟩)⟩
      have hp2 : 2 < (n : Int) := of_decide_eq_true hp
      exact ⟨_, rfl, _, _, rfl, rfl, (n : Int) - 1, rfl, rfl, by omega, by omega⟩
    rintro σ H1 ⟨sp, rfl, rfl, hs1, hs2⟩
    have m0 := Int.emod_nonneg x0 (show sp ≠ 0 by omega)
    have m1 := Int.emod_lt_of_pos x0 (show 0 < sp by omega)
    refine ⟨_, rfl, r, _, 0, _, rfl, rfl, ha, i0, .inl ⟨_, rfl, _, rfl, _, _, rfl, rfl, (by show 0 < sp; omega), ?_⟩⟩
    refine ⟨_, rfl, _, _, rfl, rfl, _, rfl, r, _, 1, _, rfl, rfl, ha, i1, .inl ⟨_, rfl, _, rfl, _, _, rfl, rfl, _, _, rfl, rfl, (by show 0 < sp - 1; omega), _, _, rfl, rfl, .inl ⟨_, rfl, _, rfl, _, _, rfl, rfl, (by show 0 < sp; omega), ?_⟩⟩⟩
    have ho := ok_two (x := x1) (show 1 < sp by omega) hs2 m0 m1
    refine ⟨fun σ' H' => ∃ (two : Int) (v8 : Option V), σ' = [some (.int (n : Int)), some (.int kind), some (.ref r), some (.ref c), none, some (.int sp), some (.int (x0 % sp)), some (.int two), v8, none] ∧ Same H1 H' ∧ OkE n ((x0 % sp), two), ?_, ?_⟩
    · refine ⟨_, rfl, rfl, _, rfl, ite2 (fun _ => ⟨_, rfl, _, _, rfl, rfl, _, rfl, ite2 (fun hp => ?_) (fun _ => ⟨_, none, rfl, fun _ _ h => h, ho⟩)⟩) (fun _ => ⟨_, none, rfl, fun _ _ h => h, ho⟩)⟩
      have hp2 : 2 < (n : Int) := of_decide_eq_true hp
      refine ⟨_, rfl, (n : Int), rfl, by omega, by omega, fun D hD => ?_⟩
      refine lc_f (walk_range (lo := 0) (n := n)) RI (stb_RI (K := K)) (List.range n) (by rw [List.length_range]) (by rw [List.length_range]; omega) hD (fun _ _ => trivial) (fun _ _ _ _ => ys_fn) (fun (k : Nat) => if 0 + (k : Int) ≠ (x0 % sp) ∧ (0 + (k : Int) + (x0 % sp)) % 2 = 0 then some (0 + (k : Int)) else none) (fun cc k x H2 H3 hc2 s2 s3 y A B hA hB => ?_) (fun H2 l s2 hl2 rs => ?_)
      · obtain ⟨hc1, rfl⟩ := in_range hc2
        rw [y.2]
        refine ⟨rfl, _, rfl, _, rfl, rfl, _, rfl, ?_⟩
        by_cases h1 : 0 + (k : Int) = (x0 % sp)
        · refine ifF (by rw [int_eq h1]; rfl) ?_
          exact ifF rfl (hB (by rw [if_neg (fun h => h.1 h1)]) _ fun _ _ h => h)
        · refine ifT (by rw [int_ne h1]; rfl) ?_
          refine ⟨_, rfl, _, rfl, _, _, rfl, rfl, .inl ⟨_, rfl, _, _, rfl, rfl, (by show (0 : Int) < 2; decide), rfl, _, rfl, ?_⟩⟩
          by_cases h2 : (0 + (k : Int) + (x0 % sp)) % 2 = 0
          · exact ifT (int_eq h2) ⟨_, rfl, hA _ _ _ (by rw [if_pos ⟨h1, h2⟩]) (fun _ _ h => h) rfl⟩
          · exact ifF (int_ne h2) (hB (by rw [if_neg (fun h => h2 h.2)]) _ fun _ _ h => h)
      · rw [rs.ints] at hl2
        have hmem : ∀ z ∈ (List.range n).filterMap (fun (k : Nat) => if 0 + (k : Int) ≠ (x0 % sp) ∧ (0 + (k : Int) + (x0 % sp)) % 2 = 0 then some (0 + (k : Int)) else none), OkE n ((x0 % sp), z) := fun z hz => by
          obtain ⟨k, hk, he⟩ := List.mem_filterMap.mp hz
          have hk2 := List.mem_range.mp hk
          by_cases hh : 0 + (k : Int) ≠ (x0 % sp) ∧ (0 + (k : Int) + (x0 % sp)) % 2 = 0
          · rw [if_pos hh] at he
            have he := Option.some.inj he
            subst he
            exact ⟨Ne.symm hh.1, ho.a0, ho.a1, by show (0 : Int) ≤ 0 + (k : Int); omega, by show 0 + (k : Int) < n; omega⟩
          · rw [if_neg hh] at he
            cases he
        have hlen : ((List.range n).filterMap (fun (k : Nat) => if 0 + (k : Int) ≠ (x0 % sp) ∧ (0 + (k : Int) + (x0 % sp)) % 2 = 0 then some (0 + (k : Int)) else none)).length ≤ 10 := Nat.le_trans (List.length_filterMap_le _ _) (by rw [List.length_range]; exact hn)
        generalize (List.range n).filterMap (fun (k : Nat) => if 0 + (k : Int) ≠ (x0 % sp) ∧ (0 + (k : Int) + (x0 % sp)) % 2 = 0 then some (0 + (k : Int)) else none) = os at hl2 hmem hlen
        refine ⟨_, rfl, Nat.zero_le _, fun l0 hl0 => ?_⟩
        have s4 := same_new hl0 (.lst [])
        refine ⟨_, _, ilst_dp (s4 _ _ hl2), ilst_dp (ns := []) upd_same, ilst_shaped _, ilst_shaped _, _, rfl, ?_⟩
        rw [ilst_eqv]
        have s24 := s2.trans s4
        by_cases he : os = []
        · refine ifT (decide_eq_true he) ⟨two_line, fun z hz => q z _ (0, 2) (s24.trans (same_new hz _)) (SqT.of upd_same) ⟨by show (0 : Int) ≠ 2; decide, by show (0 : Int) ≤ 0; decide, by show (0 : Int) < n; omega, by show (0 : Int) ≤ 2; decide, hp2⟩⟩
        · refine ifF (decide_eq_false he) ?_
          have hpos : 0 < os.length := by
            cases os with
            | nil => exact absurd rfl he
            | cons _ _ => simp
          have g0 := Int.emod_nonneg x1 (show ((os.length : Nat) : Int) ≠ 0 by omega)
          have g1 := Int.emod_lt_of_pos x1 (show 0 < ((os.length : Nat) : Int) by omega)
          obtain ⟨z, hz⟩ : ∃ z, os[(x1 % ((os.length : Nat) : Int)).toNat]? = some z := ⟨_, List.getElem?_eq_getElem (by omega)⟩
          have hl4 := s4 _ _ hl2
          refine ⟨_, rfl, _, rfl, r, _, 1, _, rfl, rfl, s24.seq ha, i1, .inl ⟨_, rfl, _, rfl, D, _, rfl, .inl (SqL.of hl4), _, _, rfl, rfl, (by show 0 < (((os.map V.int).length : Nat) : Int); rw [List.length_map]; omega), D, _, _, .int z, rfl, rfl, SqL.of hl4, at_pos (by rw [List.length_map]; exact g0) (by rw [List.length_map]; exact at_int hz), ?_⟩⟩
          exact ⟨z, some (.ref D), rfl, s24, hmem z (List.mem_of_getElem? hz)⟩
    rintro σ H2 ⟨two, v8, rfl, s2, ho⟩
    exact ⟨_, rfl, _, rfl, two_line, fun z hz => q z _ ((x0 % sp), two) (s2.trans (same_new hz _)) (SqT.of upd_same) ho⟩
def spMkw (K : PySem.W.Frag) : Sp := fun vs H Q _ => ∃ (h : Int) (a : Addr) (d0 d1 d2 : Int), vs = [.int h, .ref a] ∧ SqL K H a [.int d0, .int d1, .int d2] ∧ (0 ≤ d0 ∧ d0 < 1000000000000) ∧ (0 ≤ d1 ∧ d1 < 1000000000000) ∧ (0 ≤ d2 ∧ d2 < 1000000000000) ∧
  ∀ s H', Same H H' → 1 ≤ s → s ≤ 1000000000000 → Q (.int s) H'
abbrev s__law_draw_weight : Stmt := top 52
abbrev N__law_draw_weight : List Str := ["kind", "row"]
theorem sc__law_draw_weight : FnScope N__law_draw_weight ["kind", "row"] (defScope s__law_draw_weight) := ⟨rfl, rfl, rfl, by decide +kernel, rfl, by decide +kernel, by decide +kernel⟩
theorem ok__law_draw_weight (F : Fun K "_law_draw_weight" "_law_draw_weight" s__law_draw_weight f fd) (T : Txt mg) : FnOk P w K mg base CX0 1 f fd ["kind", "row"] (spMkw K) := by
  refine F.ok sc__law_draw_weight (fun vs H Q E h => ?_) (fun cdv A outer s H vs Q E hr h => ?_)
  · obtain ⟨h, a, d0, d1, d2, rfl, _⟩ := h
    rfl
  obtain ⟨h, a, d0, d1, d2, rfl, ha, h0, h1, h2, q⟩ := h
  refine ⟨_, (pss_cons (ps_if (pt_cmpR op_eq (pv 0) pe_int (nomark _)) (pss_one (ps_ret pe_int)) pss_nil)
  (pss_cons (ps_if (pt_cmpR op_eq (pv 0) pe_int (nomark _)) (pss_one (ps_ret (pe_op op_add pe_int (pe_ix ix_list (pv 1) pe_int (fun _ _ => rfl))))) pss_nil)
  (pss_cons (ps_if (pt_cmpR op_eq (pv 0) pe_int (nomark _)) (pss_one (ps_ret (pe_ix ix_list (pe_lst (pa_cons pe_int (pa_cons pe_int pa_nil))) (pe_op op_mod (pe_callTy call_int1 (by rfl) T.b_int (by decide +kernel) (pa_cons (pe_ix ix_list (pv 1) pe_int (fun _ _ => rfl)) pa_nil)) pe_int) (fun _ _ => rfl)))) pss_nil)
  (pss_cons (ps_if (pt_cmpR op_eq (pv 0) pe_int (nomark _)) (pss_one (ps_ret (pe_op op_add pe_int (pe_ix ix_list (pv 1) pe_int (fun _ _ => rfl))))) pss_nil)
  (pss_one (ps_ret (pe_op op_add pe_int (pe_ix ix_list (pv 1) pe_int (fun _ _ => rfl))))))))), ?_⟩
  have id : ∀ {H : Hp}, Same H H := fun _ _ h => h
  refine ⟨_, rfl, rfl, _, rfl, ite2 (fun _ => q 1 _ id (by decide) (by decide)) (fun _ => ?_)⟩
  refine ⟨_, rfl, rfl, _, rfl, ite2 (fun _ => ⟨_, rfl, a, _, 1, _, rfl, rfl, ha, at_pos (by decide) rfl, _, _, rfl, rfl, q _ _ id (by omega) (by omega)⟩) (fun _ => ?_)⟩
  refine ⟨_, rfl, rfl, _, rfl, ite2 (fun _ => ?_) (fun _ => ?_)⟩
  · refine ⟨two_line, fun l hl => ?_⟩
    have m0 := Int.emod_nonneg d1 (show (2 : Int) ≠ 0 by decide)
    have m1 := Int.emod_lt_of_pos d1 (show (0 : Int) < 2 by decide)
    obtain ⟨y, hy, ey⟩ := pick (cs := [1, 1000000]) m0 m1
    have hb : ∀ x ∈ ([1, 1000000] : List Int), 1 ≤ x ∧ x ≤ 1000000000000 := by decide
    exact ⟨_, rfl, a, _, 1, _, rfl, rfl, (same_new hl _).seq ha, at_pos (by decide) rfl, .inl ⟨_, rfl, _, _, rfl, rfl, (by show (0 : Int) < 2; decide), l, _, _, _, rfl, rfl, SqL.of upd_same, at_pos m0 ey, q y _ (same_new hl _) (hb y hy).1 (hb y hy).2⟩⟩
  refine ⟨_, rfl, rfl, _, rfl, ite2 (fun _ => ⟨_, rfl, a, _, 2, _, rfl, rfl, ha, at_pos (by decide) rfl, _, _, rfl, rfl, q _ _ id (by omega) (by omega)⟩) (fun _ => ?_)⟩
  exact ⟨_, rfl, a, _, 0, _, rfl, rfl, ha, at_pos (by decide) rfl, _, _, rfl, rfl, q _ _ id (by omega) (by omega)⟩
end
end P15
set_option exponentiation.threshold 3000
namespace P15
open PySem PySem.Spec PyProof.Rows L2 SX EX WK
/-- what a web is drawn with -/
structure TD (pl : Nat) (ts : List T3) (b : Int) (k m : Nat) : Prop where
  plB : pl ≤ 11
  ok : ∀ t ∈ ts, OkU pl t
  bd : ∀ t ∈ ts, B k t.2.2
  len : ts.length ≤ m
  bot : 0 < b
  bB : B k b
  two : ts ≠ [] → 2 ≤ pl
def DrW (K : PySem.W.Frag) (H : Hp) (r : Addr) (pl : Nat) (ts : List T3) (b : Int) : Prop := ∃ c, H r = some (.lst [.int (pl : Int), .ref c, .int b]) ∧ TL K H c ts
theorem DrW.same {K : PySem.W.Frag} {H H' : Hp} {r : Addr} {pl : Nat} {ts : List T3} {b : Int} (e : Same H H') (h : DrW K H r pl ts b) : DrW K H' r pl ts b := let ⟨c, h1, h2⟩ := h; ⟨c, e _ _ h1, h2.same e⟩
theorem B60 {x : Int} (h : -1000000000000000000 < x ∧ x < 1000000000000000000) : B 60 x := by
  show x.natAbs < 2 ^ 60
  have : (2 : Nat) ^ 60 = 1152921504606846976 := by decide
  omega
theorem el_at {K : PySem.W.Frag} {H : Hp} {vs : List V} {es : List T2} (h : FzAll K H vs (es.map tde)) {i : Nat} {e : T2} (he : es[i]? = some e) : ∃ q, vs[i]? = some (.ref q) ∧ SqT K H q [.int e.1, .int e.2] := by
  have hl : vs.length = es.length := by rw [h.len, List.length_map]
  have hi : i < vs.length := by
    have := (List.getElem?_eq_some_iff.mp he).1
    omega
  obtain ⟨u, hu, hz⟩ := h.get (List.getElem?_eq_getElem hi)
  rw [List.getElem?_map, he] at hu
  cases hu
  obtain ⟨q, e, hq⟩ := fz_end hz
  exact ⟨q, by rw [List.getElem?_eq_getElem hi, e], hq⟩
theorem ok3 {n : Nat} {e : T2} {s : Int} (h : OkE n e) (h1 : 1 ≤ s) : OkU n (e.1, e.2, s) := ⟨h.ne, h.a0, h.a1, h.b0, h.b1, h1⟩
theorem all_snoc {α : Type} {P : α → Prop} {es : List α} {e : α} (h : ∀ x ∈ es, P x) (h2 : P e) : ∀ x ∈ es ++ [e], P x := fun x hx => by
  rcases List.mem_append.mp hx with m | m
  · exact h x m
  · rw [List.mem_singleton.mp m]
    exact h2
section
variable {P : Program} {w : World} {K : PySem.W.Frag} {mg : Str → Option Value} {base : Heap} {f : Addr} {fd : FuncData} {cF cR cW : Addr}
def spDraw (K : PySem.W.Frag) : Sp := fun vs H Q _ => ∃ (a : Addr) (ns : List Int) (at_ : Int), vs = [.ref a, .int at_] ∧ SqL K H a (ns.map V.int) ∧ 0 ≤ at_ ∧ at_ ≤ 500 ∧ ∀ r H' pl ts b, Same H H' → DrW K H' r pl ts b → TD pl ts b 60 160 → pl ≤ 10 → Q (.ref r) H'
abbrev s__law_draw_web : Stmt := top 53
abbrev N__law_draw_web : List Str := ["script", "at", "shape", "places", "base", "kind", "ends", "ties", "weights", "k", "row", "pair"]
theorem sc__law_draw_web : FnScope N__law_draw_web ["script", "at"] (defScope s__law_draw_web) := ⟨rfl, rfl, rfl, by decide +kernel, rfl, by decide +kernel, by decide +kernel⟩
theorem ok__law_draw_web (F : Fun K "_law_draw_web" "_law_draw_web" s__law_draw_web f fd) (T : Txt mg) (C__law_cell : Cal P w K mg base 1 "_law_cell" ["script", "k"] (spCell K)) (C__law_digits : Cal P w K mg base 1 "_law_digits" ["cell", "sizes"] (spDigits K)) (C__law_draw_weight : Cal P w K mg base 1 "_law_draw_weight" ["kind", "row"] (spMkw K))
    (C__law_rule : Cal P w K mg base 1 "_law_rule" ["places", "kind"] (spRule K)) (C__law_draw_ends : Cal P w K mg base 1 "_law_draw_ends" ["places", "kind", "row", "ties"] (spEnds K)) : FnOk P w K mg base CX0 2 f fd ["script", "at"] (spDraw K) := by
  refine F.ok sc__law_draw_web (fun vs H Q E h => ?_) (fun cdv A outer s H vs Q E hr h => ?_)
  · obtain ⟨a, ns, at_, rfl, _⟩ := h
    rfl
  obtain ⟨a, ns, at_, rfl, ha, ha0, ha1, q⟩ := h
  refine ⟨_, (pss_cons (ps_set (i := 2) sc__law_draw_web.nd rfl (Or.inl rfl) (pe_cal C__law_digits (hr.mono (by omega)) rfl (pa_cons (pe_cal C__law_cell (hr.mono (by omega)) rfl (pa_cons (pv 0) (pa_cons (pv 1) pa_nil))) (pa_cons (pe_lst (pa_cons pe_int (pa_cons pe_int (pa_cons pe_int (pa_cons pe_int (pa_cons pe_int (pa_cons pe_int pa_nil))))))) pa_nil))))
  (pss_cons (ps_set (i := 3) sc__law_draw_web.nd rfl (Or.inl rfl) (pe_op op_add pe_int (pe_ix ix_list (pv 2) pe_int (fun _ _ => rfl))))
  (C8.pss_cut (ps_if (pt_cmpR op_lt (pe_ix ix_list (pv 2) pe_int (fun _ _ => rfl)) pe_int (nomark _)) (pss_one (ps_set (i := 3) sc__law_draw_web.nd rfl (Or.inl rfl) (pe_op op_mod (pe_callTy call_int1 (by rfl) T.b_int (by decide +kernel) (pa_cons (pe_ix ix_list (pv 2) pe_int (fun _ _ => rfl)) pa_nil)) pe_int))) pss_nil)
  (C8.pss_cut (ps_if (pt_cmpR op_lt (pe_ix ix_list (pv 2) pe_int (fun _ _ => rfl)) pe_int (nomark _)) (pss_one (ps_set (i := 3) sc__law_draw_web.nd rfl (Or.inl rfl) (pe_ix ix_list (pe_lst (pa_cons pe_int (pa_cons pe_int (pa_cons pe_int (pa_cons pe_int (pa_cons pe_int (pa_cons pe_int (pa_cons pe_int (pa_cons pe_int (pa_cons pe_int (pa_cons pe_int (pa_cons pe_int (pa_cons pe_int (pa_cons pe_int (pa_cons pe_int (pa_cons pe_int pa_nil)))))))))))))))) (pe_op op_fdivW (pe_ix ix_list (pv 2) pe_int (fun _ _ => rfl)) pe_int) (fun _ _ => rfl)))) pss_nil)
  (pss_cons (ps_set (i := 4) sc__law_draw_web.nd rfl (Or.inl rfl) (pe_ix ix_list (pe_lst (pa_cons pe_int (pa_cons pe_int (pa_cons pe_int (pa_cons pe_int (pa_cons pe_int (pa_cons pe_int (pa_cons pe_int (pa_cons pe_int (pa_cons pe_int pa_nil)))))))))) (pe_ix ix_list (pv 2) pe_int (fun _ _ => rfl)) (fun _ _ => rfl)))
  (pss_cons (ps_if (pt_cmpR op_lt (pv 3) pe_int (nomark _)) (pss_one (ps_ret (pe_lst (pa_cons (pv 3) (pa_cons (pe_lst pa_nil) (pa_cons (pv 4) pa_nil)))))) pss_nil)
  (pss_cons (ps_set (i := 5) sc__law_draw_web.nd rfl (Or.inl rfl) (pe_ix ix_list (pv 2) pe_int (fun _ _ => rfl)))
  (C8.pss_cut (ps_if (pt_cmpR op_gt (pv 3) pe_int (nomark _)) (pss_one (ps_set (i := 5) sc__law_draw_web.nd rfl (Or.inl rfl) (pe_ix ix_list (pe_lst (pa_cons pe_int (pa_cons pe_int (pa_cons pe_int (pa_cons pe_int (pa_cons pe_int (pa_cons pe_int (pa_cons pe_int (pa_cons pe_int (pa_cons pe_int (pa_cons pe_int pa_nil))))))))))) (pv 5) (fun _ _ => rfl)))) pss_nil)
  (pss_cons (ps_set (i := 6) sc__law_draw_web.nd rfl (Or.inl rfl) (pe_cal C__law_rule (hr.mono (by omega)) rfl (pa_cons (pv 3) (pa_cons (pv 5) pa_nil))))
  (pss_cons (ps_set (i := 7) sc__law_draw_web.nd rfl (Or.inl rfl) (pe_lst pa_nil))
  (pss_cons (ps_set (i := 8) sc__law_draw_web.nd rfl (Or.inl rfl) (pe_cal C__law_digits (hr.mono (by omega)) rfl (pa_cons (pe_cal C__law_cell (hr.mono (by omega)) rfl (pa_cons (pv 0) (pa_cons (pe_op op_add (pv 1) pe_int) pa_nil))) (pa_cons (pe_op op_rep (pe_lst (pa_cons pe_int (pa_cons pe_int (pa_cons (pe_op op_pow pe_int pe_int) pa_nil)))) (pe_callB call_len_seq (by rfl) T.b_len PySem.boot_len (pa_cons (pv 6) pa_nil))) pa_nil))))
  (pss_cons (ps_for PassesOwn.never rfl (pi_range1 (by rfl) T.b_range (pa_cons (pe_callB call_len_seq (by rfl) T.b_len PySem.boot_len (pa_cons (pv 6) pa_nil)) pa_nil)) (pg_name (i := 9) sc__law_draw_web.nd rfl (Or.inl rfl)) (pss_one (ps_expr (pe_bm PySem.F.plainAttrs_list PySem.F.slot_list_append PySem.F.type_list_append mt_append (pv 7) (pa_cons (pe_tup (pa_cons (pe_ix ix_tup (pe_ix ix_list (pv 6) (pv 9) (fun _ _ => rfl)) pe_int (fun _ _ => rfl)) (pa_cons (pe_ix ix_tup (pe_ix ix_list (pv 6) (pv 9) (fun _ _ => rfl)) pe_int (fun _ _ => rfl)) (pa_cons (pe_cal C__law_draw_weight (hr.mono (by omega)) rfl (pa_cons (pe_ix ix_list (pv 2) pe_int (fun _ _ => rfl)) (pa_cons (pe_slice sl_list (pv 8) (po_some (pe_op op_mulW pe_int (pv 9))) (po_some (pe_op op_add (pe_op op_mulW pe_int (pv 9)) pe_int))) pa_nil))) pa_nil)))) pa_nil)))))
  (pss_cons (ps_for PassesOwn.never rfl (pi_range1 (by rfl) T.b_range (pa_cons (pe_ix ix_list (pe_lst (pa_cons pe_int (pa_cons pe_int (pa_cons pe_int (pa_cons pe_int (pa_cons pe_int (pa_cons pe_int (pa_cons pe_int (pa_cons pe_int (pa_cons pe_int (pa_cons pe_int (pa_cons pe_int (pa_cons pe_int pa_nil))))))))))))) (pe_ix ix_list (pv 2) pe_int (fun _ _ => rfl)) (fun _ _ => rfl)) pa_nil)) (pg_name (i := 9) sc__law_draw_web.nd rfl (Or.inl rfl)) (pss_cons (ps_set (i := 10) sc__law_draw_web.nd rfl (Or.inl rfl) (pe_cal C__law_digits (hr.mono (by omega)) rfl (pa_cons (pe_cal C__law_cell (hr.mono (by omega)) rfl (pa_cons (pv 0) (pa_cons (pe_op op_add (pe_op op_add (pv 1) pe_int) (pv 9)) pa_nil))) (pa_cons (pe_lst (pa_cons pe_int (pa_cons pe_int (pa_cons pe_int (pa_cons pe_int (pa_cons (pe_op op_pow pe_int pe_int) pa_nil)))))) pa_nil))))
  (pss_cons (ps_set (i := 11) sc__law_draw_web.nd rfl (Or.inl rfl) (pe_cal C__law_draw_ends (hr.mono (by omega)) rfl (pa_cons (pv 3) (pa_cons (pv 5) (pa_cons (pv 10) (pa_cons (pv 7) pa_nil))))))
  (pss_one (ps_expr (pe_bm PySem.F.plainAttrs_list PySem.F.slot_list_append PySem.F.type_list_append mt_append (pv 7) (pa_cons (pe_tup (pa_cons (pe_ix ix_tup (pv 11) pe_int (fun _ _ => rfl)) (pa_cons (pe_ix ix_tup (pv 11) pe_int (fun _ _ => rfl)) (pa_cons (pe_cal C__law_draw_weight (hr.mono (by omega)) rfl (pa_cons (pe_ix ix_list (pv 2) pe_int (fun _ _ => rfl)) (pa_cons (pe_slice sl_list (pv 10) (po_some pe_int) po_none) pa_nil))) pa_nil)))) pa_nil)))))))
  (pss_one (ps_ret (pe_lst (pa_cons (pv 3) (pa_cons (pv 7) (pa_cons (pv 4) pa_nil))))))))))))))))))), ?_⟩
  -- shape
  refine ⟨_, rfl, _, rfl, a, ns, at_, rfl, ha, ha0, by omega, fun c => ⟨line_ge (by show 6 ≤ 100000; decide), fun l0 hl0 => ?_⟩⟩
  refine ⟨c, l0, [32, 12, 10, 8, 9, 4], rfl, SqL.of upd_same, by decide, szs (by decide), fun p ds hp hd => ?_⟩
  obtain ⟨x0, e0, u0, w0⟩ := dg hd (i := 0) (z := 32) rfl
  obtain ⟨x1, e1, u1, w1⟩ := dg hd (i := 1) (z := 12) rfl
  obtain ⟨x2, e2, u2, w2⟩ := dg hd (i := 2) (z := 10) rfl
  obtain ⟨x3, e3, u3, w3⟩ := dg hd (i := 3) (z := 8) rfl
  obtain ⟨x4, e4, u4, w4⟩ := dg hd (i := 4) (z := 9) rfl
  obtain ⟨x5, e5, u5, w5⟩ := dg hd (i := 5) (z := 4) rfl
  generalize hH1 : upd (upd H l0 _) p _ = H1
  have s1 : Same H H1 := by rw [← hH1]; exact (same_new hl0 _).trans (same_new hp _)
  have hp1 : H1 p = some (.lst (ds.map V.int)) := by rw [← hH1, upd_same]
  have sh := SqL.of (K := K) hp1
  have ix : ∀ {k : Nat} {x : Int}, (ds.map V.int)[k]? = some (.int x) → atI (ds.map V.int) (k : Int) = some (.int x) := fun h => atI_nat h
  refine ⟨_, rfl, p, _, 5, _, rfl, rfl, sh, ix e5, _, _, rfl, rfl, ?_⟩
  -- places
  refine ⟨fun σ' H' => ∃ n : Int, σ' = [some (.ref a), some (.int at_), some (.ref p), some (.int n), none, none, none, none, none, none, none, none] ∧ H' = H1 ∧ 0 ≤ n ∧ n ≤ 10, ?_, ?_⟩
  · refine ⟨_, rfl, p, _, 0, _, rfl, rfl, sh, ix e0, _, _, rfl, rfl, _, rfl, ite2 (fun _ => ?_) (fun _ => ⟨_, rfl, rfl, by omega, by omega⟩)⟩
    have m0 := Int.emod_nonneg x5 (show (2 : Int) ≠ 0 by decide)
    have m1 := Int.emod_lt_of_pos x5 (show (0 : Int) < 2 by decide)
    exact ⟨_, rfl, p, _, 5, _, rfl, rfl, sh, ix e5, .inl ⟨_, rfl, _, _, rfl, rfl, (by show (0 : Int) < 2; decide), x5 % 2, rfl, rfl, by omega, by omega⟩⟩
  rintro σ H2 ⟨n0, rfl, rfl, hn0, hn1⟩
  refine ⟨fun σ' H' => ∃ n : Int, σ' = [some (.ref a), some (.int at_), some (.ref p), some (.int n), none, none, none, none, none, none, none, none] ∧ Same H2 H' ∧ 0 ≤ n ∧ n ≤ 10, ?_, ?_⟩
  · refine ⟨_, rfl, p, _, 0, _, rfl, rfl, sh, ix e0, _, _, rfl, rfl, _, rfl, ite2 (fun hlt => ?_) (fun _ => ⟨n0, rfl, fun _ _ h => h, hn0, hn1⟩)⟩
    have h30 : x0 < 30 := of_decide_eq_true hlt
    refine ⟨line_ge (by show 15 ≤ 100000; decide), fun l1 hl1 => ?_⟩
    obtain ⟨y, hy, ey⟩ := pick (cs := [4, 3, 5, 2, 6, 4, 3, 5, 4, 3, 2, 6, 5, 4, 3]) (d := x0 / 2) (by omega) (by show x0 / 2 < 15; omega)
    have hb : ∀ x ∈ ([4, 3, 5, 2, 6, 4, 3, 5, 4, 3, 2, 6, 5, 4, 3] : List Int), 0 ≤ x ∧ x ≤ 10 := by decide
    exact ⟨_, rfl, p, _, 0, _, rfl, rfl, (same_new hl1 _).seq sh, ix e0, _, _, rfl, rfl, wdiv (n := 3) (by decide) (by decide) (by decide) (by decide), l1, _, _, _, rfl, rfl, SqL.of upd_same, at_pos (by show 0 ≤ x0 / 2; omega) ey, y, rfl, same_new hl1 _, (hb y hy).1, (hb y hy).2⟩
  clear hn0 hn1
  rintro σ H3 ⟨n, rfl, s3, hn0, hn1⟩
  have sh3 := s3.seq sh
  have s13 := s1.trans s3
  -- base
  refine ⟨line_ge (by show 9 ≤ 100000; decide), fun l2 hl2 => ?_⟩
  obtain ⟨b, hb, eb⟩ := pick (cs := [1, 1, 2, 3, 6, 12, 7, 1, 1000]) u4 (by show x4 < 9; omega)
  have hbb : ∀ x ∈ ([1, 1, 2, 3, 6, 12, 7, 1, 1000] : List Int), 0 < x ∧ x ≤ 1000 := by decide
  obtain ⟨hb0, hb1⟩ := hbb b hb
  refine ⟨_, rfl, p, _, 4, _, rfl, rfl, (same_new hl2 _).seq sh3, ix e4, l2, _, _, _, rfl, rfl, SqL.of upd_same, at_pos u4 eb, ?_⟩
  have s4 := s13.trans (same_new hl2 (.lst ([1, 1, 2, 3, 6, 12, 7, 1, 1000].map V.int)))
  have sh4 : SqL K (upd H3 l2 (.lst ([1, 1, 2, 3, 6, 12, 7, 1, 1000].map V.int))) p (ds.map V.int) := (same_new hl2 _).seq sh3
  show tSeq _ _ _ _ (upd H3 l2 (.lst ([1, 1, 2, 3, 6, 12, 7, 1, 1000].map V.int)))
  generalize upd H3 l2 (.lst ([1, 1, 2, 3, 6, 12, 7, 1, 1000].map V.int)) = H4 at s4 sh4
  obtain ⟨pl, epl⟩ : ∃ pl : Nat, n = (pl : Int) := ⟨n.toNat, by omega⟩
  subst epl
  have hpl : pl ≤ 10 := by omega
  refine ⟨_, rfl, _, _, rfl, rfl, _, rfl, ite2 (fun hlt => ?_) (fun hge => ?_)⟩
  · refine ⟨_, rfl, Nat.zero_le _, fun l3 hl3 => ⟨_, rfl, three_line, fun r hr => ?_⟩⟩
    have s5 := same_new hr (.lst [.int (pl : Int), .ref l3, .int b])
    exact q r _ pl [] b (s4.trans ((same_new hl3 _).trans s5)) ⟨l3, upd_same, [], s5 _ _ upd_same, .nil⟩ ⟨by omega, fun t ht => (by cases ht), fun t ht => (by cases ht), by simp, hb0, B60 (by omega), fun h => absurd rfl h⟩ hpl
  have hge2 : 2 ≤ pl := by
    have : ¬ ((pl : Int) < 2) := of_decide_eq_false (Bool.eq_false_iff.mpr hge)
    omega
  -- kind
  refine ⟨_, rfl, p, _, 2, _, rfl, rfl, sh4, ix e2, ?_⟩
  refine ⟨fun σ' H' => ∃ kind : Int, σ' = [some (.ref a), some (.int at_), some (.ref p), some (.int (pl : Int)), some (.int b), some (.int kind), none, none, none, none, none, none] ∧ Same H4 H', ?_, ?_⟩
  · refine ⟨_, rfl, _, _, rfl, rfl, _, rfl, ite2 (fun _ => ?_) (fun _ => ⟨x2, rfl, fun _ _ h => h⟩)⟩
    refine ⟨line_ge (by show 10 ≤ 100000; decide), fun l3 hl3 => ?_⟩
    obtain ⟨y, hy, ey⟩ := pick (cs := [0, 4, 2, 3, 4, 5, 4, 7, 8, 9]) u2 (by show x2 < 10; omega)
    exact ⟨_, rfl, l3, _, _, _, rfl, rfl, SqL.of upd_same, at_pos u2 ey, y, rfl, same_new hl3 _⟩
  rintro σ H5 ⟨kind, rfl, s5⟩
  have s05 := s4.trans s5
  have sh5 := s5.seq sh4
  -- ends
  refine ⟨_, rfl, _, rfl, pl, kind, rfl, hge2, hpl, fun El H6 es s6 hel hes hesl => ?_⟩
  obtain ⟨evs, hev, hez⟩ := hel
  have hevl : evs.length = es.length := by rw [hez.len, List.length_map]
  have s06 := s05.trans s6
  have sh6 := s6.seq sh5
  refine ⟨Nat.zero_le _, fun D hD => ?_⟩
  have hev7 := same_new hD (.lst []) _ _ hev
  have s7 := same_new hD (.lst [])
  -- weights
  refine ⟨_, rfl, _, rfl, _, _, rfl, rfl, a, ns, at_ + 13, rfl, (s06.trans s7).seq ha, by omega, by omega, fun c1 => ?_⟩
  refine ⟨_, _, rfl, rfl, ⟨by decide, by decide, by decide⟩, three_line, fun l6 hl6 => ⟨_, rfl, El, evs, rfl, .inl (SqL.of (same_new hl6 _ _ _ hev7)), l6, _, _, rfl, rfl, upd_same, by omega, by omega, line_ge (by show 3 * ((evs.length : Nat) : Int).toNat ≤ 100000; omega), fun l7 hl7 => ?_⟩⟩
  have hzl : ((List.replicate ((evs.length : Nat) : Int).toNat ([9, 1000, 10 ^ (12 : Int).toNat] : List Int)).flatten).length = evs.length * 3 := by rw [rep_len, Int.toNat_natCast]; rfl
  have h12 : (10 : Int) ^ (12 : Int).toNat = 1000000000000 := by decide
  have hz0 : ∀ z ∈ (List.replicate ((evs.length : Nat) : Int).toNat ([9, 1000, 10 ^ (12 : Int).toNat] : List Int)).flatten, 0 < z ∧ z ≤ 1000000000000 := fun z hz => by
    have := rep_mem hz
    rw [h12] at this
    exact (by decide : ∀ z ∈ ([9, 1000, 1000000000000] : List Int), 0 < z ∧ z ≤ 1000000000000) z this
  refine ⟨c1, l7, (List.replicate ((evs.length : Nat) : Int).toNat ([9, 1000, 10 ^ (12 : Int).toNat] : List Int)).flatten, rfl, SqL.of (by rw [upd_same]; exact congrArg (fun x => some (HO.lst x)) (rep_map _ [9, 1000, 10 ^ (12 : Int).toNat])), by rw [hzl]; omega, fun z hz => ⟨(hz0 z hz).1, by
    have h1 := hz0 z hz
    have : (2 : Nat) ^ 60 ≤ 2 ^ 2000 := Nat.pow_le_pow_right (by decide) (by decide)
    have h3 : (2 : Nat) ^ 60 = 1152921504606846976 := by decide
    omega⟩, fun p3 ds3 hp3 hd3 => ?_⟩
  have hw : ∀ n ∈ ds3, 0 ≤ n ∧ n < 1000000000000 := hd3.mem fun z hz => (hz0 z hz).2
  have hdl3 := hd3.len
  rw [hzl] at hdl3
  generalize hH7 : upd (upd (upd (upd H6 D _) l6 _) l7 _) p3 _ = H7
  have sD7 : Same (upd H6 D (.lst [])) H7 := by rw [← hH7]; exact (same_new hl6 _).trans ((same_new hl7 _).trans (same_new hp3 _))
  have e7 : H7 p3 = some (.lst (ds3.map V.int)) := by rw [← hH7, upd_same]
  have g7 : Grow K H6 H7 D [] [] := (Grow.start hD).keep sD7
  have p3D : p3 ≠ D := fun z => by
    have h1 := same_new hl7 (.lst (List.replicate ((evs.length : Nat) : Int).toNat [V.int 9, V.int 1000, V.int (10 ^ (12 : Int).toNat)]).flatten) _ _ (same_new hl6 (.lst [V.int 9, V.int 1000, V.int (10 ^ (12 : Int).toNat)]) _ _ (upd_same (H := H6) (a := D) (o := .lst [])))
    have h3 := hp3
    rw [z] at h3
    have h4 : some (HO.lst []) = none := h1.symm.trans h3
    cases h4
  clear hH7 sD7
  -- the ruled ties
  refine ⟨_, rfl, El, evs, rfl, .inl (SqL.of (g7.same _ _ hev)), _, rfl, by omega, by omega, for_range (lo := 0) (n := ((evs.length : Nat) : Int).toNat) (fun i σ H' => ∃ (v9 : Option V) (l : List V) (ts : List T3), σ = [some (.ref a), some (.int at_), some (.ref p), some (.int (pl : Int)), some (.int b), some (.int kind), some (.ref El), some (.ref D), some (.ref p3), v9, none, none] ∧ Grow K H6 H' D l ts ∧ H' p3 = some (.lst (ds3.map V.int)) ∧ (∀ t ∈ ts, OkU pl t ∧ t.2.2 ≤ 1000000000000) ∧ ts.length = i) ⟨none, [], [], rfl, g7, e7, fun t ht => (by cases ht), rfl⟩ ?_ ?_⟩
  · rintro i σ H8 hi ⟨v9, l, ts, rfl, g, hp8, hok, hlt⟩
    obtain ⟨e, he⟩ : ∃ e, es[i]? = some e := ⟨_, List.getElem?_eq_getElem (by omega)⟩
    obtain ⟨qe, hqe1, hqe2⟩ := el_at hez he
    have ei : (0 + (i : Int)).toNat = i := by omega
    have hat : atI evs (0 + (i : Int)) = some (.ref qe) := at_pos (by omega) (by rw [ei]; exact hqe1)
    have hE := g.same _ _ hev
    have hq8 := Same_seqT g.same hqe2
    have hll : l.length ≤ 1000 := by have := g.len; omega
    refine ⟨_, rfl, .inl ⟨rfl, _, SqL.of g.at_⟩, _, rfl, _, rfl, El, _, _, _, rfl, rfl, SqL.of hE, hat, qe, _, 0, _, rfl, rfl, hq8, at_pos (by decide) rfl, ?_⟩
    refine ⟨_, rfl, _, rfl, El, _, _, _, rfl, rfl, SqL.of hE, hat, qe, _, 1, _, rfl, rfl, hq8, at_pos (by decide) rfl, ?_⟩
    refine ⟨_, rfl, p, _, 3, _, rfl, rfl, g.same.seq sh6, ix e3, ?_⟩
    obtain ⟨d0, d1, d2, hcut, hm0, hm1, hm2⟩ := take_three (ns := ds3) (k := i) (by omega)
    have f1 : HT.sIx (ds3.map V.int).length 0 (some (3 * (0 + (i : Int)))) = 3 * i := sIx_of (by omega) (by rw [List.length_map]; omega)
    have f2 : HT.sIx (ds3.map V.int).length (ds3.map V.int).length (some (3 * (0 + (i : Int)) + 3)) = 3 * i + 3 := sIx_of (by omega) (by rw [List.length_map]; omega)
    have hcv : cutV (ds3.map V.int) (some (3 * (0 + (i : Int)))) (some (3 * (0 + (i : Int)) + 3)) = [V.int d0, V.int d1, V.int d2] := by
      unfold cutV
      rw [f1, f2, Nat.add_sub_cancel_left, ← List.map_drop, ← List.map_take, hcut]
      rfl
    refine ⟨_, rfl, _, rfl, _, _, rfl, rfl, wmul (m := 3) (n := 20) (by decide) (by show Int.natAbs _ < 2 ^ 20; omega) (by decide) (by decide) (by decide), _, rfl, _, rfl, _, _, rfl, rfl, wmul (m := 3) (n := 20) (by decide) (by show Int.natAbs _ < 2 ^ 20; omega) (by decide) (by decide) (by decide), _, _, rfl, rfl, _, rfl, p3, _, rfl, SqL.of hp8, fun p4 hp4 => ?_⟩
    rw [hcv]
    refine ⟨x3, p4, d0, d1, d2, rfl, SqL.of upd_same, hw _ hm0, hw _ hm1, hw _ hm2, fun s H9 s9 hs1 hs2 => ⟨three_line, fun z hz => ?_⟩⟩
    have g9 := g.keep ((same_new hp4 (.lst [V.int d0, V.int d1, V.int d2])).trans s9)
    have hp9 := s9 _ _ (same_new hp4 (.lst [V.int d0, V.int d1, V.int d2]) _ _ hp8)
    refine ⟨D, _, _, rfl, rfl, same_new hz _ _ _ g9.at_, small1000 hll, some (.int (0 + (i : Int))), l ++ [.ref z], ts ++ [(e.1, e.2, s)], rfl, g9.push hD hz (e.1, e.2, s) rfl, by rw [upd_ne p3D]; exact same_new hz _ _ _ hp9, all_snoc hok ⟨ok3 (hes e (List.mem_of_getElem? he)) hs1, hs2⟩, by rw [List.length_append, hlt]; rfl⟩
  rintro σ H8 ⟨v9, l, ts, rfl, g, _, hok, hlt⟩
  have hlt2 : ts.length ≤ 140 := by omega
  -- the drawn ties
  refine ⟨line_ge (by show 12 ≤ 100000; decide), fun l8 hl8 => ?_⟩
  obtain ⟨m, hm, em⟩ := pick (cs := [3, 5, 7, 2, 9, 12, 4, 6, 8, 1, 10, 0]) u1 (by show x1 < 12; omega)
  have hmb : ∀ x ∈ ([3, 5, 7, 2, 9, 12, 4, 6, 8, 1, 10, 0] : List Int), 0 ≤ x ∧ x ≤ 12 := by decide
  obtain ⟨hm0, hm1⟩ := hmb m hm
  refine ⟨_, rfl, p, _, 1, _, rfl, rfl, (same_new hl8 _).seq (g.same.seq sh6), ix e1, l8, _, _, .int m, rfl, rfl, SqL.of upd_same, at_pos u1 em, m, rfl, by omega, by omega, ?_⟩
  have g9 := g.keep (same_new hl8 (.lst ([3, 5, 7, 2, 9, 12, 4, 6, 8, 1, 10, 0].map V.int)))
  refine for_range (lo := 0) (n := m.toNat) (fun i σ H' => ∃ (v9 v10 v11 : Option V) (l : List V) (ts : List T3), σ = [some (.ref a), some (.int at_), some (.ref p), some (.int (pl : Int)), some (.int b), some (.int kind), some (.ref El), some (.ref D), some (.ref p3), v9, v10, v11] ∧ Grow K H6 H' D l ts ∧ (∀ t ∈ ts, OkU pl t ∧ t.2.2 ≤ 1000000000000) ∧ ts.length ≤ 140 + i) ⟨v9, none, none, l, ts, rfl, g9, hok, by omega⟩ ?_ ?_
  · clear g g9 hok hlt hlt2
    rintro i σ H9 hi ⟨v9, v10, v11, l, ts, rfl, g, hok, hlt⟩
    have hll : l.length ≤ 1000 := by have := g.len; omega
    have s09 := s06.trans g.same
    refine ⟨_, rfl, _, rfl, _, _, rfl, rfl, _, rfl, _, _, rfl, rfl, a, ns, at_ + 1 + (0 + (i : Int)), rfl, s09.seq ha, by omega, by omega, fun c2 => ?_⟩
    refine ⟨_, _, rfl, rfl, ⟨by decide, by decide, by decide⟩, five_line, fun l9 hl9 => ?_⟩
    refine ⟨c2, l9, [2520, 2520, 9, 1000, 10 ^ (12 : Int).toNat], rfl, SqL.of upd_same, by decide, szs (by decide), fun p5 ds5 hp5 hd5 => ?_⟩
    obtain ⟨y0, f0, t0, r0⟩ := dg hd5 (i := 0) (z := 2520) rfl
    obtain ⟨y1, f1, t1, r1⟩ := dg hd5 (i := 1) (z := 2520) rfl
    obtain ⟨y2, f2, t2, r2⟩ := dg hd5 (i := 2) (z := 9) rfl
    obtain ⟨y3, f3, t3, r3⟩ := dg hd5 (i := 3) (z := 1000) rfl
    obtain ⟨y4, f4, t4, r4⟩ := dg hd5 (i := 4) (z := 10 ^ (12 : Int).toNat) rfl
    rw [h12] at r4
    have hl5 : ds5.length = 5 := by rw [hd5.len]; rfl
    have hcv : cutV (ds5.map V.int) (some 2) none = [V.int y2, V.int y3, V.int y4] := by
      rw [show cutV (ds5.map V.int) (some 2) none = (ds5.map V.int).drop 2 from by
        unfold cutV
        have g1 : HT.sIx (ds5.map V.int).length 0 (some 2) = 2 := sIx_of (by rfl) (by rw [List.length_map]; omega)
        have g2 : HT.sIx (ds5.map V.int).length (ds5.map V.int).length none = 5 := by rw [List.length_map, hl5]; rfl
        rw [g1, g2]
        exact List.take_of_length_le (by rw [List.length_drop, List.length_map]; omega)]
      refine List.ext_getElem? fun j => ?_
      rw [List.getElem?_drop]
      rcases j with _ | _ | _ | j
      · exact f2
      · exact f3
      · exact f4
      · rw [List.getElem?_eq_none (by rw [List.length_map]; omega), List.getElem?_eq_none (by simp)]
    generalize hHA : upd (upd H9 l9 _) p5 _ = HA
    have sA : Same H9 HA := by rw [← hHA]; exact (same_new hl9 _).trans (same_new hp5 _)
    have hpA : HA p5 = some (.lst (ds5.map V.int)) := by rw [← hHA, upd_same]
    have gA := g.keep sA
    refine ⟨_, rfl, _, rfl, _, rfl, _, rfl, pl, kind, p5, D, ds5, ts, y0, y1, rfl, SqL.of hpA, f0, f1, gA.tl, fun t ht => ⟨(hok t ht).1.ne, (hok t ht).1.a0, (hok t ht).1.a1, (hok t ht).1.b0, (hok t ht).1.b1⟩, by omega, hge2, hpl, fun pe HB e sB hpe hoe => ?_⟩
    have gB := gA.keep sB
    have hpB := sB _ _ hpA
    refine ⟨_, rfl, .inl ⟨rfl, _, SqL.of gB.at_⟩, _, rfl, pe, _, 0, _, rfl, rfl, hpe, at_pos (by decide) rfl, _, rfl, pe, _, 1, _, rfl, rfl, hpe, at_pos (by decide) rfl, ?_⟩
    refine ⟨_, rfl, p, _, 3, _, rfl, rfl, gB.same.seq sh6, ix e3, _, rfl, _, rfl, p5, _, rfl, SqL.of hpB, fun p6 hp6 => ?_⟩
    rw [hcv]
    refine ⟨x3, p6, y2, y3, y4, rfl, SqL.of upd_same, by omega, by omega, by omega, fun s HC sC hs1 hs2 => ⟨three_line, fun z hz => ?_⟩⟩
    have gC := gB.keep ((same_new hp6 (.lst [V.int y2, V.int y3, V.int y4])).trans sC)
    exact ⟨D, _, _, rfl, rfl, same_new hz _ _ _ gC.at_, small1000 hll, some (.int (0 + (i : Int))), some (.ref p5), some (.ref pe), l ++ [.ref z], ts ++ [(e.1, e.2, s)], rfl, gC.push hD hz (e.1, e.2, s) rfl, all_snoc hok ⟨ok3 hoe hs1, hs2⟩, by rw [List.length_append]; simp; omega⟩
  · rintro σ H9 ⟨v9, v10, v11, l, ts, rfl, g, hok, hlt⟩
    refine ⟨_, rfl, _, rfl, _, rfl, three_line, fun r hr => ?_⟩
    have s9 := same_new hr (.lst [.int (pl : Int), .ref D, .int b])
    exact q r _ pl ts b (s06.trans (g.same.trans s9)) ⟨D, upd_same, g.tl.same s9⟩ ⟨by omega, fun t ht => (hok t ht).1, fun t ht => B60 (by have h1 := (hok t ht).1.s1; have h2 := (hok t ht).2; omega), by omega, hb0, B60 (by omega), fun _ => hge2⟩ hpl
end
end P15
set_option exponentiation.threshold 3000
namespace P15
open PySem PySem.Spec PyProof.Rows L2 SX EX WK
theorem filterMap_if {α β : Type} (p : α → Bool) (f : α → β) (xs : List α) : xs.filterMap (fun x => if p x = true then some (f x) else none) = (xs.filter p).map f := by
  induction xs with
  | nil => rfl
  | cons x xs ih =>
    rw [List.filterMap_cons, List.filter_cons]
    cases h : p x with
    | true => simp [ih]
    | false => simp [ih]
/-! ### cuts -/
/-- a tie leaves the side -/
def lvs (s : List Int) (t : T3) : Bool := decide (t.1 ∈ s) != decide (t.2.1 ∈ s)
def cutS (ts : List T3) (s : List Int) : Int := ((ts.filter (lvs s)).map (·.2.2)).sum
theorem ne_bl (x y : Bool) : (!decide (V.bl x = V.bl y)) = (x != y) := by cases x <;> cases y <;> rfl
theorem lvs_srt (s : List Int) (i j w : Int) (w2 : Int) : lvs s (imin i j, imax i j, w) = lvs s (i, j, w2) := by
  unfold lvs imin imax
  show (decide ((if j < i then j else i) ∈ s) != decide ((if j > i then j else i) ∈ s)) = (decide (i ∈ s) != decide (j ∈ s))
  by_cases h1 : j < i
  · rw [if_pos h1, if_neg (show ¬ j > i by omega)]
    cases decide (i ∈ s) <;> cases decide (j ∈ s) <;> rfl
  · rw [if_neg h1]
    by_cases h2 : j > i
    · rw [if_pos h2]
    · have : i = j := by omega
      rw [if_neg h2, this]
theorem sum_div {g : Int} (hg : 0 < g) : ∀ {l : List Int}, (∀ x ∈ l, g ∣ x) → (l.map fun x => x / g).sum = l.sum / g ∧ g ∣ l.sum
  | [], _ => ⟨by simp, by simp⟩
  | x :: l, h => by
    have ih := sum_div hg (l := l) fun y hy => h y (List.mem_cons_of_mem _ hy)
    have hx := h x List.mem_cons_self
    rw [List.map_cons, List.sum_cons, List.sum_cons, ih.1]
    exact ⟨(Int.add_ediv_of_dvd_left hx).symm, Int.dvd_add hx ih.2⟩
theorem cut_wt (ts : List T3) {b : Int} (hb : 0 < b) (s : List Int) : cutS (wt ts b) s = cutS ts s / wg ts b ∧ wg ts b ∣ cutS ts s := by
  have hg : 0 < wg ts b := gf_pos hb _
  have hd : ∀ x ∈ ((ts.filter (lvs s)).map (·.2.2)), wg ts b ∣ x := fun x hx => by
    obtain ⟨t, ht, rfl⟩ := List.mem_map.mp hx
    exact (gf_dvd _).2 _ (List.mem_map.mpr ⟨t, (List.mem_filter.mp ht).1, rfl⟩)
  have h := sum_div hg hd
  refine ⟨?_, h.2⟩
  unfold cutS wt
  rw [List.filter_map, List.map_map]
  have e : (lvs s ∘ fun t : T3 => (imin t.1 t.2.1, imax t.1 t.2.1, t.2.2 / wg ts b)) = lvs s := funext fun t => lvs_srt s t.1 t.2.1 _ t.2.2
  rw [e]
  have h1 := h.1
  rw [List.map_map] at h1
  exact h1
theorem gI_mul {g x y : Int} (hg : 0 < g) : gI (g * x) (g * y) = g * gI x y := by
  unfold gI
  rw [Int.natAbs_mul, Int.natAbs_mul, Nat.gcd_mul_left]
  have : ((g.natAbs : Nat) : Int) = g := by omega
  rw [Int.natCast_mul, this]
theorem frac_div {g S b : Int} (hg : 0 < g) (h1 : g ∣ S) (h2 : g ∣ b) : S / g / gI (S / g) (b / g) = S / gI S b ∧ b / g / gI (S / g) (b / g) = b / gI S b := by
  obtain ⟨x, rfl⟩ := h1
  obtain ⟨y, rfl⟩ := h2
  rw [Int.mul_ediv_cancel_left _ (by omega), Int.mul_ediv_cancel_left _ (by omega), gI_mul hg, Int.mul_ediv_mul_of_pos _ _ hg, Int.mul_ediv_mul_of_pos _ _ hg]
  exact ⟨rfl, rfl⟩
/-- a fraction in lowest terms -/
def LwAt (H : Hp) (r : Addr) (S b : Int) : Prop := FrAt H r (S / gI S b) (b / gI S b)
theorem LwAt.same {H H' : Hp} {r : Addr} {S b : Int} (e : Same H H') (h : LwAt H r S b) : LwAt H' r S b := FrAt.same e h
theorem cut_frac (ts : List T3) {b : Int} (hb : 0 < b) (s : List Int) {H : Hp} {r : Addr} (h : LwAt H r (cutS (wt ts b) s) (wb ts b)) : LwAt H r (cutS ts s) b := by
  unfold LwAt at h ⊢
  obtain ⟨e1, e2⟩ := cut_wt ts hb s
  have hd : wg ts b ∣ b := (gf_dvd _).1
  rw [e1] at h
  have h2 := frac_div (gf_pos hb (ts.map (·.2.2))) e2 hd
  show FrAt H r _ _
  rw [← h2.1, ← h2.2]
  exact h
section
variable {P : Program} {w : World} {K : PySem.W.Frag} {mg : Str → Option Value} {base : Heap} {f : Addr} {fd : FuncData} {cF cR cW : Addr}
def spLeav (K : PySem.W.Frag) (cF cR cW : Addr) : Sp := fun vs H Q _ => ∃ (p a : Addr) (pl : Nat) (ts : List T3) (b : Int) (s : List Int), vs = [.ref p, .ref a] ∧ WebAt K H cF cR cW p pl ts b ∧ SqT K H a (s.map V.int) ∧ ts.length ≤ 1000 ∧ ∀ H', Same H H' → Q (.int (cutS (wt ts b) s)) H'
abbrev s_leaving : Stmt := top 21
abbrev N_leaving : List Str := ["web", "side", "one", "two", "strength"]
theorem sc_leaving : FnScope N_leaving ["web", "side"] (defScope s_leaving) := ⟨rfl, rfl, rfl, by decide +kernel, rfl, by decide +kernel, by decide +kernel⟩
theorem ok_leaving (F : Fun K "leaving" "leaving" s_leaving f fd) (T : Txt mg) (O2 : ObW K cW) : FnOk P w K mg base CX0 1 f fd ["web", "side"] (spLeav K cF cR cW) := by
  refine F.ok sc_leaving (fun vs H Q E h => ?_) (fun cdv A outer s H vs Q E hr h => ?_)
  · obtain ⟨p, a, pl, ts, b, sd, rfl, _⟩ := h
    rfl
  obtain ⟨p, a, pl, ts, b, sd, rfl, hw, hs, hlen, q⟩ := h
  refine ⟨_, (pss_one (ps_ret (pe_callB (cr_sum rfl) (by rfl) T.b_sum (by decide +kernel) (pa_cons (pe_lc (own := [("one", 2), ("two", 3), ("strength", 4)]) (by rfl) sc_leaving.nd (pi_tup (pe_fld (pv 0) rfl)) (blkOk_by (N := N_leaving) (sc := defScope s_leaving) (by decide +kernel)) (fun _ _ _ _ _ => (pg_tupK (K := K) (n := 3) rfl rfl (pgs_cons (pg_name (i := 2) sc_leaving.nd rfl (Or.inl rfl)) (pgs_cons (pg_name (i := 3) sc_leaving.nd rfl (Or.inl rfl)) (pgs_cons (pg_name (i := 4) sc_leaving.nd rfl (Or.inl rfl)) pgs_nil))))) (fun _ _ _ _ _ => (pts_one (pt_cmpR op_ne (pe_cmpR (op_in_seqK (K := K) rfl) (pv 2) (pv 1) (by rfl)) (pe_cmpR (op_in_seqK (K := K) rfl) (pv 3) (pv 1) (by rfl)) (nomark _)))) (fun _ _ _ _ _ => (pv 4))) pa_nil)))), ?_⟩
  obtain ⟨dx, e, R1, F1, hi, hz, _⟩ := id hw
  obtain ⟨vs, he, hall⟩ := fz_all hz
  have hvl : vs.length = (wt ts b).length := by rw [hall.len, List.length_map]
  have hwl : (wt ts b).length = ts.length := wt_len
  refine ⟨_, rfl, p, cW, dx, _, _, rfl, hi, O2.clW, O2.W_ties, lkWt _ _ _ _ _, e, rfl, ⟨_, he⟩, fun D hD => ?_⟩
  refine lc_f (walk_tup (K := K) (a := e) (xs := vs)) RI (stb_RI (K := K)) (wt ts b) hvl (by omega) hD (fun H' s => Same_seqT s he) (fun _ _ _ _ => ys_at) (fun t => if lvs sd t = true then some t.2.2 else none) (fun k t1 v H5 H6 hb1 s5 s6 y A B hA hBn => ?_) (fun H5 l s5 hl5 rs2 => ?_)
  · obtain ⟨t2, ht2, hz⟩ := hall.get y.2
    rw [List.getElem?_map, hb1] at ht2
    cases ht2
    obtain ⟨r, rfl, hr1⟩ := fz_tie (hz.tk (WK.Same.tk s6))
    have hs6 := Same_seqT s6 hs
    refine ⟨_, _, rfl, hr1, rfl, _, _, rfl, _, _, rfl, _, _, rfl, rfl, rfl, ?_⟩
    refine ⟨_, rfl, _, rfl, a, _, rfl, .inr hs6, rfl, flat_ints _, _, rfl, _, rfl, a, _, rfl, .inr hs6, rfl, flat_ints _, rfl, _, rfl, ?_⟩
    rw [inV_ints, inV_ints]
    show if (!decide (V.bl (decide (t1.1 ∈ sd)) = V.bl (decide (t1.2.1 ∈ sd)))) = true then _ else _
    rw [ne_bl]
    by_cases e1 : lvs sd t1 = true
    · exact ifT e1 ⟨_, rfl, hA _ _ _ (if_pos e1) (fun _ _ h => h) rfl⟩
    · exact ifF (Bool.eq_false_iff.mpr e1) (hBn (if_neg e1) _ fun _ _ h => h)
  have e := rs2.ints
  rw [filterMap_if (lvs sd) (fun t => t.2.2)] at e
  exact ⟨D, _, rfl, SqL.of (by rw [hl5, e]), q _ s5⟩
def spCut (K : PySem.W.Frag) (cF cR cW : Addr) : Sp := fun vs H Q _ => ∃ (p : Addr) (v : V) (pl : Nat) (ts : List T3) (b : Int) (s : List Int), vs = [.ref p, v] ∧ WebAt K H cF cR cW p pl ts b ∧ Sn K H v (.tup (s.map Td.int)) ∧ s.length ≤ 1000 ∧ TOk pl ts b ∧ ∀ r H', Same H H' → LwAt H' r (cutS ts s) b → Q (.ref r) H'
theorem dep_ints1 (s : List Int) : (Td.tup (s.map Td.int)).dep ≤ 3 := by
  simp only [Td.dep]
  have : Td.deps (s.map Td.int) ≤ 0 := deps_all fun t h => by
    obtain ⟨n, _, rfl⟩ := List.mem_map.mp h
    exact Nat.le_refl _
  omega
abbrev s_cut : Stmt := top 22
abbrev N_cut : List Str := ["web", "side"]
theorem sc_cut : FnScope N_cut ["web", "side"] (defScope s_cut) := ⟨rfl, rfl, rfl, by decide +kernel, rfl, by decide +kernel, by decide +kernel⟩
theorem ok_cut (F : Fun K "cut" "cut" s_cut f fd) (T : Txt mg) (O2 : ObW K cW) (C_fraction : Cal P w K mg base 1 "fraction" ["top", "bottom"] spFraction) (C_leaving : Cal P w K mg base 1 "leaving" ["web", "side"] (spLeav K cF cR cW)) (C_frozen : Cal P w K mg base 3 "frozen" ["value"] (spFz K 3)) : FnOk P w K mg base CX0 4 f fd ["web", "side"] (spCut K cF cR cW) := by
  refine F.ok sc_cut (fun vs H Q E h => ?_) (fun cdv A outer s H vs Q E hr h => ?_)
  · obtain ⟨p, v, pl, ts, b, sd, rfl, _⟩ := h
    rfl
  obtain ⟨p, v, pl, ts, b, sd, rfl, hw, hs, hlen, hok, q⟩ := h
  refine ⟨_, (pss_one (ps_ret (pe_cal C_fraction (hr.mono (by omega)) rfl (pa_cons (pe_cal C_leaving (hr.mono (by omega)) rfl (pa_cons (pv 0) (pa_cons (pe_cal C_frozen (hr.mono (by omega)) rfl (pa_cons (pv 1) pa_nil)) pa_nil))) (pa_cons (pe_fld (pv 0) rfl) pa_nil))))), ?_⟩
  have hb := hok.bot
  obtain ⟨dx, e, R1, F1, hi, hz, _⟩ := id hw
  refine ⟨_, rfl, _, rfl, v, _, rfl, hs, dep_ints1 sd, sm_ints (by omega), fun v1 H1 s1 hz1 => ?_⟩
  obtain ⟨a, rfl, ha⟩ := fz_ints hz1
  refine ⟨p, a, pl, ts, b, sd, rfl, hw.same s1, ha, hok.len, fun H2 s2 => ?_⟩
  have s12 := s1.trans s2
  exact ⟨_, rfl, p, cW, dx, _, _, rfl, s12 _ _ hi, O2.clW, O2.W_bottom, lkWb _ _ _ _ _, _, _, rfl, wb_pos hb, (wb_B hb hok.bB).mono (by omega), fun r H3 s3 hr3 => q r H3 (s12.trans s3) (cut_frac ts hb sd hr3)⟩
end
end P15
set_option exponentiation.threshold 3000
namespace P15
open PySem PySem.Spec PyProof.Rows L2 SX EX WK
/-! ### sides between two places -/
def sbStep (one two : Int) (f : List (List Int)) (p : Int) : List (List Int) := if p = one then f.map (· ++ [p]) else if p = two then f else f ++ f.map (· ++ [p])
def sbt (one two : Int) : Nat → List (List Int)
  | 0 => [[]]
  | n + 1 => sbStep one two (sbt one two n) (n : Int)
theorem sbt_len (one two : Int) : ∀ n, (sbt one two n).length ≤ 2 ^ n
  | 0 => Nat.le_refl _
  | n + 1 => by
    have ih := sbt_len one two n
    unfold sbt sbStep
    rw [Nat.pow_succ]
    split
    · rw [List.length_map]; omega
    · split
      · omega
      · rw [List.length_append, List.length_map]; omega
theorem sbt_short (one two : Int) : ∀ n, ∀ s ∈ sbt one two n, s.length ≤ n
  | 0, s, h => by
    rw [List.mem_singleton.mp h]
    exact Nat.le_refl _
  | n + 1, s, h => by
    have ih := sbt_short one two n
    have im : ∀ s ∈ (sbt one two n).map (· ++ [(n : Int)]), s.length ≤ n + 1 := fun s hs => by
      obtain ⟨u, hu, rfl⟩ := List.mem_map.mp hs
      have := ih u hu
      show (u ++ [(n : Int)]).length ≤ n + 1
      rw [List.length_append]
      simp only [List.length_cons, List.length_nil]
      omega
    unfold sbt sbStep at h
    split at h
    · exact im s h
    · split at h
      · exact Nat.le_succ_of_le (ih s h)
      · rcases List.mem_append.mp h with h | h
        · exact Nat.le_succ_of_le (ih s h)
        · exact im s h
def sel (P : Int → Bool) (n : Nat) : List Int := ((List.range n).map fun k => ((k : Nat) : Int)).filter P
theorem sel_succ (P : Int → Bool) (n : Nat) : sel P (n + 1) = sel P n ++ if P (n : Int) = true then [(n : Int)] else [] := by
  unfold sel
  rw [List.range_succ, List.map_append, List.filter_append]
  congr 1
  show List.filter P [(n : Int)] = _
  rw [List.filter_cons]
  cases P (n : Int) <;> rfl
theorem sel_congr {P Q : Int → Bool} {n : Nat} (h : ∀ k : Nat, k < n → P k = Q k) : sel P n = sel Q n := by
  unfold sel
  refine List.filter_congr fun x hx => ?_
  obtain ⟨k, hk, rfl⟩ := List.mem_map.mp hx
  exact h k (List.mem_range.mp hk)
theorem mem_sel {P : Int → Bool} {n : Nat} {x : Int} (h0 : 0 ≤ x) (h1 : x < n) : decide (x ∈ sel P n) = P x := by
  rw [Bool.eq_iff_iff, decide_eq_true_iff]
  unfold sel
  rw [List.mem_filter]
  refine ⟨fun h => h.2, fun h => ⟨List.mem_map.mpr ⟨x.toNat, List.mem_range.mpr (by omega), by omega⟩, h⟩⟩
/-- what a side must have -/
structure Gd (one two : Int) (n : Nat) (P : Int → Bool) : Prop where
  a : ∀ k : Nat, k < n → (k : Int) = one → P k = true
  b : ∀ k : Nat, k < n → (k : Int) = two → P k = false
theorem sbt_mem {one two : Int} (hne : one ≠ two) : ∀ (n : Nat) (s : List Int), s ∈ sbt one two n ↔ ∃ P, s = sel P n ∧ Gd one two n P
  | 0, s => by
    refine ⟨fun h => ⟨fun _ => true, by rw [List.mem_singleton.mp h]; rfl, fun k hk => absurd hk (Nat.not_lt_zero _), fun k hk => absurd hk (Nat.not_lt_zero _)⟩, fun ⟨P, e, _⟩ => ?_⟩
    rw [e]
    exact List.mem_singleton.mpr rfl
  | n + 1, s => by
    have ih := sbt_mem hne n
    -- P with a value at n
    have ext : ∀ (P : Int → Bool) (c : Bool), Gd one two n P → ((n : Int) = one → c = true) → ((n : Int) = two → c = false) → ∃ P', sel P' (n + 1) = sel P n ++ (if c = true then [(n : Int)] else []) ∧ Gd one two (n + 1) P' := fun P c g h1 h2 => by
      refine ⟨fun x => if x = (n : Int) then c else P x, ?_, fun k hk e => ?_, fun k hk e => ?_⟩
      · rw [sel_succ]
        congr 1
        · exact sel_congr fun k hk => if_neg (by omega)
        · rw [if_pos rfl]
      · by_cases z : k = n
        · rw [if_pos (by omega)]; exact h1 (by omega)
        · rw [if_neg (by omega)]; exact g.a k (by omega) e
      · by_cases z : k = n
        · rw [if_pos (by omega)]; exact h2 (by omega)
        · rw [if_neg (by omega)]; exact g.b k (by omega) e
    have low : ∀ {P : Int → Bool}, Gd one two (n + 1) P → Gd one two n P := fun g => ⟨fun k hk => g.a k (by omega), fun k hk => g.b k (by omega)⟩
    have add : ∀ u, u ∈ (sbt one two n).map (· ++ [(n : Int)]) → (n : Int) ≠ two → ∃ P, u = sel P (n + 1) ∧ Gd one two (n + 1) P := fun u hu h2 => by
      obtain ⟨v, hv, rfl⟩ := List.mem_map.mp hu
      obtain ⟨P, rfl, g⟩ := (ih v).mp hv
      obtain ⟨P', e, g'⟩ := ext P true g (fun _ => rfl) (fun z => absurd z h2)
      exact ⟨P', by rw [e, if_pos rfl], g'⟩
    have keep : ∀ u, u ∈ sbt one two n → (n : Int) ≠ one → ∃ P, u = sel P (n + 1) ∧ Gd one two (n + 1) P := fun u hu h1 => by
      obtain ⟨P, rfl, g⟩ := (ih u).mp hu
      obtain ⟨P', e, g'⟩ := ext P false g (fun z => absurd z h1) (fun _ => rfl)
      exact ⟨P', by rw [e, if_neg Bool.false_ne_true, List.append_nil], g'⟩
    have inn : ∀ P, Gd one two (n + 1) P → P (n : Int) = true → sel P (n + 1) ∈ (sbt one two n).map (· ++ [(n : Int)]) := fun P g h => by
      refine List.mem_map.mpr ⟨sel P n, (ih _).mpr ⟨P, rfl, low g⟩, ?_⟩
      show sel P n ++ [(n : Int)] = _
      rw [sel_succ, if_pos h]
    have out : ∀ P, Gd one two (n + 1) P → ¬ P (n : Int) = true → sel P (n + 1) ∈ sbt one two n := fun P g h => by
      rw [sel_succ, if_neg h, List.append_nil]
      exact (ih _).mpr ⟨P, rfl, low g⟩
    show s ∈ sbStep one two (sbt one two n) (n : Int) ↔ _
    unfold sbStep
    by_cases c1 : (n : Int) = one
    · rw [if_pos c1]
      refine ⟨fun h => add s h (fun z => hne (by rw [← c1, z])), fun ⟨P, e, g⟩ => ?_⟩
      rw [e]
      exact inn P g (g.a n (Nat.lt_succ_self _) c1)
    · rw [if_neg c1]
      by_cases c2 : (n : Int) = two
      · rw [if_pos c2]
        refine ⟨fun h => keep s h c1, fun ⟨P, e, g⟩ => ?_⟩
        rw [e]
        exact out P g (by rw [g.b n (Nat.lt_succ_self _) c2]; exact Bool.false_ne_true)
      · rw [if_neg c2]
        refine ⟨fun h => (List.mem_append.mp h).elim (fun h => keep s h c1) fun h => add s h c2, fun ⟨P, e, g⟩ => ?_⟩
        rw [e]
        by_cases h : P (n : Int) = true
        · exact List.mem_append.mpr (.inr (inn P g h))
        · exact List.mem_append.mpr (.inl (out P g h))
/-! ### the least cut -/
theorem cutS_cons (t : T3) (ts : List T3) (s : List Int) : cutS (t :: ts) s = (if lvs s t = true then t.2.2 else 0) + cutS ts s := by
  unfold cutS
  rw [List.filter_cons]
  by_cases h : lvs s t = true
  · rw [if_pos h, if_pos h, List.map_cons, List.sum_cons]
  · rw [if_neg h, if_neg h, Int.zero_add]
theorem submod {n : Nat} {P Q : Int → Bool} : ∀ {ts : List T3}, (∀ t ∈ ts, OkU n t) → cutS ts (sel (fun x => P x && Q x) n) + cutS ts (sel (fun x => P x || Q x) n) ≤ cutS ts (sel P n) + cutS ts (sel Q n)
  | [], _ => by
    unfold cutS
    simp
  | t :: ts, h => by
    have ih := submod (P := P) (Q := Q) (ts := ts) fun u hu => h u (List.mem_cons_of_mem _ hu)
    obtain ⟨_, a0, a1, b0, b1, s1⟩ := h t List.mem_cons_self
    rw [cutS_cons, cutS_cons, cutS_cons, cutS_cons]
    have key : (if lvs (sel (fun x => P x && Q x) n) t = true then t.2.2 else 0) + (if lvs (sel (fun x => P x || Q x) n) t = true then t.2.2 else 0) ≤ (if lvs (sel P n) t = true then t.2.2 else 0) + (if lvs (sel Q n) t = true then t.2.2 else 0) := by
      unfold lvs
      rw [mem_sel a0 a1, mem_sel b0 b1, mem_sel a0 a1, mem_sel b0 b1, mem_sel a0 a1, mem_sel b0 b1, mem_sel a0 a1, mem_sel b0 b1]
      cases P t.1 <;> cases Q t.1 <;> cases P t.2.1 <;> cases Q t.2.1 <;> simp <;> omega
    omega
/-- the least cut with the fewest places stands alone -/
theorem least_one {one two : Int} (hne : one ≠ two) {n : Nat} {ts : List T3} (ok : ∀ t ∈ ts, OkU n t) {s s' : List Int} (hs : s ∈ sbt one two n) (hs' : s' ∈ sbt one two n)
    (hm : ∀ u ∈ sbt one two n, cutS ts s < cutS ts u ∨ (cutS ts s = cutS ts u ∧ s.length ≤ u.length)) (he : cutS ts s' = cutS ts s) (hl : s'.length ≤ s.length) : s' = s := by
  obtain ⟨P, rfl, gp⟩ := (sbt_mem hne n s).mp hs
  obtain ⟨Q, rfl, gq⟩ := (sbt_mem hne n s').mp hs'
  have hI : sel (fun x => P x && Q x) n ∈ sbt one two n := (sbt_mem hne n _).mpr ⟨_, rfl, fun k hk e => by rw [gp.a k hk e, gq.a k hk e]; rfl, fun k hk e => by rw [gp.b k hk e]; rfl⟩
  have hU : sel (fun x => P x || Q x) n ∈ sbt one two n := (sbt_mem hne n _).mpr ⟨_, rfl, fun k hk e => by rw [gp.a k hk e]; rfl, fun k hk e => by rw [gp.b k hk e, gq.b k hk e]; rfl⟩
  have sm := submod (P := P) (Q := Q) ok
  have mU := hm _ hU
  have mI := hm _ hI
  have e1 : sel (fun x => P x && Q x) n = (sel P n).filter Q := by
    unfold sel
    rw [List.filter_filter]
    exact List.filter_congr fun x _ => Bool.and_comm _ _
  have e2 : sel (fun x => P x && Q x) n = (sel Q n).filter P := by
    unfold sel
    rw [List.filter_filter]
  have s1 : (sel (fun x => P x && Q x) n).Sublist (sel P n) := by rw [e1]; exact List.filter_sublist
  have s2 : (sel (fun x => P x && Q x) n).Sublist (sel Q n) := by rw [e2]; exact List.filter_sublist
  have l1 := s1.length_le
  have l2 := s2.length_le
  have hlen : (sel P n).length ≤ (sel (fun x => P x && Q x) n).length := by omega
  have f1 := s1.eq_of_length (by omega)
  have f2 := s2.eq_of_length (by omega)
  rw [← f2, f1]
/-! ### lists of sides -/
abbrev tds (s : List Int) : Td := .tup (s.map Td.int)
def SL (K : PySem.W.Frag) (H : Hp) (a : Addr) (ss : List (List Int)) : Prop := ∃ vs, H a = some (.lst vs) ∧ FzAll K H vs (ss.map tds)
theorem SL.same {K : PySem.W.Frag} {H H' : Hp} {a : Addr} {ss : List (List Int)} (e : Same H H') (h : SL K H a ss) : SL K H' a ss := let ⟨vs, h1, h2⟩ := h; ⟨vs, e _ _ h1, h2.tk (WK.Same.tk e)⟩
theorem side_at {K : PySem.W.Frag} {H : Hp} {vs : List V} {ss : List (List Int)} (h : FzAll K H vs (ss.map tds)) {i : Nat} {s : List Int} (hs : ss[i]? = some s) : ∃ a, vs[i]? = some (.ref a) ∧ SqT K H a (s.map V.int) := by
  have hl : vs.length = ss.length := by rw [h.len, List.length_map]
  have hi : i < vs.length := by
    have := (List.getElem?_eq_some_iff.mp hs).1
    omega
  obtain ⟨u, hu, hz⟩ := h.get (List.getElem?_eq_getElem hi)
  rw [List.getElem?_map, hs] at hu
  cases hu
  obtain ⟨a, e, ha⟩ := fz_ints hz
  exact ⟨a, by rw [List.getElem?_eq_getElem hi, e], ha⟩
theorem op_catAK {X : Cx} {K : PySem.W.Frag} (h : X.K = K) : OpR X (binaryOp .Add) (rCatA K) := by subst h; exact op_catA
theorem fz_append {K : PySem.W.Frag} {H : Hp} : ∀ {vs us : List V} {ts ws : List Td}, FzAll K H vs ts → FzAll K H us ws → FzAll K H (vs ++ us) (ts ++ ws)
  | _, _, _, _, .nil, g => g
  | _, _, _, _, .cons a r, g => .cons a (fz_append r g)
/-- a place more -/
theorem cat_side {K : PySem.W.Frag} {H H' : Hp} {a z : Addr} {s : List Int} {p : Int} {Q : VK} (ha : SqT K H' a (s.map V.int)) (hl : s.length ≤ 1000) (hz : H z = none) (e : H' = upd H z (.tup [.int p])) (q : ∀ r H2, Same H' H2 → Fz K H2 (.ref r) (tds (s ++ [p])) → Q (.ref r) H2) : rCatA K (.ref a) (.ref z) H' Q := by
  have hzz : SqT K H' z [V.int p] := by rw [e]; exact SqT.of upd_same
  refine ⟨a, z, _, [.int p], rfl, rfl, ha, hzz, line_ge (by rw [List.length_map]; show s.length + 1 ≤ 100000; omega), fun h => ?_, fun _ h => (by cases h), fun _ _ r hr => ?_⟩
  · cases s with
    | nil => exact q z H' (fun _ _ h => h) (.tup hzz (.cons (.int _) .nil))
    | cons x s => cases h
  · refine q r _ (same_new hr _) (.tup (SqT.of (xs := (s ++ [p]).map V.int) ?_) (FzAll.of_ints _))
    rw [upd_same, List.map_append]
    rfl
section
variable {P : Program} {w : World} {K : PySem.W.Frag} {mg : Str → Option Value} {base : Heap} {f : Addr} {fd : FuncData} {cF cR cW : Addr}
def spSB (K : PySem.W.Frag) : Sp := fun vs H Q _ => ∃ (n : Nat) (one two : Int), vs = [.int (n : Int), .int one, .int two] ∧ n ≤ 10 ∧ ∀ r H', Same H H' → SL K H' r (sbt one two n) → Q (.ref r) H'
abbrev s_sides_between : Stmt := top 24
abbrev N_sides_between : List Str := ["places", "one", "two", "found", "place", "side"]
theorem sc_sides_between : FnScope N_sides_between ["places", "one", "two"] (defScope s_sides_between) := ⟨rfl, rfl, rfl, by decide +kernel, rfl, by decide +kernel, by decide +kernel⟩
theorem ok_sides_between (F : Fun K "sides_between" "sides_between" s_sides_between f fd) (T : Txt mg) : FnOk P w K mg base CX0 1 f fd ["places", "one", "two"] (spSB K) := by
  refine F.ok sc_sides_between (fun vs H Q E h => ?_) (fun cdv A outer s H vs Q E hr h => ?_)
  · obtain ⟨n, one, two, rfl, _⟩ := h
    rfl
  obtain ⟨n, one, two, rfl, hn, q⟩ := h
  refine ⟨_, (pss_cons (ps_set (i := 3) sc_sides_between.nd rfl (Or.inl rfl) (pe_lst (pa_cons (pe_tup pa_nil) pa_nil)))
  (pss_cons (ps_for PassesOwn.never rfl (pi_range1 (by rfl) T.b_range (pa_cons (pv 0) pa_nil)) (pg_name (i := 4) sc_sides_between.nd rfl (Or.inr rfl)) (pss_one (ps_if (pt_cmpR op_eq (pv 4) (pv 1) (nomark _)) (pss_one (ps_setLc (i := 3) (own := [("side", 5)]) (g := gName 5) (tt := tYes) (by rfl) sc_sides_between.nd rfl rfl (sw_true rfl rfl rfl (by decide +kernel)) (pi_list (pv 3)) (blkOk_by (N := N_sides_between) (sc := defScope s_sides_between) (by decide +kernel)) (fun _ _ _ _ _ => (pg_name (i := 5) sc_sides_between.nd rfl (Or.inl rfl))) (fun _ _ _ _ _ => pts_nil) (fun _ _ _ _ _ => (pe_op (op_catAK (K := K) rfl) (pv 5) (pe_tup (pa_cons (pv 4) pa_nil)))))) (pss_one (ps_if (pt_cmpR op_ne (pv 4) (pv 2) (nomark _)) (pss_one (ps_set (i := 3) sc_sides_between.nd rfl (Or.inl rfl) (pe_op op_cat (pv 3) (pe_lc (own := [("side", 5)]) (g := gName 5) (tt := tYes) (by rfl) sc_sides_between.nd (pi_list (pv 3)) (blkOk_by (N := N_sides_between) (sc := defScope s_sides_between) (by decide +kernel)) (fun _ _ _ _ _ => (pg_name (i := 5) sc_sides_between.nd rfl (Or.inl rfl))) (fun _ _ _ _ _ => pts_nil) (fun _ _ _ _ _ => (pe_op (op_catAK (K := K) rfl) (pv 5) (pe_tup (pa_cons (pv 4) pa_nil)))))))) pss_nil)))))
  (pss_one (ps_ret (pv 3))))), ?_⟩
  refine ⟨Nat.zero_le _, fun z0 hz0 => ⟨line_ge (by show 1 ≤ 100000; omega), fun D0 hD0 => ?_⟩⟩
  have s0 := (same_new hz0 (.tup [])).trans (same_new hD0 (.lst [V.ref z0]))
  have sl0 : SL K (upd (upd H z0 (.tup [])) D0 (.lst [V.ref z0])) D0 (sbt one two 0) := ⟨_, upd_same, .cons (.tup (SqT.of (xs := []) (by rw [upd_ne (ne_of_none (upd_same (H := H) (a := z0)) hD0), upd_same])) .nil) .nil⟩
  refine ⟨_, rfl, (n : Int), rfl, by omega, by omega, for_range (lo := 0) (n := (n : Int).toNat) (fun i σ H' => ∃ (D : Addr) (v4 : Option V), σ = [some (.int (n : Int)), some (.int one), some (.int two), some (.ref D), v4, none] ∧ Same H H' ∧ SL K H' D (sbt one two i)) ⟨D0, none, rfl, s0, sl0⟩ ?_ ?_⟩
  · rintro i σ H1 hi ⟨D, v4, rfl, s1, hsl⟩
    have hin : i < n := by omega
    obtain ⟨vs, hD, hall⟩ := id hsl
    have hvl : vs.length = (sbt one two i).length := by rw [hall.len, List.length_map]
    have h1024 : (sbt one two i).length ≤ 1024 := Nat.le_trans (sbt_len one two i) (Nat.pow_le_pow_right (by decide) (show i ≤ 10 by omega))
    have hshort := sbt_short one two i
    rw [show (0 : Int) + (i : Int) = (i : Int) from Int.zero_add _]
    refine ⟨_, rfl, _, rfl, rfl, _, rfl, ?_⟩
    by_cases c1 : (i : Int) = one
    · refine ifT (int_eq c1) ⟨_, rfl, D, rfl, ⟨_, SqL.of hD⟩, fun D2 hD2 => ?_⟩
      refine lc_m (walk_list (K := K) (a := D) (xs := vs)) (Fz K) stb_Fz (sbt one two i) hvl (by omega) hD2 (fun H' s => s.seq (SqL.of hD)) (fun _ _ _ _ => ys_at) (fun sd => tds (sd ++ [(i : Int)])) (fun k sd x H2 H3 hb s2 s3 y A B hA => ?_) (fun H2 l s2 hl2 rs => ?_)
      · obtain ⟨a, ha1, ha2⟩ := side_at hall hb
        rw [y.2] at ha1
        cases ha1
        exact ⟨rfl, lc_yes ⟨_, rfl, _, rfl, line_ge (by show 1 ≤ 100000; omega), fun z hz => cat_side (Same_seqT (s3.trans (same_new hz _)) ha2) (by have := hshort sd (List.mem_of_getElem? hb); omega) hz rfl fun r H4 s4 hf => hA _ _ ((same_new hz _).trans s4) hf⟩⟩
      · refine ⟨D2, _, rfl, s1.trans s2, l, hl2, ?_⟩
        show FzAll K H2 l ((sbStep one two (sbt one two i) (i : Int)).map tds)
        unfold sbStep
        rw [if_pos c1, List.map_map]
        exact rs.fz
    refine ifF (int_ne c1) ⟨_, rfl, _, rfl, rfl, _, rfl, ?_⟩
    by_cases c2 : (i : Int) = two
    · refine ifF (ne_F c2) ⟨D, _, rfl, s1, ?_⟩
      show SL K H1 D (sbStep one two (sbt one two i) (i : Int))
      unfold sbStep
      rw [if_neg c1, if_pos c2]
      exact hsl
    · refine ifT (ne_T c2) ⟨_, rfl, _, rfl, D, rfl, ⟨_, SqL.of hD⟩, fun D2 hD2 => ?_⟩
      refine lc_m (walk_list (K := K) (a := D) (xs := vs)) (Fz K) stb_Fz (sbt one two i) hvl (by omega) hD2 (fun H' s => s.seq (SqL.of hD)) (fun _ _ _ _ => ys_at) (fun sd => tds (sd ++ [(i : Int)])) (fun k sd x H2 H3 hb s2 s3 y A B hA => ?_) (fun H2 l s2 hl2 rs => ?_)
      · obtain ⟨a, ha1, ha2⟩ := side_at hall hb
        rw [y.2] at ha1
        cases ha1
        exact ⟨rfl, lc_yes ⟨_, rfl, _, rfl, line_ge (by show 1 ≤ 100000; omega), fun z hz => cat_side (Same_seqT (s3.trans (same_new hz _)) ha2) (by have := hshort sd (List.mem_of_getElem? hb); omega) hz rfl fun r H4 s4 hf => hA _ _ ((same_new hz _).trans s4) hf⟩⟩
      · have hll : l.length = (sbt one two i).length := by rw [rs.1, List.length_map]
        refine ⟨D, D2, vs, l, rfl, rfl, s2 _ _ hD, hl2, line_ge (by omega), fun D3 hD3 => ?_⟩
        have s3 := same_new hD3 (.lst (vs ++ l))
        refine ⟨D3, _, rfl, s1.trans (s2.trans s3), _, upd_same, ?_⟩
        show FzAll K _ (vs ++ l) ((sbStep one two (sbt one two i) (i : Int)).map tds)
        unfold sbStep
        rw [if_neg c1, if_neg c2, List.map_append, List.map_map]
        exact fz_append (hall.tk (WK.Same.tk (s2.trans s3))) (rs.fz.tk (WK.Same.tk s3))
  · rintro σ H1 ⟨D, v4, rfl, s1, hsl⟩
    rw [Int.toNat_natCast] at hsl
    exact ⟨_, rfl, q D H1 s1 hsl⟩
abbrev s__law_sides_between : Stmt := top 55
abbrev N__law_sides_between : List Str := ["places", "one", "two", "found", "place", "side"]
theorem sc__law_sides_between : FnScope N__law_sides_between ["places", "one", "two"] (defScope s__law_sides_between) := ⟨rfl, rfl, rfl, by decide +kernel, rfl, by decide +kernel, by decide +kernel⟩
theorem ok__law_sides_between (F : Fun K "_law_sides_between" "_law_sides_between" s__law_sides_between f fd) (T : Txt mg) : FnOk P w K mg base CX0 1 f fd ["places", "one", "two"] (spSB K) := by
  refine F.ok sc__law_sides_between (fun vs H Q E h => ?_) (fun cdv A outer s H vs Q E hr h => ?_)
  · obtain ⟨n, one, two, rfl, _⟩ := h
    rfl
  obtain ⟨n, one, two, rfl, hn, q⟩ := h
  refine ⟨_, (pss_cons (ps_set (i := 3) sc__law_sides_between.nd rfl (Or.inl rfl) (pe_lst (pa_cons (pe_tup pa_nil) pa_nil)))
  (pss_cons (ps_for PassesOwn.never rfl (pi_range1 (by rfl) T.b_range (pa_cons (pv 0) pa_nil)) (pg_name (i := 4) sc__law_sides_between.nd rfl (Or.inr rfl)) (C8.pss_cut (ps_if (pt_cmpR op_eq (pv 4) (pv 1) (nomark _)) (pss_one (ps_setLc (i := 3) (own := [("side", 5)]) (g := gName 5) (tt := tYes) (by rfl) sc__law_sides_between.nd rfl rfl (sw_true rfl rfl rfl (by decide +kernel)) (pi_list (pv 3)) (blkOk_by (N := N__law_sides_between) (sc := defScope s__law_sides_between) (by decide +kernel)) (fun _ _ _ _ _ => (pg_name (i := 5) sc__law_sides_between.nd rfl (Or.inl rfl))) (fun _ _ _ _ _ => pts_nil) (fun _ _ _ _ _ => (pe_op (op_catAK (K := K) rfl) (pv 5) (pe_tup (pa_cons (pv 4) pa_nil)))))) pss_nil)
  (pss_one (ps_if (PW.pt (pw_and (pt_cmpR op_ne (pv 4) (pv 1) (nomark _)) (pw_and1 (pt_cmpR op_ne (pv 4) (pv 2) (nomark _))))) (pss_one (ps_set (i := 3) sc__law_sides_between.nd rfl (Or.inl rfl) (pe_op op_cat (pv 3) (pe_lc (own := [("side", 5)]) (g := gName 5) (tt := tYes) (by rfl) sc__law_sides_between.nd (pi_list (pv 3)) (blkOk_by (N := N__law_sides_between) (sc := defScope s__law_sides_between) (by decide +kernel)) (fun _ _ _ _ _ => (pg_name (i := 5) sc__law_sides_between.nd rfl (Or.inl rfl))) (fun _ _ _ _ _ => pts_nil) (fun _ _ _ _ _ => (pe_op (op_catAK (K := K) rfl) (pv 5) (pe_tup (pa_cons (pv 4) pa_nil)))))))) pss_nil))))
  (pss_one (ps_ret (pv 3))))), ?_⟩
  refine ⟨Nat.zero_le _, fun z0 hz0 => ⟨line_ge (by show 1 ≤ 100000; omega), fun D0 hD0 => ?_⟩⟩
  have s0 := (same_new hz0 (.tup [])).trans (same_new hD0 (.lst [V.ref z0]))
  have sl0 : SL K (upd (upd H z0 (.tup [])) D0 (.lst [V.ref z0])) D0 (sbt one two 0) := ⟨_, upd_same, .cons (.tup (SqT.of (xs := []) (by rw [upd_ne (ne_of_none (upd_same (H := H) (a := z0)) hD0), upd_same])) .nil) .nil⟩
  refine ⟨_, rfl, (n : Int), rfl, by omega, by omega, for_range (lo := 0) (n := (n : Int).toNat) (fun i σ H' => ∃ (D : Addr) (v4 : Option V), σ = [some (.int (n : Int)), some (.int one), some (.int two), some (.ref D), v4, none] ∧ Same H H' ∧ SL K H' D (sbt one two i)) ⟨D0, none, rfl, s0, sl0⟩ ?_ ?_⟩
  · rintro i σ H1 hi ⟨D, v4, rfl, s1, hsl⟩
    have hin : i < n := by omega
    obtain ⟨vs, hD, hall⟩ := id hsl
    have hvl : vs.length = (sbt one two i).length := by rw [hall.len, List.length_map]
    have h1024 : (sbt one two i).length ≤ 1024 := Nat.le_trans (sbt_len one two i) (Nat.pow_le_pow_right (by decide) (show i ≤ 10 by omega))
    have hshort := sbt_short one two i
    rw [show (0 : Int) + (i : Int) = (i : Int) from Int.zero_add _]
    refine ⟨fun σ' H' => ∃ D' : Addr, σ' = [some (.int (n : Int)), some (.int one), some (.int two), some (.ref D'), some (.int (i : Int)), none] ∧ Same H H' ∧ ((i : Int) = one → SL K H' D' (sbt one two (i + 1))) ∧ ((i : Int) ≠ one → D' = D ∧ H' = H1), ?_, ?_⟩
    · refine ⟨_, rfl, _, rfl, rfl, _, rfl, ?_⟩
      by_cases c1 : (i : Int) = one
      · refine ifT (int_eq c1) ⟨_, rfl, D, rfl, ⟨_, SqL.of hD⟩, fun D2 hD2 => ?_⟩
        refine lc_m (walk_list (K := K) (a := D) (xs := vs)) (Fz K) stb_Fz (sbt one two i) hvl (by omega) hD2 (fun H' s => s.seq (SqL.of hD)) (fun _ _ _ _ => ys_at) (fun sd => tds (sd ++ [(i : Int)])) (fun k sd x H2 H3 hb s2 s3 y A B hA => ?_) (fun H2 l s2 hl2 rs => ?_)
        · obtain ⟨a, ha1, ha2⟩ := side_at hall hb
          rw [y.2] at ha1
          cases ha1
          exact ⟨rfl, lc_yes ⟨_, rfl, _, rfl, line_ge (by show 1 ≤ 100000; omega), fun z hz => cat_side (Same_seqT (s3.trans (same_new hz _)) ha2) (by have := hshort sd (List.mem_of_getElem? hb); omega) hz rfl fun r H4 s4 hf => hA _ _ ((same_new hz _).trans s4) hf⟩⟩
        · refine ⟨D2, rfl, s1.trans s2, fun _ => ⟨l, hl2, ?_⟩, fun z => absurd c1 z⟩
          show FzAll K H2 l ((sbStep one two (sbt one two i) (i : Int)).map tds)
          unfold sbStep
          rw [if_pos c1, List.map_map]
          exact rs.fz
      · exact ifF (int_ne c1) ⟨D, rfl, s1, fun z => absurd z c1, fun _ => ⟨rfl, rfl⟩⟩
    rintro σ H2' ⟨D', rfl, s1', g1, g2⟩
    by_cases c1 : (i : Int) = one
    · refine ⟨_, rfl, _, rfl, rfl, _, rfl, ifF (ne_F c1) ?_⟩
      exact ⟨D', _, rfl, s1', g1 c1⟩
    obtain ⟨rfl, rfl⟩ := g2 c1
    refine ⟨_, rfl, _, rfl, rfl, _, rfl, ifT (ne_T c1) ⟨_, rfl, _, rfl, rfl, _, rfl, ?_⟩⟩
    by_cases c2 : (i : Int) = two
    · refine ifF (ne_F c2) ⟨_, _, rfl, s1, ?_⟩
      show SL K _ _ (sbStep one two (sbt one two i) (i : Int))
      unfold sbStep
      rw [if_neg c1, if_pos c2]
      exact hsl
    · refine ifT (ne_T c2) ⟨_, rfl, _, rfl, _, rfl, ⟨_, SqL.of hD⟩, fun D2 hD2 => ?_⟩
      refine lc_m (walk_list (K := K) (a := D') (xs := vs)) (Fz K) stb_Fz (sbt one two i) hvl (by omega) hD2 (fun H' s => s.seq (SqL.of hD)) (fun _ _ _ _ => ys_at) (fun sd => tds (sd ++ [(i : Int)])) (fun k sd x H2 H3 hb s2 s3 y A B hA => ?_) (fun H2 l s2 hl2 rs => ?_)
      · obtain ⟨a, ha1, ha2⟩ := side_at hall hb
        rw [y.2] at ha1
        cases ha1
        exact ⟨rfl, lc_yes ⟨_, rfl, _, rfl, line_ge (by show 1 ≤ 100000; omega), fun z hz => cat_side (Same_seqT (s3.trans (same_new hz _)) ha2) (by have := hshort sd (List.mem_of_getElem? hb); omega) hz rfl fun r H4 s4 hf => hA _ _ ((same_new hz _).trans s4) hf⟩⟩
      · have hll : l.length = (sbt one two i).length := by rw [rs.1, List.length_map]
        refine ⟨_, D2, vs, l, rfl, rfl, s2 _ _ hD, hl2, line_ge (by omega), fun D3 hD3 => ?_⟩
        have s3 := same_new hD3 (.lst (vs ++ l))
        refine ⟨D3, _, rfl, s1.trans (s2.trans s3), _, upd_same, ?_⟩
        show FzAll K _ (vs ++ l) ((sbStep one two (sbt one two i) (i : Int)).map tds)
        unfold sbStep
        rw [if_neg c1, if_neg c2, List.map_append, List.map_map]
        exact fz_append (hall.tk (WK.Same.tk (s2.trans s3))) (rs.fz.tk (WK.Same.tk s3))
  · rintro σ H1 ⟨D, v4, rfl, s1, hsl⟩
    rw [Int.toNat_natCast] at hsl
    exact ⟨_, rfl, q D H1 s1 hsl⟩
end
end P15
/-! <= of nested lists and tuples; min of a list of such things. -/
namespace KC
open PySem PySem.Spec PyProof.Rows L2
open PySem.W (alike dataLt AlikeAll minD)
theorem lt_trans (a b c : PyData) (h1 : dataLt a b = true) (h2 : dataLt b c = true) : dataLt a c = true := lex_trans _ _ _ h1 h2
theorem min_mem (x : PyData) : ∀ xs : List PyData, minD x xs ∈ x :: xs := fun xs => by
  unfold minD
  induction xs generalizing x with
  | nil => exact List.mem_cons_self
  | cons y ys ih =>
    rw [List.foldl_cons]
    have := ih (if dataLt y x then y else x)
    rcases List.mem_cons.mp this with h | h
    · rw [h]
      split
      · exact List.mem_cons_of_mem _ List.mem_cons_self
      · exact List.mem_cons_self
    · exact List.mem_cons_of_mem _ (List.mem_cons_of_mem _ h)
theorem min_least (x : PyData) : ∀ xs : List PyData, ∀ y ∈ x :: xs, dataLt y (minD x xs) = false := fun xs => by
  have key : ∀ (ys : List PyData) (a : PyData) (l : List PyData), (∀ y ∈ l, dataLt y a = false) → ∀ y, (y ∈ l ∨ y ∈ ys ∨ y = a) → dataLt y (ys.foldl (fun a y => if dataLt y a then y else a) a) = false := fun ys => by
    induction ys with
    | nil =>
      intro a l h y hy
      rcases hy with h1 | h1 | h1
      · exact h y h1
      · cases h1
      · rw [h1]; exact PySem.W.dataLt_self _
    | cons z zs ih =>
      intro a l h y hy
      rw [List.foldl_cons]
      refine ih (if dataLt z a then z else a) (a :: z :: l) (fun y hy => ?_) y ?_
      · cases c : dataLt z a with
        | true =>
          show dataLt y z = false
          rcases List.mem_cons.mp hy with e | e
          · cases d : dataLt y z with
            | false => rfl
            | true =>
              have := lt_trans _ _ _ d c
              rw [e, PySem.W.dataLt_self] at this
              cases this
          · rcases List.mem_cons.mp e with e | e
            · rw [e]; exact PySem.W.dataLt_self _
            · cases d : dataLt y z with
              | false => rfl
              | true =>
                have := lt_trans _ _ _ d c
                rw [h y e] at this
                cases this
        | false =>
          show dataLt y a = false
          rcases List.mem_cons.mp hy with e | e
          · rw [e]; exact PySem.W.dataLt_self _
          · rcases List.mem_cons.mp e with e | e
            · rw [e]; exact c
            · exact h y e
      · rcases hy with h1 | h1 | h1
        · exact .inl (List.mem_cons_of_mem _ (List.mem_cons_of_mem _ h1))
        · rcases List.mem_cons.mp h1 with e | e
          · exact .inl (by rw [e]; exact List.mem_cons_of_mem _ List.mem_cons_self)
          · exact .inr (.inl e)
        · exact .inl (by rw [h1]; exact List.mem_cons_self)
  intro y hy
  exact key xs x [] (fun y hy => by cases hy) y (by
    rcases List.mem_cons.mp hy with e | e
    · exact .inr (.inr e)
    · exact .inr (.inl e))
section
variable {X : Cx}
def rLeD (K : PySem.W.Frag) : R2 := fun x y H Q => ∃ d e, Dp K H x d ∧ Dp K H y e ∧ alike d e = true ∧ d ≠ .none ∧ d.depth ≤ 60 ∧ Q (.bl (!dataLt e d)) H
theorem op_leD (hu : X.A.units + 64 < cLine) : OpR X (compareOp .LtE) (rLeD X.K) := by
  intro pins s σ H x y v u Q I rx ry h
  obtain ⟨d, e, hd, he, al, hn, dp, q⟩ := h
  obtain ⟨as, r1⟩ := Dp.reads I d x v hd rx
  obtain ⟨bs, r2⟩ := Dp.reads I e y u he ry
  exact PySem.W.le_data r1 r2 al hn (by omega) ⟨.bl _, H, I, rfl, q⟩
theorem DpAll.get {K : PySem.W.Frag} {H : Hp} : ∀ {vs : List V} {ds : List PyData} {i : Nat} {v : V}, DpAll K H vs ds → vs[i]? = some v → ∃ d, ds[i]? = some d ∧ Dp K H v d
  | _, _, 0, _, .cons a _, h => ⟨_, rfl, by cases h; exact a⟩
  | _, _, i + 1, _, .cons _ r, h => by
    obtain ⟨d, h1, h2⟩ := DpAll.get (i := i) r (by simpa using h)
    exact ⟨d, by simpa using h1, h2⟩
  | _, _, i, _, .nil, h => by simp at h
theorem vals_back : ∀ {vs : List V} {us : List Value} {i : Nat} {u : Value}, Vals vs us → us[i]? = some u → ∃ v, vs[i]? = some v ∧ RelV v u
  | _, _, 0, _, .cons a _, h => ⟨_, rfl, by cases h; exact a⟩
  | _, _, i + 1, _, .cons _ r, h => by
    obtain ⟨d, h1, h2⟩ := vals_back (i := i) r (by simpa using h)
    exact ⟨d, by simpa using h1, h2⟩
  | _, _, i, _, .nil, h => by simp at h
def rMinD (K : PySem.W.Frag) : List V → Hp → VK → Prop := fun vs H Q => ∃ (a : Addr) (xs : List V) (d : PyData) (ds : List PyData), vs = [V.ref a] ∧ SqL K H a xs ∧ DpAll K H xs (d :: ds) ∧ AlikeAll (d :: ds) ∧ PyData.depthAll (d :: ds) ≤ 60 ∧
  ∀ (i : Nat) (v : V) (e : PyData), xs[i]? = some v → (d :: ds)[i]? = some e → (∀ e' ∈ d :: ds, dataLt e' e = false) → Q v H
theorem cr_minD (hc : X.calm = true) (hu : X.A.units + 64 < cLine) : CallR X (.builtin "min") (rMinD X.K) := by
  intro pins s σ H vs us Q I r h
  obtain ⟨a, xs, d, ds, rfl, hs, hd, al, hdep, q⟩ := h
  obtain ⟨its, rv, hl, _⟩ := I.list hs
  rw [Vals.ref1 r]
  obtain ⟨as, hr⟩ := Dp.readsAll I (d :: ds) xs its hd rv
  refine PySem.W.min_list_data (I.ok.hd hc) hl.isList (by simpa using hr) al (by omega) fun i u h' tk bs hu2 hR hk => ?_
  have hu3 : its[i]? = some u := by simpa using hu2
  obtain ⟨v, hv, hrel⟩ := vals_back rv hu3
  obtain ⟨e, he, hde⟩ := DpAll.get hd hv
  obtain ⟨as2, hr2⟩ := Dp.reads I e v u hde hrel
  have e1 : e = minD d ds := PySem.W.alike_unique e (minD d ds) u _ _ (al.1 _ (List.mem_of_getElem? he) _ (min_mem d ds)) (PySem.W.reads_keeps hk hr2) hR
  exact ⟨v, H, I.kept hk, hrel, q i v e hv he (by rw [e1]; exact min_least d ds)⟩
end
end KC
set_option exponentiation.threshold 3000
namespace P15
open PySem PySem.Spec PyProof.Rows L2 SX EX WK
/-- the error that names a place -/
def BadP (C : Addr) (k : Int) (H : Hp) (E : XK) : Prop := ∀ d H', Same H H' → H' d = some (.xd [("place", .int k)]) → E (.ref C) (some d) H'
theorem badp_out {C : Addr} {k : Int} {H : Hp} {E : XK} (q : BadP C k H E) {a dx : Addr} (ha : H a = none) (hdx : upd H a (exo a C none) dx = none) (hne : dx ≠ a) :
    E (.ref C) (some dx) (upd (del (upd (upd (upd H a (exo a C none)) dx (exd dx [("place", V.int k)])) a (exo a C (some dx))) a) dx (.xd [("place", V.int k)])) := by
  have hd : H dx = none := by
    rw [upd_ne hne] at hdx
    exact hdx
  refine q dx _ (fun b o e => ?_) upd_same
  have h1 : b ≠ a := ne_of_none e ha
  have h2 : b ≠ dx := ne_of_none e hd
  rw [upd_ne h2, del_ne h1, upd_ne h1, upd_ne h2, upd_ne h1]
  exact e
def spInitP (C : Addr) : Sp := fun vs H Q _ => ∃ (a : Addr) (v : V), vs = [.ref a, v] ∧ H a = some (exo a C none) ∧ ∀ dx, H dx = none → dx ≠ a → Q .non (upd (upd H dx (exd dx [("place", v)])) a (exo a C (some dx)))
/-! ### the order of what is found -/
open PySem.W (alike alikeAll dataLt AlikeAll)
def tdc (c : Int) (s : List Int) : Td := .tup [.int c, .int (s.length : Nat), tds s]
theorem pys_ints (s : List Int) : Td.pys (s.map Td.int) = s.map PyData.int := by
  rw [pys_eq, List.map_map]
  rfl
theorem alike_ints : ∀ xs ys : List Int, alikeAll (xs.map PyData.int) (ys.map PyData.int) = true
  | [], _ => by simp [alikeAll]
  | _ :: _, [] => by simp [alikeAll]
  | x :: xs, y :: ys => by simp [alikeAll, alike, alike_ints xs ys]
theorem tdc_py (c : Int) (s : List Int) : (tdc c s).py = .tuple [.int c, .int (s.length : Nat), .tuple (s.map PyData.int)] := by
  simp only [tdc, Td.py, Td.pys, pys_ints]
theorem tdc_alike (c c' : Int) (s s' : List Int) : alike (tdc c s).py (tdc c' s').py = true := by
  rw [tdc_py, tdc_py]
  simp [alike, alikeAll, alike_ints]
theorem tdc_lt {c c' : Int} {s s' : List Int} (h : dataLt (tdc c' s').py (tdc c s).py = false) : c < c' ∨ (c = c' ∧ s.length ≤ s'.length) := by
  rw [tdc_py, tdc_py, PySem.W.dataLt_tuple, PySem.W.dataLt_cons (by simp [alike])] at h
  by_cases e : c' = c
  · rw [if_pos (by simp [PyData.eqv, e]), PySem.W.dataLt_cons (by simp [alike])] at h
    refine .inr ⟨e.symm, ?_⟩
    by_cases e2 : s'.length = s.length
    · omega
    · rw [if_neg (by simp [PyData.eqv]; omega), PySem.W.dataLt_int, decide_eq_false_iff_not] at h
      omega
  · rw [if_neg (by simp [PyData.eqv]; exact e), PySem.W.dataLt_int, decide_eq_false_iff_not] at h
    omega
theorem tdc_dep (c : Int) (s : List Int) : (tdc c s).dep ≤ 3 := by
  simp only [tdc, Td.dep, Td.deps]
  have : Td.deps (s.map Td.int) ≤ 0 := deps_all fun t h => by
    obtain ⟨n, _, rfl⟩ := List.mem_map.mp h
    exact Nat.le_refl _
  omega
theorem cut_mul (ts : List T3) {b : Int} (hb : 0 < b) (s : List Int) : cutS ts s = wg ts b * cutS (wt ts b) s := by
  obtain ⟨e1, e2⟩ := cut_wt ts hb s
  rw [e1, Int.mul_ediv_cancel' e2]
theorem cut_cmp (ts : List T3) {b : Int} (hb : 0 < b) {s u : List Int} (h : cutS (wt ts b) s < cutS (wt ts b) u ∨ (cutS (wt ts b) s = cutS (wt ts b) u ∧ s.length ≤ u.length)) : cutS ts s < cutS ts u ∨ (cutS ts s = cutS ts u ∧ s.length ≤ u.length) := by
  have hg : 0 < wg ts b := gf_pos hb _
  rw [cut_mul ts hb s, cut_mul ts hb u]
  rcases h with h | ⟨h1, h2⟩
  · exact .inl (Int.mul_lt_mul_of_pos_left h hg)
  · exact .inr ⟨by rw [h1], h2⟩
theorem sbt_ne (one two : Int) : ∀ n, sbt one two n ≠ []
  | 0 => by unfold sbt; simp
  | n + 1 => by
    have ih := sbt_ne one two n
    unfold sbt sbStep
    split
    · intro h
      exact ih (List.map_eq_nil_iff.mp h)
    · split
      · exact ih
      · intro h
        exact ih (List.append_eq_nil_iff.mp h).1
section
variable {P : Program} {w : World} {K : PySem.W.Frag} {mg : Str → Option Value} {base : Heap} {f : Addr} {fd : FuncData} {cF cR cW cT cG cC cE cP cS cH fT fG fP : Addr} {fdP : FuncData}
abbrev s_iSP : Stmt := mth 11 0
abbrev N_iSP : List Str := ["self", "place"]
theorem sc_iSP : FnScope N_iSP ["self", "place"] (defScope s_iSP) := ⟨rfl, rfl, rfl, by decide +kernel, rfl, by decide +kernel, by decide +kernel⟩
theorem ok_iSP (F : Fun K "__init__" "SamePlace.__init__" s_iSP f fd) (U : Err K mg cF cR cW cT cG cC cE cP cS cH fT fG fP) : FnOk P w K mg base CX0 1 f fd ["self", "place"] (spInitP cP) := by
  refine F.ok sc_iSP (fun vs H Q E h => ?_) (fun cdv A outer s H vs Q E hr h => ?_)
  · obtain ⟨a, v, rfl, _⟩ := h
    rfl
  obtain ⟨a, v, rfl, ha, q⟩ := h
  refine ⟨_, (pss_one (ps_ost (pv 0) (pv 1))), ?_⟩
  exact ⟨_, rfl, _, rfl, a, cP, rfl, U.o_SamePlace, U.no_SamePlace_place, .inl ⟨ha, q⟩⟩
def spLeast2 (K : PySem.W.Frag) (cF cR cW cP : Addr) : Sp := fun vs H Q E => ∃ (p : Addr) (pl : Nat) (ts : List T3) (b one two : Int), vs = [.ref p, .int one, .int two] ∧ WebAt K H cF cR cW p pl ts b ∧ TOk pl ts b ∧ pl ≤ 10 ∧ (one = two → BadP cP one H E) ∧
  (one ≠ two → ∀ r fr a s H', Same H H' → H' r = some (.tup [.ref fr, .ref a]) → LwAt H' fr (cutS ts s) b → SqT K H' a (s.map V.int) → s ∈ sbt one two pl → (∀ u ∈ sbt one two pl, cutS ts s < cutS ts u ∨ (cutS ts s = cutS ts u ∧ s.length ≤ u.length)) → Q (.ref r) H')
abbrev s_least_cut : Stmt := top 25
abbrev N_least_cut : List Str := ["web", "one", "two", "found", "least", "side"]
theorem sc_least_cut : FnScope N_least_cut ["web", "one", "two"] (defScope s_least_cut) := ⟨rfl, rfl, rfl, by decide +kernel, rfl, by decide +kernel, by decide +kernel⟩
theorem ok_least_cut (F : Fun K "least_cut" "least_cut" s_least_cut f fd) (T : Txt mg) (U : Err K mg cF cR cW cT cG cC cE cP cS cH fT fG fP) (O2 : ObW K cW) (IN_SamePlace : FnOk P w K mg base CX0 1 fP fdP ["self", "place"] (spInitP cP)) (B_SamePlace : Binds K fdP ["self", "place"] [])
    (C_fraction : Cal P w K mg base 1 "fraction" ["top", "bottom"] spFraction) (C_leaving : Cal P w K mg base 1 "leaving" ["web", "side"] (spLeav K cF cR cW)) (C_sides_between : Cal P w K mg base 1 "sides_between" ["places", "one", "two"] (spSB K)) :
    FnOk P w K mg base (L2N.CX P w) 4 f fd ["web", "one", "two"] (spLeast2 K cF cR cW cP) := by
  refine okR F sc_least_cut (fun vs H Q E h => ?_) (fun cdv A outer s H vs Q E hr h => ?_)
  · obtain ⟨p, pl, ts, b, one, two, rfl, _⟩ := h
    rfl
  obtain ⟨p, pl, ts, b, one, two, rfl, hw, hok, hpl, qE, q⟩ := h
  refine ⟨_, (pss_cons (ps_if (pt_cmpR op_eq (pv 1) (pv 2) (nomark _)) (pss_one (L2N.ps_raise rfl (L2N.takes_of rfl rfl rfl rfl) (pmkI U.o_SamePlace U.i_SamePlace U.t_SamePlace IN_SamePlace (hr.mono (by omega)) B_SamePlace passN rfl U.g_SamePlace (pa_cons (pv 1) pa_nil)))) pss_nil)
  (pss_cons (ps_setLc (i := 3) (own := [("side", 5)]) (g := gName 5) (tt := tYes) (by rfl) sc_least_cut.nd rfl rfl (sw_true rfl rfl rfl (by decide +kernel)) (pi_list (pe_cal C_sides_between (hr.mono (by omega)) rfl (pa_cons (pe_fld (pv 0) rfl) (pa_cons (pv 1) (pa_cons (pv 2) pa_nil))))) (blkOk_by (N := N_least_cut) (sc := defScope s_least_cut) (by decide +kernel)) (fun _ _ _ _ _ => (pg_name (i := 5) sc_least_cut.nd rfl (Or.inl rfl))) (fun _ _ _ _ _ => pts_nil) (fun _ _ _ _ _ => (pe_tup (pa_cons (pe_cal C_leaving (hr.mono (by omega)) rfl (pa_cons (pv 0) (pa_cons (pv 5) pa_nil))) (pa_cons (pe_callB (call_len_seqK (K := K) rfl) (by rfl) T.b_len PySem.boot_len (pa_cons (pv 5) pa_nil)) (pa_cons (pv 5) pa_nil))))))
  (pss_cons (ps_set (i := 4) sc_least_cut.nd rfl (Or.inl rfl) (pe_callB (KC.cr_minD rfl hr.units) (by rfl) T.b_min (by decide +kernel) (pa_cons (pv 3) pa_nil)))
  (pss_one (ps_ret (pe_tup (pa_cons (pe_cal C_fraction (hr.mono (by omega)) rfl (pa_cons (pe_ix ix_tup (pv 4) pe_int (fun _ _ => rfl)) (pa_cons (pe_fld (pv 0) rfl) pa_nil))) (pa_cons (pe_ix ix_tup (pv 4) pe_int (fun _ _ => rfl)) pa_nil)))))))), ?_⟩
  have hb := hok.bot
  have hlow := hok.low
  by_cases hne : one = two
  · refine ⟨_, rfl, _, rfl, rfl, _, rfl, ifT (int_eq hne) ?_⟩
    exact ⟨_, rfl, by show 1 ≤ 1000; decide, fun a ha => ⟨a, _, rfl, upd_same, fun dx hdx hne => ⟨rfl, dx, [("place", V.int one)], upd_same, by rw [upd_ne hne, upd_same], by
        have := hdx
        rw [upd_ne hne] at this
        exact this, badp_out (qE ‹_›) ha hdx hne⟩⟩⟩
  refine ⟨_, rfl, _, rfl, rfl, _, rfl, ifF (int_ne hne) ?_⟩
  obtain ⟨dx, e, R1, F1, hi, hz, _⟩ := id hw
  refine ⟨_, rfl, p, cW, dx, _, _, rfl, hi, O2.clW, O2.W_places, lkWp _ _ _ _ _, _, rfl, _, rfl, pl, one, two, rfl, hpl, fun D H1 s1 hsl => ?_⟩
  obtain ⟨vs, hD, hall⟩ := id hsl
  have hvl : vs.length = (sbt one two pl).length := by rw [hall.len, List.length_map]
  have h1024 : (sbt one two pl).length ≤ 1024 := Nat.le_trans (sbt_len one two pl) (Nat.pow_le_pow_right (by decide) hpl)
  refine ⟨D, rfl, ⟨_, SqL.of hD⟩, fun D2 hD2 => ?_⟩
  refine lc_m (walk_list (K := K) (a := D) (xs := vs)) (Fz K) stb_Fz (sbt one two pl) hvl (by omega) hD2 (fun H' s => s.seq (SqL.of hD)) (fun _ _ _ _ => ys_at) (fun sd => tdc (cutS (wt ts b) sd) sd) (fun k sd x H2 H3 hb1 s2 s3 y A B hA => ?_) (fun H2 l s2 hl2 rs => ?_)
  · obtain ⟨a, ha1, ha2⟩ := side_at hall hb1
    rw [y.2] at ha1
    cases ha1
    have s13 := s1.trans s3
    refine ⟨rfl, lc_yes ⟨_, rfl, _, rfl, p, a, pl, ts, b, sd, rfl, hw.same s13, Same_seqT s3 ha2, hok.len, fun H4 s4 => ?_⟩⟩
    have ha4 := Same_seqT (s3.trans s4) ha2
    refine ⟨_, rfl, a, _, rfl, .inr ha4, _, rfl, three_line, fun z hz => ?_⟩
    have s5 := same_new hz (.tup [V.int (cutS (wt ts b) sd), V.int (((sd.map V.int).length : Nat) : Int), V.ref a])
    refine hA _ _ (s4.trans s5) (.tup (SqT.of upd_same) (.cons (.int _) (.cons ?_ (.cons (.tup (Same_seqT s5 ha4) (FzAll.of_ints _)) .nil))))
    rw [List.length_map]
    exact .int _
  have hz2 := rs.fz
  obtain ⟨x0, xs0, e0⟩ : ∃ x xs, sbt one two pl = x :: xs := by
    cases h : sbt one two pl with
    | nil => exact absurd h (sbt_ne one two pl)
    | cons x xs => exact ⟨x, xs, rfl⟩
  have hdp := fzall_dp hz2
  rw [pys_eq, List.map_map] at hdp
  have hmem : ∀ d ∈ (sbt one two pl).map (Td.py ∘ fun sd => tdc (cutS (wt ts b) sd) sd), ∃ u ∈ sbt one two pl, d = (tdc (cutS (wt ts b) u) u).py := fun d hd => by
    obtain ⟨u, hu, rfl⟩ := List.mem_map.mp hd
    exact ⟨u, hu, rfl⟩
  have hal : AlikeAll ((sbt one two pl).map (Td.py ∘ fun sd => tdc (cutS (wt ts b) sd) sd)) := by
    refine ⟨fun d hd d' hd' => ?_, fun d hd => ?_⟩
    · obtain ⟨u, _, rfl⟩ := hmem d hd
      obtain ⟨u', _, rfl⟩ := hmem d' hd'
      exact tdc_alike _ _ _ _
    · obtain ⟨u, _, rfl⟩ := hmem d hd
      rw [tdc_py]
      exact fun h => by cases h
  have hdepth : PyData.depthAll ((sbt one two pl).map (Td.py ∘ fun sd => tdc (cutS (wt ts b) sd) sd)) ≤ 60 := by
    have h1 := td_deps ((sbt one two pl).map fun sd => tdc (cutS (wt ts b) sd) sd)
    rw [pys_eq, List.map_map] at h1
    have h2 : Td.deps ((sbt one two pl).map fun sd => tdc (cutS (wt ts b) sd) sd) ≤ 3 := deps_all fun t h => by
      obtain ⟨u, _, rfl⟩ := List.mem_map.mp h
      exact tdc_dep _ _
    omega
  rw [e0, List.map_cons] at hdp hal hdepth
  have hi2 := (s1.trans s2) _ _ hi
  refine ⟨_, rfl, D2, l, _, _, rfl, SqL.of hl2, hdp, hal, hdepth, fun i v d hv hd hmin => ?_⟩
  rw [← List.map_cons (f := Td.py ∘ fun sd => tdc (cutS (wt ts b) sd) sd), ← e0] at hd hmin
  obtain ⟨sd, hsd⟩ : ∃ sd, (sbt one two pl)[i]? = some sd := by
    rw [List.getElem?_map] at hd
    cases h : (sbt one two pl)[i]? with
    | none => rw [h] at hd; cases hd
    | some sd => exact ⟨sd, rfl⟩
  rw [List.getElem?_map, hsd] at hd
  cases hd
  have hsm := List.mem_of_getElem? hsd
  obtain ⟨t, ht, hzt⟩ := hz2.get hv
  rw [List.getElem?_map, hsd] at ht
  cases ht
  cases hzt with
  | @tup g us _ hg hus =>
  cases hus with
  | cons h1 h2 =>
  cases h2 with
  | cons h3 h4 =>
  cases h4 with
  | cons h5 h6 =>
  cases h6
  cases h1
  cases h3
  obtain ⟨a, rfl, ha⟩ := fz_ints h5
  refine ⟨_, rfl, g, _, 0, _, rfl, rfl, hg, at_pos (by decide) rfl, _, rfl, p, cW, dx, _, _, rfl, hi2, O2.clW, O2.W_bottom, lkWb _ _ _ _ _, _, _, rfl, wb_pos hb, (wb_B hb hok.bB).mono (by omega), fun fr H4 s4 hfr => ?_⟩
  refine ⟨_, rfl, g, _, 2, _, rfl, rfl, Same_seqT s4 hg, at_pos (by decide) rfl, two_line, fun r hr5 => ?_⟩
  have s5 := same_new hr5 (.tup [V.ref fr, V.ref a])
  refine q hne r fr a sd _ (s1.trans (s2.trans (s4.trans s5))) upd_same ((cut_frac ts hb sd hfr).same s5) (Same_seqT (s4.trans s5) ha) hsm fun u hu => ?_
  exact cut_cmp ts hb (tdc_lt (hmin _ (List.mem_map.mpr ⟨u, hu, rfl⟩)))
end
end P15
set_option exponentiation.threshold 3000
namespace P15
open PySem PySem.Spec PyProof.Rows L2 SX EX WK
theorem units65 {k : Nat} {A : Around} (r : Room k A) : A.units + 65 < cLine := by have := r.un; omega
theorem fr_dp {K : PySem.W.Frag} {H : Hp} {r : Addr} {t b : Int} (h : FrAt H r t b) : Dp K H (.ref r) (Td.tup [.int t, .int b]).py := (Fz.tup (SqT.of h) (.cons (.int _) (.cons (.int _) .nil)) : Fz K H (.ref r) (.tup [.int t, .int b])).dp
theorem fr_shaped (t b : Int) : SeqAt.shaped (Td.tup [.int t, .int b]).py = true := td_shaped (by simp [Td.dep, Td.deps])
theorem tds_dep (s : List Int) : (tds s).dep ≤ 1 := by
  simp only [tds, Td.dep]
  have : Td.deps (s.map Td.int) ≤ 0 := deps_all fun t h => by
    obtain ⟨n, _, rfl⟩ := List.mem_map.mp h
    exact Nat.le_refl _
  omega
theorem tds_shaped (s : List Int) : SeqAt.shaped (tds s).py = true := td_shaped (by have := tds_dep s; omega)
theorem tds_ne {u s : List Int} (h : u ≠ s) : PyData.eqv (tds u).py (tds s).py = false := by
  refine Bool.eq_false_iff.mpr fun e => h ?_
  have e2 := (td_eqv _ _).mp e
  injection e2 with e3
  exact (List.map_inj_right fun x y hxy => by injection hxy).mp e3
theorem ss_shaped (ss : List (List Int)) : SeqAt.shaped (.list (Td.pys (ss.map tds))) = true := by
  unfold SeqAt.shaped
  rw [Bool.and_eq_true]
  constructor
  · simp only [PyData.canLay0]
    exact td_lays _
  · refine decide_eq_true ?_
    have h1 := td_deps (ss.map tds)
    have h2 : Td.deps (ss.map tds) ≤ 1 := deps_all fun t h => by
      obtain ⟨p, _, rfl⟩ := List.mem_map.mp h
      exact tds_dep _
    simp only [PyData.depth]
    omega
theorem SL.dp {K : PySem.W.Frag} {H : Hp} {a : Addr} {ss : List (List Int)} (h : SL K H a ss) : Dp K H (.ref a) (.list (Td.pys (ss.map tds))) := let ⟨_, h1, h2⟩ := h; .lst (SqL.of h1) (fzall_dp h2)
theorem low_ok {t b : Int} (hb : 0 < b) : 1 ≤ b / gI t b ∧ gI (t / gI t b) (b / gI t b) = 1 := ⟨quot_pos (gI_pos' hb) gI_dvd2 (by omega), gI_one hb⟩
theorem low_B {k : Nat} {t b : Int} (hb : 0 < b) (h : B k b) : B k (b / gI t b) := B.div (gI_pos' hb) h
section
variable {P : Program} {w : World} {K : PySem.W.Frag} {mg : Str → Option Value} {base : Heap} {f : Addr} {fd : FuncData} {cF cR cW cT cG cC cE cP cS cH fT fG fP : Addr}
def spLCut (K : PySem.W.Frag) : Sp := fun vs H Q _ => ∃ (c a : Addr) (ts : List T3) (s : List Int), vs = [.ref c, .ref a] ∧ TL K H c ts ∧ (SqL K H a (s.map V.int) ∨ SqT K H a (s.map V.int)) ∧ ts.length ≤ 1000 ∧ ∀ H', Same H H' → Q (.int (cutS ts s)) H'
theorem or_same {H H' : Hp} {a : Addr} {xs : List V} (e : Same H H') (h : SqL K H a xs ∨ SqT K H a xs) : SqL K H' a xs ∨ SqT K H' a xs := h.imp (fun h => e.seq h) (fun h => Same_seqT e h)
abbrev s__law_cut : Stmt := top 54
abbrev N__law_cut : List Str := ["ties", "side", "tie"]
theorem sc__law_cut : FnScope N__law_cut ["ties", "side"] (defScope s__law_cut) := ⟨rfl, rfl, rfl, by decide +kernel, rfl, by decide +kernel, by decide +kernel⟩
theorem ok__law_cut (F : Fun K "_law_cut" "_law_cut" s__law_cut f fd) (T : Txt mg) : FnOk P w K mg base CX0 1 f fd ["ties", "side"] (spLCut K) := by
  refine F.ok sc__law_cut (fun vs H Q E h => ?_) (fun cdv A outer s H vs Q E hr h => ?_)
  · obtain ⟨c, a, ts, sd, rfl, _⟩ := h
    rfl
  obtain ⟨c, a, ts, sd, rfl, hts, hs, hlen, q⟩ := h
  refine ⟨_, (pss_one (ps_ret (pe_callB (cr_sum rfl) (by rfl) T.b_sum (by decide +kernel) (pa_cons (pe_lc (own := [("tie", 2)]) (g := gName 2) (by rfl) sc__law_cut.nd (pi_list (pv 0)) (blkOk_by (N := N__law_cut) (sc := defScope s__law_cut) (by decide +kernel)) (fun _ _ _ _ _ => (pg_name (i := 2) sc__law_cut.nd rfl (Or.inl rfl))) (fun _ _ _ _ _ => (pts_one (pt_cmpR op_ne (pe_cmpR (op_in_seqK (K := K) rfl) (pe_ix (ix_tupK (K := K) rfl) (pv 2) pe_int (fun _ _ => rfl)) (pv 1) (by rfl)) (pe_cmpR (op_in_seqK (K := K) rfl) (pe_ix (ix_tupK (K := K) rfl) (pv 2) pe_int (fun _ _ => rfl)) (pv 1) (by rfl)) (nomark _)))) (fun _ _ _ _ _ => (pe_ix (ix_tupK (K := K) rfl) (pv 2) pe_int (fun _ _ => rfl)))) pa_nil)))), ?_⟩
  obtain ⟨vs, hc, hvl, hall, hrow⟩ := hts.at
  refine ⟨_, rfl, c, rfl, ⟨_, SqL.of hc⟩, fun D hD => ?_⟩
  refine lc_f (walk_list (K := K) (a := c) (xs := vs)) RI (stb_RI (K := K)) ts hvl (by omega) hD (fun H' s => s.seq (SqL.of hc)) (fun _ _ _ _ => ys_at) (fun t => if lvs sd t = true then some t.2.2 else none) (fun k t1 v H5 H6 hb1 s5 s6 y A B hA hBn => ?_) (fun H5 l s5 hl5 rs2 => ?_)
  · obtain ⟨r, hr1, hr2⟩ := hrow k t1 hb1
    rw [y.2] at hr1
    cases hr1
    have hr6 := Same_seqT s6 hr2
    have hs6 := or_same s6 hs
    refine ⟨rfl, ⟨_, rfl, r, _, 0, _, rfl, rfl, hr6, at_pos (by decide) rfl, _, rfl, a, _, rfl, hs6, rfl, flat_ints _, _, rfl, r, _, 1, _, rfl, rfl, hr6, at_pos (by decide) rfl, _, rfl, a, _, rfl, hs6, rfl, flat_ints _, rfl, _, rfl, ?_⟩⟩
    rw [inV_ints, inV_ints]
    show if (!decide (V.bl (decide (t1.1 ∈ sd)) = V.bl (decide (t1.2.1 ∈ sd)))) = true then _ else _
    rw [ne_bl]
    by_cases e1 : lvs sd t1 = true
    · exact ifT e1 ⟨_, rfl, r, _, 2, _, rfl, rfl, hr6, at_pos (by decide) rfl, hA _ _ _ (if_pos e1) (fun _ _ h => h) rfl⟩
    · exact ifF (Bool.eq_false_iff.mpr e1) (hBn (if_neg e1) _ fun _ _ h => h)
  have e := rs2.ints
  rw [filterMap_if (lvs sd) (fun t => t.2.2)] at e
  exact ⟨D, _, rfl, SqL.of (by rw [hl5, e]), q _ s5⟩
def spLR (K : PySem.W.Frag) (cF cR cW : Addr) : Sp := fun vs H Q _ => ∃ (p dr : Addr) (pl : Nat) (ts : List T3) (b one two : Int), vs = [.ref p, .ref dr, .int one, .int two] ∧ WebAt K H cF cR cW p pl ts b ∧ DrW K H dr pl ts b ∧ TOk pl ts b ∧ pl ≤ 10 ∧ one ≠ two ∧ ∀ H', Same H H' → Q (.bl true) H'
abbrev s__law_least_right : Stmt := top 56
abbrev N__law_least_right : List Str := ["web", "drawn", "one", "two", "told", "every", "least", "side", "other"]
theorem sc__law_least_right : FnScope N__law_least_right ["web", "drawn", "one", "two"] (defScope s__law_least_right) := ⟨rfl, rfl, rfl, by decide +kernel, rfl, by decide +kernel, by decide +kernel⟩
theorem ok__law_least_right (F : Fun K "_law_least_right" "_law_least_right" s__law_least_right f fd) (T : Txt mg) (C0_least_cut : Cal P w K mg base 4 "least_cut" ["web", "one", "two"] (fun vs H Q _ => spLeast2 K cF cR cW cP vs H Q E0)) (C__law_is_fraction : Cal P w K mg base 2 "_law_is_fraction" ["value"] spFrac)
    (C__law_sides_between : Cal P w K mg base 1 "_law_sides_between" ["places", "one", "two"] (spSB K)) (C__law_is_point : Cal P w K mg base 2 "_law_is_point" ["value", "size"] (spIsPoint K)) (C__law_cut : Cal P w K mg base 1 "_law_cut" ["ties", "side"] (spLCut K)) (C__law_least : Cal P w K mg base 2 "_law_least" ["top", "base"] spLeast) :
    FnOk P w K mg base CX0 5 f fd ["web", "drawn", "one", "two"] (spLR K cF cR cW) := by
  refine F.ok sc__law_least_right (fun vs H Q E h => ?_) (fun cdv A outer s H vs Q E hr h => ?_)
  · obtain ⟨p, dr, pl, ts, b, one, two, rfl, _⟩ := h
    rfl
  obtain ⟨p, dr, pl, ts, b, one, two, rfl, hw, hdr, hok, hpl, hne, q⟩ := h
  refine ⟨_, (pss_cons (ps_set (i := 4) sc__law_least_right.nd rfl (Or.inl rfl) (pe_cal C0_least_cut (hr.mono (by omega)) rfl (pa_cons (pv 0) (pa_cons (pv 2) (pa_cons (pv 3) pa_nil)))))
  (pss_cons (ps_if (PW.pt (pw_or (pt_not (pt_val (pe_callB call_isi (by rfl) T.b_isinstance (by decide +kernel) (pa_cons (pv 4) (pa_cons (pe_bltn (v := .ty "tuple") (by rfl) T.b_tuple (by decide +kernel) rfl) pa_nil))))) (pw_or (pt_cmpR op_ne (pe_callB call_len_seq (by rfl) T.b_len PySem.boot_len (pa_cons (pv 4) pa_nil)) pe_int (nomark _)) (pw_or1 (pt_not (pt_val (pe_cal C__law_is_fraction (hr.mono (by omega)) rfl (pa_cons (pe_ix ix_tup (pv 4) pe_int (fun _ _ => rfl)) pa_nil)))))))) (pss_one (ps_ret pe_bl)) pss_nil)
  (pss_cons (ps_set (i := 5) sc__law_least_right.nd rfl (Or.inl rfl) (pe_cal C__law_sides_between (hr.mono (by omega)) rfl (pa_cons (pe_ix ix_list (pv 1) pe_int (fun _ _ => rfl)) (pa_cons (pv 2) (pa_cons (pv 3) pa_nil)))))
  (pss_cons (ps_if (PW.pt (pw_or (pt_not (pt_val (pe_callB call_isi (by rfl) T.b_isinstance (by decide +kernel) (pa_cons (pe_ix ix_tup (pv 4) pe_int (fun _ _ => rfl)) (pa_cons (pe_bltn (v := .ty "tuple") (by rfl) T.b_tuple (by decide +kernel) rfl) pa_nil))))) (pw_or (pt_not (pt_val (pe_cal C__law_is_point (hr.mono (by omega)) rfl (pa_cons (pe_ix ix_tup (pv 4) pe_int (fun _ _ => rfl)) (pa_cons (pe_callB call_len_seq (by rfl) T.b_len PySem.boot_len (pa_cons (pe_ix ix_tup (pv 4) pe_int (fun _ _ => rfl)) pa_nil)) pa_nil))))) (pw_or1 (pt_cmpR (op_notInD (units65 hr)) (pe_ix ix_tup (pv 4) pe_int (fun _ _ => rfl)) (pv 5) (by rfl)))))) (pss_one (ps_ret pe_bl)) pss_nil)
  (pss_cons (ps_set (i := 6) sc__law_least_right.nd rfl (Or.inl rfl) (pe_cal C__law_cut (hr.mono (by omega)) rfl (pa_cons (pe_ix ix_list (pv 1) pe_int (fun _ _ => rfl)) (pa_cons (pe_ix ix_tup (pv 4) pe_int (fun _ _ => rfl)) pa_nil))))
  (pss_cons (ps_if (pt_cmpR (op_neD hr.units) (pe_ix ix_tup (pv 4) pe_int (fun _ _ => rfl)) (pe_cal C__law_least (hr.mono (by omega)) rfl (pa_cons (pv 6) (pa_cons (pe_ix ix_list (pv 1) pe_int (fun _ _ => rfl)) pa_nil))) (nomark _)) (pss_one (ps_ret pe_bl)) pss_nil)
  (pss_cons (ps_for PassesOwn.never rfl (pi_list (pv 5)) (pg_name (i := 7) sc__law_least_right.nd rfl (Or.inl rfl)) (pss_cons (ps_set (i := 8) sc__law_least_right.nd rfl (Or.inl rfl) (pe_cal C__law_cut (hr.mono (by omega)) rfl (pa_cons (pe_ix ix_list (pv 1) pe_int (fun _ _ => rfl)) (pa_cons (pv 7) pa_nil))))
  (pss_one (ps_if (PW.pt (pw_or (pt_cmpR op_lt (pv 8) (pv 6) (nomark _)) (pw_or1 (PW.pt (pw_and (pt_cmpR op_eq (pv 8) (pv 6) (nomark _)) (pw_and (pt_cmpR (op_neD hr.units) (pv 7) (pe_ix ix_tup (pv 4) pe_int (fun _ _ => rfl)) (nomark _)) (pw_and1 (pt_cmpR op_le (pe_callB call_len_seq (by rfl) T.b_len PySem.boot_len (pa_cons (pv 7) pa_nil)) (pe_callB call_len_seq (by rfl) T.b_len PySem.boot_len (pa_cons (pe_ix ix_tup (pv 4) pe_int (fun _ _ => rfl)) pa_nil)) (nomark _))))))))) (pss_one (ps_ret pe_bl)) pss_nil))))
  (pss_one (ps_ret pe_bl))))))))), ?_⟩
  have hb := hok.bot
  obtain ⟨c, hd, hts⟩ := id hdr
  refine ⟨_, rfl, _, rfl, _, rfl, p, pl, ts, b, one, two, rfl, hw, hok, hpl, fun e => absurd e hne, fun _ r fr a sd H1 s1 hr1 hfr ha hsd hmin => ?_⟩
  have hrt : SqT K H1 r [V.ref fr, V.ref a] := SqT.of hr1
  refine ⟨_, rfl, _, _, _, _, true, rfl, .ty _, ty_tup hrt, kit6, true, rfl, ifF rfl ?_⟩
  refine ⟨_, rfl, r, _, rfl, .inr hrt, rfl, _, rfl, ifF rfl ?_⟩
  refine ⟨_, rfl, r, _, 0, _, rfl, rfl, hrt, at_pos (by decide) rfl, fr, _, _, rfl, hfr, (low_ok hb).1, low_B hb (hok.bB.mono (by omega)), (low_ok hb).2, true, rfl, ifF rfl ?_⟩
  refine ⟨_, rfl, dr, _, 0, _, rfl, rfl, SqL.of (s1 _ _ hd), at_pos (by decide) rfl, _, rfl, _, rfl, pl, one, two, rfl, hpl, fun ev H2 s2 hev => ?_⟩
  have s12 := s1.trans s2
  have hr2 := Same_seqT s2 hrt
  have ha2 := Same_seqT s2 ha
  refine ⟨_, rfl, r, _, 1, _, rfl, rfl, hr2, at_pos (by decide) rfl, _, _, _, _, true, rfl, .ty _, ty_tup ha2, kit6, true, rfl, ifF rfl ?_⟩
  refine ⟨_, rfl, r, _, 1, _, rfl, rfl, hr2, at_pos (by decide) rfl, _, rfl, r, _, 1, _, rfl, rfl, hr2, at_pos (by decide) rfl, a, _, rfl, .inr ha2, a, (sd.map V.int).length, (fun i => sd.getD i 0), rfl, ?_, ?_, fun H3 s3 => ⟨true, rfl, ifF rfl ?_⟩⟩
  · rw [← vec_of (n := (sd.map V.int).length) (by rw [List.length_map])]
    exact ha2
  · have := sbt_short one two pl sd hsd
    rw [List.length_map]
    omega
  have s13 := s12.trans s3
  have hr3 := Same_seqT s3 hr2
  have ha3 := Same_seqT s3 ha2
  have hev3 := hev.same s3
  refine ⟨_, rfl, r, _, 1, _, rfl, rfl, hr3, at_pos (by decide) rfl, _, rfl, _, _, (Fz.tup ha3 (FzAll.of_ints sd) : Fz K H3 (.ref a) (tds sd)).dp, hev3.dp, tds_shaped sd, ss_shaped _, _, rfl, ifF ?_ ?_⟩
  · rw [Bool.not_eq_false']
    refine List.any_eq_true.mpr ⟨(tds sd).py, ?_, eqv_self (tds_shaped sd)⟩
    rw [pys_eq, List.map_map]
    exact List.mem_map.mpr ⟨sd, hsd, rfl⟩
  refine ⟨_, rfl, dr, _, 1, _, rfl, rfl, SqL.of (s13 _ _ hd), at_pos (by decide) rfl, _, rfl, r, _, 1, _, rfl, rfl, hr3, at_pos (by decide) rfl, c, a, ts, sd, rfl, hts.same s13, .inr ha3, hok.len, fun H4 s4 => ?_⟩
  have s14 := s13.trans s4
  have hr4 := Same_seqT s4 hr3
  have ha4 := Same_seqT s4 ha3
  refine ⟨_, rfl, r, _, 0, _, rfl, rfl, hr4, at_pos (by decide) rfl, _, rfl, _, rfl, dr, _, 2, _, rfl, rfl, SqL.of (s14 _ _ hd), at_pos (by decide) rfl, _, b, rfl, hb, hok.bB.mono (by omega), fun r2 H5 s5 hr2' => ?_⟩
  refine ⟨_, _, fr_dp (FrAt.same (s2.trans (s3.trans (s4.trans s5))) hfr), fr_dp hr2', fr_shaped _ _, fr_shaped _ _, _, rfl, ifF (by rw [eqv_self (fr_shaped _ _)]; rfl) ?_⟩
  have s15 := s14.trans s5
  have hr5 := Same_seqT s5 hr4
  have ha5 := Same_seqT s5 ha4
  obtain ⟨vs, hv5, hall5⟩ := hev3.same (s4.trans s5)
  have hvl : vs.length = (sbt one two pl).length := by rw [hall5.len, List.length_map]
  refine ⟨_, rfl, ev, rfl, ⟨_, SqL.of hv5⟩, for_list (K := K) (a := ev) (xs := vs) (fun i σ H' => ∃ v7 v8 : Option V, σ = [some (.ref p), some (.ref dr), some (.int one), some (.int two), some (.ref r), some (.ref ev), some (.int (cutS ts sd)), v7, v8] ∧ Same H5 H') ⟨none, none, rfl, fun _ _ h => h⟩ (fun i σ H' _ ⟨_, _, _, s⟩ => SqL.of (s _ _ hv5)) ?_ ?_⟩
  · rintro i x σ H6 hx ⟨v7, v8, rfl, s6⟩
    obtain ⟨u, hu⟩ : ∃ u, (sbt one two pl)[i]? = some u := ⟨_, List.getElem?_eq_getElem (by have := (List.getElem?_eq_some_iff.mp hx).1; omega)⟩
    obtain ⟨au, hau, hau2⟩ := side_at hall5 hu
    rw [hx] at hau
    cases hau
    have hum := List.mem_of_getElem? hu
    have s16 := s15.trans s6
    have hau6 := Same_seqT s6 hau2
    refine ⟨_, rfl, dr, _, 1, _, rfl, rfl, SqL.of (s16 _ _ hd), at_pos (by decide) rfl, _, rfl, c, au, ts, u, rfl, hts.same s16, .inr hau6, hok.len, fun H7 s7 => ?_⟩
    have s57 := s6.trans s7
    have hau7 := Same_seqT s7 hau6
    have hr7 := Same_seqT s57 hr5
    have ha7 := Same_seqT s57 ha5
    have hcmp := hmin u hum
    refine ⟨_, rfl, _, rfl, _, _, rfl, rfl, _, rfl, ifF (decide_eq_false (by omega)) ?_⟩
    refine ⟨_, rfl, _, rfl, rfl, _, rfl, ?_⟩
    by_cases c1 : cutS ts u = cutS ts sd
    · refine ifT (int_eq c1) ?_
      refine ⟨_, rfl, _, rfl, r, _, 1, _, rfl, rfl, hr7, at_pos (by decide) rfl, _, _, (Fz.tup hau7 (FzAll.of_ints u) : Fz K H7 (.ref au) (tds u)).dp, (Fz.tup ha7 (FzAll.of_ints sd) : Fz K H7 (.ref a) (tds sd)).dp, tds_shaped u, tds_shaped sd, _, rfl, ?_⟩
      by_cases c2 : u = sd
      · subst c2
        exact ifF (by rw [eqv_self (tds_shaped u)]; rfl) (ifF rfl ⟨_, _, rfl, s57⟩)
      · refine ifT (by rw [tds_ne c2]; rfl) ?_
        refine ⟨_, rfl, au, _, rfl, .inr hau7, _, rfl, r, _, 1, _, rfl, rfl, hr7, at_pos (by decide) rfl, a, _, rfl, .inr ha7, _, _, rfl, rfl, _, rfl, ifF (decide_eq_false ?_) ⟨_, _, rfl, s57⟩⟩
        rw [List.length_map, List.length_map]
        intro hle
        exact c2 (least_one hne hok.ok hsd hum hmin c1 (by omega))
    · refine ifF (int_ne c1) ?_
      exact ifF rfl ⟨_, _, rfl, s57⟩
  · rintro σ H6 ⟨v7, v8, rfl, s6⟩
    exact q _ (s15.trans s6)
end
end P15
set_option exponentiation.threshold 3000
namespace P15
open PySem PySem.Spec PyProof.Rows L2 SX EX WK
theorem kit4 {K : PySem.W.Frag} {x a b c d : Value} (h1 : PySem.W.kitOne K x a = some false) (h2 : PySem.W.kitOne K x b = some false) (h3 : PySem.W.kitOne K x c = some false) (h4 : PySem.W.kitOne K x d = some false) : PySem.W.kitAny K x [a, b, c, d] = some false := by
  unfold PySem.W.kitAny
  rw [h1]
  unfold PySem.W.kitAny
  rw [h2]
  unfold PySem.W.kitAny
  rw [h3]
  unfold PySem.W.kitAny
  rw [h4]
  rfl
section
variable {P : Program} {w : World} {K : PySem.W.Frag} {mg : Str → Option Value} {base : Heap} {f : Addr} {fd : FuncData} {cF cR cW cT cG cC cE cP cS cH fT fG fP : Addr}
def spSame (K : PySem.W.Frag) (cF cR cW : Addr) : Sp := fun vs H Q _ => ∃ (p : Addr) (pl : Nat) (ts : List T3) (b one : Int), vs = [.ref p, .int one] ∧ WebAt K H cF cR cW p pl ts b ∧ TOk pl ts b ∧ pl ≤ 10 ∧ ∀ H', Same H H' → Q (.bl true) H'
abbrev s__law_same_place : Stmt := top 59
abbrev N__law_same_place : List Str := ["web", "one", "e"]
theorem sc__law_same_place : FnScope N__law_same_place ["web", "one"] (defScope s__law_same_place) := ⟨rfl, rfl, rfl, by decide +kernel, rfl, by decide +kernel, by decide +kernel⟩
theorem ok__law_same_place (F : Fun K "_law_same_place" "_law_same_place" s__law_same_place f fd) (T : Txt mg) (U : Err K mg cF cR cW cT cG cC cE cP cS cH fT fG fP) (C_least_cut : CalX P w K mg base 4 "least_cut" ["web", "one", "two"] (spLeast2 K cF cR cW cP)) (CH__law_whole : CalH P w K mg base 1 "_law_whole" ["value"] spLaw_whole) :
    FnOk P w K mg base CX0 6 f fd ["web", "one"] (spSame K cF cR cW) := by
  refine F.ok sc__law_same_place (fun vs H Q E h => ?_) (fun cdv A outer s H vs Q E hr h => ?_)
  · obtain ⟨p, pl, ts, b, one, rfl, _⟩ := h
    rfl
  obtain ⟨p, pl, ts, b, one, rfl, hw, hok, hpl, q⟩ := h
  refine ⟨_, (pss_cons (L2N.ps_try_as (i := 2) rfl rfl sc__law_same_place.nd rfl rfl ⟨rfl, by decide, Or.inl U.g_CableError⟩ takesN (fun W pn xe tk _ => (pss_one (ps_expr (pe_calX C_least_cut (hr.mono (by omega)) rfl tk (pa_cons (pv 0) (pa_cons (pv 1) (pa_cons (pv 1) pa_nil))))))) (fun a oe cls d pn hz hf => (pss_cons (ps_if (PW.pt (pw_or (pt_not (pt_val (pe_callB (call_isX (K := K) rfl hz.zc hf) (by rfl) T.b_isinstance (by decide +kernel) (pa_cons (pv 2) (pa_cons (pe_glob (v := .ref _) rfl U.g_SamePlace rfl) pa_nil))))) (pw_or1 (pt_val (pe_callB (call_isXT (K := K) rfl hz.zc hf) (by rfl) T.b_isinstance (by decide +kernel) (pa_cons (pv 2) (pa_cons (pe_tup (pa_cons (pe_glob (v := .ref _) rfl U.g_BadTie rfl) (pa_cons (pe_glob (v := .ref _) rfl U.g_BadRow rfl) (pa_cons (pe_glob (v := .ref _) rfl U.g_SharedPlace rfl) (pa_cons (pe_glob (v := .ref _) rfl U.g_SizesDiffer rfl) pa_nil))))) pa_nil))))))) (pss_one (ps_ret pe_bl)) pss_nil)
  (pss_one (ps_ret (pe_and (pe_callB (call_isX (K := K) rfl hz.zc hf) (by rfl) T.b_isinstance (by decide +kernel) (pa_cons (pv 2) (pa_cons (pe_bltn (v := .ty "ValueError") (by rfl) T.b_ValueError (by decide +kernel) rfl) pa_nil))) (pe_and (pe_calH CH__law_whole ((roomS hr).mono (by omega)) (hot_of hz hf) rfl (pa_cons (pe_xf U.x_SamePlace U.no_SamePlace_place hz.zc hf (pv 2)) pa_nil)) (pe_one (pe_cmpR op_eq (pe_xf U.x_SamePlace U.no_SamePlace_place hz.zc hf (pv 2)) (pv 1) (nomark _))))))))))
  (pss_one (ps_ret pe_bl))), ?_⟩
  refine ⟨_, rfl, _, rfl, _, rfl, p, pl, ts, b, one, one, rfl, hw, hok, hpl, fun _ d H4 g4 hd4 => ?_, fun h => absurd rfl h⟩
  refine ⟨true, U.ePC, fun _ e _ => ?_, fun z => Bool.noConfusion z⟩
  have hdd : DictAt H4 (some d) := .inr ⟨d, _, rfl, hd4⟩
  refine ⟨_, rfl, cP, _, _, true, rfl, .own _, rfl, U.xP, hdd, U.kPP, _, rfl, ifF rfl ?_⟩
  refine ⟨_, rfl, line_ge (by show 4 ≤ 100000; omega), fun tp htp => ?_⟩
  have s4 := same_new htp (.tup [.ref cT, .ref cE, .ref cH, .ref cS])
  have hd5 := s4 _ _ hd4
  have hdd5 : DictAt (upd H4 tp (.tup [.ref cT, .ref cE, .ref cH, .ref cS])) (some d) := .inr ⟨d, _, rfl, hd5⟩
  refine ⟨cP, tp, _, [.ref cT, .ref cE, .ref cH, .ref cS], false, rfl, upd_same, .cons (.own _) (.cons (.own _) (.cons (.own _) (.cons (.own _) .nil))), rfl, U.xP, hdd5, kit4 U.kPT U.kPE U.kPH U.kPS, _, rfl, ifF rfl ?_⟩
  refine ⟨_, rfl, cP, _, _, true, rfl, .ty _, rfl, U.xP, hdd5, U.kPV, _, rfl, ifT rfl ?_⟩
  refine ⟨_, rfl, rfl, rfl, d, _, .int one, rfl, hd5, lk_hit, one, rfl, _, rfl, ifT rfl ?_⟩
  refine ⟨_, rfl, rfl, rfl, d, _, .int one, rfl, hd5, lk_hit, _, rfl, rfl, ?_⟩
  rw [int_eq rfl]
  exact q _ (g4.trans s4)
def spAsked (K : PySem.W.Frag) (cF cR cW : Addr) : Sp := fun vs H Q _ => ∃ (p dr : Addr) (pl : Nat) (ts : List T3) (b one two : Int), vs = [.ref p, .ref dr, .int one, .int two] ∧ WebAt K H cF cR cW p pl ts b ∧ DrW K H dr pl ts b ∧ TOk pl ts b ∧ pl ≤ 10 ∧ ∀ H', Same H H' → Q (.bl true) H'
abbrev s__law_asked : Stmt := top 60
abbrev N__law_asked : List Str := ["web", "drawn", "one", "two"]
theorem sc__law_asked : FnScope N__law_asked ["web", "drawn", "one", "two"] (defScope s__law_asked) := ⟨rfl, rfl, rfl, by decide +kernel, rfl, by decide +kernel, by decide +kernel⟩
theorem ok__law_asked (F : Fun K "_law_asked" "_law_asked" s__law_asked f fd) (T : Txt mg) (C__law_same_place : Cal P w K mg base 6 "_law_same_place" ["web", "one"] (spSame K cF cR cW)) (C__law_least_right : Cal P w K mg base 5 "_law_least_right" ["web", "drawn", "one", "two"] (spLR K cF cR cW)) :
    FnOk P w K mg base CX0 7 f fd ["web", "drawn", "one", "two"] (spAsked K cF cR cW) := by
  refine F.ok sc__law_asked (fun vs H Q E h => ?_) (fun cdv A outer s H vs Q E hr h => ?_)
  · obtain ⟨p, dr, pl, ts, b, one, two, rfl, _⟩ := h
    rfl
  obtain ⟨p, dr, pl, ts, b, one, two, rfl, hw, hdr, hok, hpl, q⟩ := h
  refine ⟨_, (pss_cons (ps_if (pt_cmpR op_eq (pv 2) (pv 3) (nomark _)) (pss_one (ps_ret (pe_cal C__law_same_place (hr.mono (by omega)) rfl (pa_cons (pv 0) (pa_cons (pv 2) pa_nil))))) pss_nil)
  (pss_one (ps_ret (pe_and (pe_cal C__law_least_right (hr.mono (by omega)) rfl (pa_cons (pv 0) (pa_cons (pv 1) (pa_cons (pv 2) (pa_cons (pv 3) pa_nil))))) (pe_one (pe_cal C__law_least_right (hr.mono (by omega)) rfl (pa_cons (pv 0) (pa_cons (pv 1) (pa_cons (pv 3) (pa_cons (pv 2) pa_nil)))))))))), ?_⟩
  refine ⟨_, rfl, _, rfl, rfl, _, rfl, ?_⟩
  by_cases hne : one = two
  · exact ifT (int_eq hne) ⟨_, rfl, _, rfl, p, pl, ts, b, one, rfl, hw, hok, hpl, q⟩
  refine ifF (int_ne hne) ⟨_, rfl, _, rfl, _, rfl, _, rfl, p, dr, pl, ts, b, one, two, rfl, hw, hdr, hok, hpl, hne, fun H1 s1 => ⟨_, rfl, ifT rfl ?_⟩⟩
  exact ⟨_, rfl, _, rfl, _, rfl, _, rfl, p, dr, pl, ts, b, two, one, rfl, hw.same s1, hdr.same s1, hok, hpl, fun e => hne e.symm, fun H2 s2 => q H2 (s1.trans s2)⟩
end
end P15
/-! Generator defs: a for around a yield; yield from over a list. -/
namespace KG
open PySem PySem.Spec PyProof.Rows L2 GenW
section
variable {prog : Program} {w : World} {A : Around} {R : GenEnd} {Y : Protocol} {n : Nat} {s₀ : Shared} {c : Code} {fs : List Frame} {s : Shared} {env : Env}
  {K : Flow → Sem PySem.Fin} {J : Value → Sem PySem.Fin} {gd : Bool → Bool} {lv : List Value → List Value}
/-- a for loop begins -/
theorem seg_For {target iter : Expr} {body orelse : List Stmt} {pos : Pos}
    (h : wpAny (model prog w) (A.over c fs) (eval iter env) (fun x s1 => wpAny (model prog w) (A.over c fs) (pyIter x) (fun it s2 =>
      ∀ p, Seg (model prog w) A R Y n s₀ (.forLoop target it body orelse env) ((model prog w).den (.forLoop target it body orelse env))
        (.ret (fun r => ((match r with | .ok f => (.pure f : Sem Flow) | .error e => .raise e).onRaise (cameBack env)).wrap K J gd lv) none (gd false) (lv []) c p [] :: fs) s2)
      (fun e s' => Seg (model prog w) A R Y n s₀ c (J e) fs s') s1) (fun e s' => Seg (model prog w) A R Y n s₀ c (J e) fs s') s)
    (hs : ∀ x, foldedSetIterable iter env x = pure x) :
    Seg (model prog w) A R Y n s₀ c ((exec (.For target iter body orelse pos) env).wrap K J gd lv) fs s := by
  rw [exec_For]
  refine seg_bind_wrap (wpAny_standAt ?_)
  refine seg_bind_wrap (wpAny_mono h (fun x s1 h1 => ?_) fun _ _ e => e)
  refine seg_bind_wrap (wpAny_of_eq (hs x) ?_)
  refine seg_bind_wrap (wpAny_standAt ?_)
  refine seg_bind_wrap (wpAny_holding (wpAny_mono h1 (fun it s2 h2 => ?_) fun _ _ e => e))
  exact seg_call h2
/-- a turn of it -/
theorem seg_forLoop {target : Expr} {it : Value} {body : List Stmt}
    (h : wpAny (model prog w) (A.over (.forLoop target it body [] env) fs) (pyNext it) (fun r s1 => match r with
        | none => Seg (model prog w) A R Y n s₀ (.block [] env) ((model prog w).den (.block [] env)) fs s1
        | some v => wpAny (model prog w) (A.over (.forLoop target it body [] env) fs) (letOwnedTupleGo target it v) (fun _ s2 =>
            wpAny (model prog w) (A.over (.forLoop target it body [] env) fs) (assign target env v) (fun _ s3 =>
              Seg (model prog w) A R Y n s₀ (.forLoop target it body [] env) ((execs body env).wrap (fun f => match f with
                | .next | .cont => .pure (.again (.forLoop target it body [] env))
                | .brk => .pure (.done .next)
                | .ret v => .pure (.done (.ret v))) (fun e => (do noteFrame e env; theTreesLotGoes e : Sem Unit).wrap (fun _ => .raise e) .raise id id) id id) fs s3)
              (fun x s' => Seg (model prog w) A R Y n s₀ (.forLoop target it body [] env) ((do noteFrame x env; theTreesLotGoes x : Sem Unit).wrap (fun _ => .raise x) .raise id id) fs s') s2)
            (fun x s' => Seg (model prog w) A R Y n s₀ (.forLoop target it body [] env) ((do noteFrame x env; theTreesLotGoes x : Sem Unit).wrap (fun _ => .raise x) .raise id id) fs s') s1)
      (fun x s' => Seg (model prog w) A R Y n s₀ (.forLoop target it body [] env) ((do noteFrame x env; theTreesLotGoes x : Sem Unit).wrap (fun _ => .raise x) .raise id id) fs s') s) :
    Seg (model prog w) A R Y n s₀ (.forLoop target it body [] env) ((model prog w).den (.forLoop target it body [] env)) fs s := by
  have hx : ∀ (x : Value) (s' : Shared), Seg (model prog w) A R Y n s₀ (.forLoop target it body [] env) ((do noteFrame x env; theTreesLotGoes x : Sem Unit).wrap (fun _ => .raise x) .raise id id) fs s' →
      Seg (model prog w) A R Y n s₀ (.forLoop target it body [] env) (((do noteFrame x env; theTreesLotGoes x : Sem Unit) >>= fun _ => (.raise x : Sem PySem.Fin))) fs s' := fun x s' hx => by
    first
      | (rw [← Sem.bind_eq_wrap] at hx; exact hx)
      | (show Seg _ A R Y n s₀ _ ((do noteFrame x env; theTreesLotGoes x : Sem Unit).bind fun _ => .raise x) fs s'; rw [Sem.bind_eq_wrap]; exact hx)
  show Seg _ A R Y n s₀ _ ((forTurn target it body [] env).onRaise (fun x => do noteFrame x env; theTreesLotGoes x)) fs s
  unfold forTurn
  rw [Sem.onRaise_eq_wrap]
  refine seg_bind_wrap (wpAny_standAt ?_)
  refine seg_bind_wrap (wpAny_onRaise (wpAny_mono h (fun r s1 h1 => ?_) fun x s' h' => wpAny_standAt (hx x s' h')))
  cases r with
  | none => exact seg_again rfl h1
  | some v =>
    refine seg_bind_wrap (wpAny_mono h1 (fun _ s2 h2 => ?_) fun x s' h' => hx x s' h')
    refine seg_bind_wrap (wpAny_mono h2 (fun _ s3 h3 => ?_) fun x s' h' => hx x s' h')
    rw [Sem.bind_eq_wrap', Sem.wrap_wrap]
    rw [Sem.wrap_congr (execs body env) _ _ (K' := fun f => match f with
            | .next | .cont => .pure (.again (.forLoop target it body [] env))
            | .brk => .pure (.done .next)
            | .ret v => .pure (.done (.ret v))) (H' := (fun e => (do noteFrame e env; theTreesLotGoes e : Sem Unit).wrap (fun _ => .raise e) .raise id id))
        (fun f => by cases f <;> rfl)
        (fun e => by first | exact Sem.bind_eq_wrap _ _ | (show (do noteFrame e env; theTreesLotGoes e : Sem Unit).bind (fun _ => .raise e) = _; rw [Sem.bind_eq_wrap]))]
    exact h3
end
section
variable {X : Cx} {tg : Expr}
def tGFor (wi : TI) (g : TG) (tb : TGn) : TGn := fun D ys σ H => wi σ H fun J H1 => ∃ W : Nat → Nat → List V → L2.St → Hp → Prop, (∃ m, W 0 m ys σ H1) ∧ ∀ i m ys σ H, W i m ys σ H →
  (J.stop i H ∧ D.nx ys σ H) ∨ (J.go i H ∧ ∃ N : List V → L2.St → Hp → Prop, (∀ ys' σ' H', N ys' σ' H' → ∃ m', m' < m ∧ W (i + 1) m' ys' σ' H') ∧ ∀ x H', J.yld i H x H' → g x σ H' fun σ2 H2 => tb { D with nx := N, ct := N, bk := D.nx } ys σ2 H2)
/-- pins fewer -/
theorem GI.less {S : Addr} {ip pl : List (Addr × Obj)} {ys : List V} {σ : L2.St} {H : Hp} {s : Shared} (h : GI X S (ip ++ pl) ys σ H s) : GI X S ip ys σ H s := by
  obtain ⟨acc, c, r, I⟩ := h
  exact ⟨acc, c, r, Inv.unpinned (pins := (S, lstObj acc c) :: ip) (pl := pl) I⟩
theorem gs_for {iter : Expr} {body : List Stmt} {wi : TI} {g : TG} {tb : TGn} {pos : Pos} (hp : PassesOwn (model X.prog X.w) X.A X.env X.xe) (hc : X.calm = true) (hi : PI X tg iter wi) (hg : PG X tg g) (hb : GSs X body tb)
    (hs : ∀ x, foldedSetIterable iter X.env x = pure x := by intro _; rfl) : GS X (.For tg iter body [] pos) (tGFor wi g tb) := by
  refine ⟨fun A S ip R n ys s₀ c fs K J gd lv s σ H D gc hn k hI ht => ?_⟩
  obtain ⟨acc, cc, r, I⟩ := hI
  refine seg_For ?_ hs
  rw [gc.over]
  refine wpAny_mono (hi.run _ s σ H _ I ht) (fun v s1 h1 => wpAny_mono h1 (fun itv s2 h2 => ?_) fun e s' hx => k.exc n s₀ e s' hx) fun e s' hx => k.exc n s₀ e s' hx
  obtain ⟨it, fp, tn, JJ, H2, e, I2, T, st2, f2, W, ⟨m0, w0⟩, turn⟩ := h2
  subst e
  intro p
  have fS : ∀ b ∈ fp, S ≠ b := fun b hb => (f2 b hb).2.2.2.2.2 (S, lstObj acc cc) (List.mem_append_right _ List.mem_cons_self)
  have stat : ∀ {acc : Array Value} {cc : Nat} {H' : Hp}, (∀ b ∈ fp, H' b = none) → ∀ b ∈ fp, FpOk X ((S, lstObj acc cc) :: ip) H' b := fun {acc cc H'} hn b hb => by
    obtain ⟨_, a1, a2, a3, a4, a5⟩ := f2 b hb
    refine ⟨hn b hb, a1, a2, a3, a4, fun p hp => ?_⟩
    rcases List.mem_append.mp hp with z | z
    · exact a5 p (List.mem_append_left _ z)
    · rcases List.mem_cons.mp z with z | z
      · rw [z]; exact fS b hb
      · exact a5 p (List.mem_append_right _ (List.mem_cons_of_mem _ z))
  have gl := fun (kk : Result → Sem PySem.Fin) => gc_loop (k := kk) (c' := .forLoop tg (.ref it) body [] X.env) (l := lv []) (kp := []) (p := p) gc rfl rfl
  have loop : ∀ (m n i : Nat) (ys : List V) (s₀ s : Shared) (σ : L2.St) (H : Hp), n + ys.length = sizeLine → W i m ys σ H → tn i s.heap → (∀ b ∈ fp, H b = none) → GI X S ip ys σ H s →
      Seg (model X.prog X.w) A R (GY X S) n s₀ (.forLoop tg (.ref it) body [] X.env) ((model X.prog X.w).den (.forLoop tg (.ref it) body [] X.env))
        (.ret (fun r => ((match r with | .ok f => (.pure f : Sem Flow) | .error e => .raise e).onRaise (cameBack X.env)).wrap K J gd lv) none (gd false) (lv []) c p [] :: fs) s := by
    intro m
    induction m using Nat.strongRecOn with
    | ind m ih =>
      intro n i ys s₀ s σ H hn w hst hfr hI
      have ee : ∀ (n : Nat) (s₀ : Shared) (x : Value) (s' : Shared), X.xe x s' → Seg (model X.prog X.w) A R (GY X S) n s₀ (.forLoop tg (.ref it) body [] X.env)
          ((do noteFrame x X.env; theTreesLotGoes x : Sem Unit).wrap (fun _ => .raise x) .raise id id)
          (.ret (fun r => ((match r with | .ok f => (.pure f : Sem Flow) | .error e => .raise e).onRaise (cameBack X.env)).wrap K J gd lv) none (gd false) (lv []) c p [] :: fs) s' := fun n s₀ x s' hx => by
        refine seg_wrap ?_
        rw [(gl _).over]
        refine wpAny_bind (wpAny_mono (hp x s' hx) (fun _ s'' hcb => wpAny_theTreesLotGoes ?_) fun y s'' hcb => ?_)
        · exact seg_leaf (.error x) (seg_cameBack gc k hcb)
        · exact seg_leaf (.error y) (seg_cameBack gc k hcb)
      refine seg_forLoop ?_
      rw [(gl _).over]
      obtain ⟨acc, cc, r, I⟩ := hI
      rcases turn i m ys σ H w with ⟨stop, qn⟩ | ⟨go, N, hN, step⟩
      · refine wpAny_mono (T.done X rfl rfl rfl hc i _ s σ H X.xe I (stat hfr) hst stop) (fun r' s4 h4 => ?_) fun x s' hx => ee n s₀ x s' hx
        obtain ⟨hr, I4⟩ := h4
        subst hr
        exact seg_leaf (.ok .next) (k.ok n ys s₀ s4 .next hn ⟨σ, H, ⟨acc, cc, r, I4⟩, qn⟩)
      · refine wpAny_mono (T.item X rfl rfl rfl hc i _ s σ H X.xe I (stat hfr) hst go) (fun r' s4 h4 => ?_) fun x s' hx => ee n s₀ x s' hx
        obtain ⟨u, hr, h4⟩ := h4
        subst hr
        refine wpAny_mono h4 (fun _ s5 h5 => ?_) fun x s' hx => ee n s₀ x s' hx
        obtain ⟨x, H5, I5, r5, y5, st5, fr5⟩ := h5
        have I5' := I5.pinned (stat fr5) (T.obj _ _ st5)
        refine wpAny_mono (hg.run _ s5 σ H5 x u _ I5' r5 (step x H5 y5)) (fun _ s6 h6 => ?_) fun x s' hx => ee n s₀ x s' hx
        obtain ⟨σ6, H6, I6, q6⟩ := h6
        have again : ∀ {n' : Nat} {ys' : List V} {s₀' s7 : Shared} {σ7 : L2.St} {H7 : Hp}, n' + ys'.length = sizeLine → GI X S (ip ++ pinsAt fp s5.heap) ys' σ7 H7 s7 → N ys' σ7 H7 →
            Seg (model X.prog X.w) A R (GY X S) n' s₀' (.forLoop tg (.ref it) body [] X.env) ((model X.prog X.w).den (.forLoop tg (.ref it) body [] X.env))
              (.ret (fun r => ((match r with | .ok f => (.pure f : Sem Flow) | .error e => .raise e).onRaise (cameBack X.env)).wrap K J gd lv) none (gd false) (lv []) c p [] :: fs) s7 := fun {n' ys' s₀' s7 σ7 H7} hn' hI7 n7 => by
          obtain ⟨m', hm, w7⟩ := hN ys' σ7 H7 n7
          obtain ⟨acc7, cc7, r7, I7⟩ := id hI7
          refine ih m' hm n' (i + 1) ys' s₀' s7 σ7 H7 hn' w7 (T.keep _ _ _ st5 fun b hb o e => ?_) (fun b hb => ?_) (GI.less hI7)
          · exact (I7.pin (b, o) (List.mem_append_right _ (List.mem_cons_of_mem _ (List.mem_append_right _ (mem_pinsAt hb e))))).1
          · obtain ⟨o, e, d⟩ := T.obj _ _ st5 b hb
            exact (I7.pin (b, o) (List.mem_append_right _ (List.mem_cons_of_mem _ (List.mem_append_right _ (mem_pinsAt hb e))))).2.1
        refine hb.run A S (ip ++ pinsAt fp s5.heap) R n ys s₀ _ _ _ _ id id s6 σ6 H6 { D with nx := N, ct := N, bk := D.nx } ⟨gc.pn, fun q hq => ?_, gc.apart, (gl _).over, (gl _).split, (gl _).guard, rfl⟩ hn ⟨fun n' ys' s₀' s7 f hn' hs7 => ?_, fun n' s₀' x s7 hx => ee n' s₀' x s7 hx⟩ ⟨acc, cc, r, I6⟩ q6
        · rcases List.mem_append.mp hq with z | z
          · exact gc.ip q z
          · exact Ne.symm (fS _ (of_pinsAt z).1)
        · cases f with
          | next =>
            obtain ⟨σ7, H7, I7, n7⟩ := hs7
            exact seg_again rfl (again hn' I7 n7)
          | cont =>
            obtain ⟨σ7, H7, I7, n7⟩ := hs7
            exact seg_again rfl (again hn' I7 n7)
          | brk =>
            obtain ⟨σ7, H7, I7, q7⟩ := hs7
            exact seg_leaf (.ok .next) (k.ok n' ys' s₀' s7 .next hn' ⟨σ7, H7, GI.less I7, q7⟩)
          | ret v =>
            obtain ⟨x7, σ7, H7, I7, r7, q7⟩ := hs7
            exact seg_leaf (.ok (.ret v)) (k.ok n' ys' s₀' s7 (.ret v) hn' ⟨x7, σ7, H7, GI.less I7, r7, q7⟩)
  exact loop m0 n 0 ys s₀ s2 σ H2 hn w0 st2 (fun b hb => (f2 b hb).1) ⟨acc, cc, r, I2⟩
end

/-! ### yield from over a list -/
section
variable {prog : Program} {w : World} {A : Around} {E : Value → Shared → Prop} {s : Shared}
theorem special_lst_item {it l : Addr} {i : Nat} {items : Array Value} {x : Value} {Q : Option Value → Shared → Prop} (hit : s.heap.IsListIter it l i) (hl : s.heap.IsList l items) (hx : items[i]? = some x)
    (hQ : ∀ h', h'.IsListIter it l (i + 1) → Heap.SameBut it s.heap h' → Q (some x) { s with heap := h' }) : wpAny (model prog w) A (callSpecial? (.ref it) "__next__") Q E s := by
  obtain ⟨o, ho, hc, hd⟩ := id hit
  obtain ⟨ol, hol, _, nl, hdl⟩ := hl
  refine wpAny_callSpecial?_slot (name := Str.ofString "__next__") hit.typeIs slot_listiter_next (wpAny_call_entry slot_listiter_next hit.typeIs entry_listiter_next ?_ (args_listiter_next _))
  show wpAny _ _ (field (.ref it) 0 >>= _) _ _ s
  refine wpAny_bind (wpAny_field ho hd (x := .ref l) rfl ?_)
  show wpAny _ _ (if (Value.ref l == Value.none) = true then _ else _) _ _ s
  rw [if_neg (show ¬ ((Value.ref l == Value.none) = true) from Bool.false_ne_true)]
  show wpAny _ _ (field (.ref it) 1 >>= _) _ _ s
  refine wpAny_bind (wpAny_field ho hd (x := .int i 0) rfl ?_)
  show wpAny _ _ (seqItems? (.ref l) >>= _) _ _ s
  refine wpAny_bind (wpAny_seqItems hol hdl ?_)
  simp only [Int.toNat_natCast, hx]
  refine wpAny_bind (wpAny_setField ho hd (by simp) (wpAny_pure ⟨x, rfl, hQ _ ?_ (Heap.SameBut.update ..)⟩))
  exact ⟨_, Heap.get?_update_self _ ho (Obj.isFreed_of_fields (Obj.data_mapFields hd _)), (Obj.cls_mapFields ..).trans hc, by
    rw [Obj.data_mapFields hd]; simp [rawInt]⟩
theorem special_lst_end {it l : Addr} {i : Nat} {items : Array Value} {Q : Option Value → Shared → Prop} (hh : A.handled = none) (hit : s.heap.IsListIter it l i) (hl : s.heap.IsList l items) (hx : items[i]? = none)
    (hE : ∀ e h', StopX e h' → Heap.ExtBut it s.heap h' → E e { s with heap := h' }) : wpAny (model prog w) A (callSpecial? (.ref it) "__next__") Q E s := by
  obtain ⟨o, ho, hc, hd⟩ := id hit
  obtain ⟨ol, hol, _, nl, hdl⟩ := hl
  refine wpAny_callSpecial?_slot (name := Str.ofString "__next__") hit.typeIs slot_listiter_next (wpAny_call_entry slot_listiter_next hit.typeIs entry_listiter_next ?_ (args_listiter_next _))
  show wpAny _ _ (field (.ref it) 0 >>= _) _ _ s
  refine wpAny_bind (wpAny_field ho hd (x := .ref l) rfl ?_)
  show wpAny _ _ (if (Value.ref l == Value.none) = true then _ else _) _ _ s
  rw [if_neg (show ¬ ((Value.ref l == Value.none) = true) from Bool.false_ne_true)]
  show wpAny _ _ (field (.ref it) 1 >>= _) _ _ s
  refine wpAny_bind (wpAny_field ho hd (x := .int i 0) rfl ?_)
  show wpAny _ _ (seqItems? (.ref l) >>= _) _ _ s
  refine wpAny_bind (wpAny_seqItems hol hdl ?_)
  simp only [Int.toNat_natCast, hx]
  refine wpAny_bind (wpAny_rule (wpAny_bind (wpAny_setField ho hd (by simp) ?_)))
  show wpAny _ _ (newExc (.type "StopIteration") [] >>= _) _ _ _
  refine wpAny_bind ?_
  simp only [newExc, newTuple]
  refine wpAny_bind (wpAny_newObj_type ?_ (by size_fits))
  refine wpAny_bind (m := firstArgMember _ _) (wpAny_of_eq (a := Value.none) (by first | rfl | (simp only [firstArgMember]; rfl)) ?_)
  refine wpAny_newObj_type ?_ (by size_fits)
  simp only [raiseNew]
  refine wpAny_bind (wpAny_handled ?_)
  first | rw [show A.in1.handled = none from hh] | rw [hh]
  refine wpAny_bind (wpAny_pure (wpAny_throw ?_))
  refine hE _ _ ⟨_, _, _, rfl, Heap.get?_push_size _ rfl, rfl, rfl, ?_⟩ (((Heap.SameBut.update ..).extBut.push _).push _)
  first
    | rfl
    | (rw [Array.getElem?_append_left (by decide)]; rfl)
    | kernel_rfl
end
section
variable {X : Cx} {e : Expr} {te : TE}
def tYfLst (te : TE) : TYf := fun σ H Q => te σ H fun x H1 => ∃ a xs, x = .ref a ∧ H1 a = some (.lst xs) ∧ Q xs H1
theorem close_lst : typeLookup (.type "list_iterator") "close" = pure none := by rw [typeLookup_type, builtinLookup_eq_fast]; kernel_rfl
theorem yf_lst (he : PE X e te) : YfE X e (tYfLst te) := by
  refine ⟨fun pins s σ H Q I h => ?_⟩
  refine thn (he.run pins s σ H _ I h) fun v s1 ⟨x, H1, I1, r1, a, xs, ex, ha, hq⟩ => ?_
  subst ex
  obtain rfl : v = Value.ref a := r1
  obtain ⟨its, rits, pl, hlen⟩ := I1.list (SqL.of ha)
  have ht := pl.isList
  obtain ⟨ot, hot, htc, _, _⟩ := id ht
  refine ⟨"list", ⟨ot, hot, htc⟩, by decide, wpAny_pyIter_list ht ?_⟩
  have alt : a < s1.heap.objs.size := Heap.lt_size hot
  have ksz : ∀ b o, s1.heap.get? b = some o → b ≠ s1.heap.objs.size := fun b o e => Nat.ne_of_lt (Heap.lt_size e)
  have kp : ∀ b o, s1.heap.get? b = some o → (s1.heap.push { cls := .type "list_iterator", data := .fields #[.ref a, .int 0 0] }).get? b = some o := fun b o e => Heap.get?_push_of_some _ e
  refine ⟨s1.heap.objs.size, H1, xs, fun j h => h.IsListIter s1.heap.objs.size a j ∧ h.IsList a its.toArray, rfl, I1.kept (t' := s1.toks) kp, .inr I1.sz, Nat.ne_of_gt I1.lt, fun y c hy => ?_, I1.hok.fresh (Nat.le_refl _), fun p hp => ?_,
    ⟨⟨_, Heap.get?_push_size _ rfl, rfl, rfl⟩, ht.at fun o e => kp a o e⟩, ⟨⟨"list_iterator", fun j h q => ?_, close_lst, by decide⟩, fun j h h' q hk => ?_, fun A' j x s2 Q' E' hA hx q hQ => ?_, fun A' s2 Q' E' hA q hE => ?_⟩, hq⟩
  · obtain ⟨v, o, ho, _⟩ := I1.cell y c hy
    exact ksz c o ho
  · exact ksz p.1 _ (I1.pin p hp).1
  · obtain ⟨⟨o, ho, hc, _⟩, _⟩ := q
    exact ⟨o, ho, hc⟩
  · obtain ⟨⟨o, ho, r⟩, o2, ho2, r2⟩ := q
    exact ⟨⟨o, hk _ o (.inl rfl) ho, r⟩, o2, hk _ o2 (.inr (by rw [ha]; exact fun z => by cases z)) ho2, r2⟩
  · obtain ⟨q1, q2⟩ := q
    obtain ⟨u, hu, ru⟩ := rits.get hx
    have hne : a ≠ s1.heap.objs.size := Nat.ne_of_lt alt
    exact special_lst_item q1 q2 (x := u) (by simpa using hu) fun h' q1' hs => hQ u h' s2.toks ru ⟨q1', q2.at fun o e => hs.extBut a o hne e⟩ fun b o hb eb => hs.extBut b o hb eb
  · obtain ⟨q1, q2⟩ := q
    have hnone : its.toArray[xs.length]? = none := by
      have e := rits.length
      have e2 : its[xs.length]? = none := List.getElem?_eq_none_iff.mpr (by omega)
      simpa using e2
    exact special_lst_end hA q1 q2 hnone fun e h' hS hk => hE e h' s2.toks hS fun b o hb eb => hk b o hb eb
end
end KG
set_option exponentiation.threshold 3000
namespace P15
open PySem PySem.Spec PyProof.Rows L2 SX EX WK
/-! ### the sides of all places -/
def lst (s : List Int) : Int := s.getD (s.length - 1) 0
def ext (n : Nat) (s : List Int) : List (List Int) := (List.range ((n : Int) - (lst s + 1)).toNat).map fun (i : Nat) => s ++ [lst s + 1 + (i : Int)]
def lev (n : Nat) : Nat → List (List Int)
  | 0 => [[0]]
  | k + 1 => ((lev n k).map (ext n)).flatten
def sidesTo (n i : Nat) : List (List Int) := ((List.range i).map (lev n)).flatten
def chk (n k : Nat) : Bool := decide ((lev n k).length ≤ 300) && (lev n k).all fun s => decide (0 < s.length) && decide (s.length ≤ 10) && decide (0 ≤ lst s) && decide (lst s ≤ 10)
theorem chk_ok : ∀ n, n < 11 → ∀ k, k < 10 → chk n k = true := by decide +kernel
theorem lev_len {n k : Nat} (hn : n ≤ 10) (hk : k ≤ 9) : (lev n k).length ≤ 300 := by
  have h := chk_ok n (by omega) k (by omega)
  unfold chk at h
  rw [Bool.and_eq_true, decide_eq_true_iff] at h
  exact h.1
theorem lev_mem {n k : Nat} (hn : n ≤ 10) (hk : k ≤ 9) {s : List Int} (hs : s ∈ lev n k) : 0 < s.length ∧ s.length ≤ 10 ∧ 0 ≤ lst s ∧ lst s ≤ 10 := by
  have h := chk_ok n (by omega) k (by omega)
  unfold chk at h
  rw [Bool.and_eq_true] at h
  have h2 := List.all_eq_true.mp h.2 s hs
  simp only [Bool.and_eq_true, decide_eq_true_iff] at h2
  exact ⟨h2.1.1.1, h2.1.1.2, h2.1.2, h2.2⟩
theorem sidesTo_succ (n i : Nat) : sidesTo n (i + 1) = sidesTo n i ++ lev n i := by
  unfold sidesTo
  rw [List.range_succ, List.map_append, List.flatten_append]
  simp
theorem sidesTo_len {n i : Nat} (hn : n ≤ 10) : i ≤ 10 → (sidesTo n i).length ≤ 300 * i := by
  induction i with
  | zero => intro _; exact Nat.le_refl _
  | succ i ih =>
    intro hi
    rw [sidesTo_succ, List.length_append]
    have := ih (by omega)
    have := lev_len hn (k := i) (by omega)
    omega
theorem at_last {s : List Int} (h : 0 < s.length) : atI (s.map V.int) (-1) = some (.int (lst s)) := by
  have e : (s.map V.int)[s.length - 1]? = some (.int (lst s)) := by
    unfold lst
    rw [List.getElem?_map, List.getD_eq_getElem?_getD, List.getElem?_eq_getElem (show s.length - 1 < s.length by omega)]
    rfl
  unfold atI ixN
  rw [List.length_map, if_neg (by omega), if_pos (by omega)]
  show (s.map V.int)[_]? = _
  rw [← e]
  congr 1
  omega
/-- a list of sides that grows at D -/
structure GS (K : PySem.W.Frag) (H0 H : Hp) (D : Addr) (l : List V) (ss : List (List Int)) : Prop where
  same : Same H0 H
  at_ : H D = some (.lst l)
  fz : FzAll K H l (ss.map tds)
theorem GS.len {K : PySem.W.Frag} {H0 H : Hp} {D : Addr} {l : List V} {ss : List (List Int)} (g : GS K H0 H D l ss) : l.length = ss.length := by rw [g.fz.len, List.length_map]
theorem GS.keep {K : PySem.W.Frag} {H0 H H' : Hp} {D : Addr} {l : List V} {ss : List (List Int)} (g : GS K H0 H D l ss) (s : Same H H') : GS K H0 H' D l ss := ⟨g.same.trans s, s _ _ g.at_, g.fz.tk (WK.Same.tk s)⟩
theorem GS.push {K : PySem.W.Frag} {H0 H : Hp} {D r : Addr} {l : List V} {ss : List (List Int)} {s : List Int} (g : GS K H0 H D l ss) (h0 : H0 D = none) (hf : Fz K H (.ref r) (tds s)) : GS K H0 (upd H D (.lst (l ++ [.ref r]))) D (l ++ [.ref r]) (ss ++ [s]) := by
  have tk : Tk K H (upd H D (.lst (l ++ [.ref r]))) := tk_lst g.at_ fun b o hb e => by rw [upd_ne hb]; exact e
  refine ⟨same_at g.same h0, upd_same, ?_⟩
  rw [List.map_append]
  exact fz_append (g.fz.tk tk) (.cons (hf.tk tk) .nil)
abbrev SpG := List V → Hp → (List V → Hp → Prop) → XK → Prop
def spSides (K : PySem.W.Frag) : SpG := fun vs H cont _ => ∃ n : Nat, vs = [.int (n : Int)] ∧ n ≤ 10 ∧ ∀ out H', Same H H' → FzAll K H' out ((sidesTo n (n - 1)).map tds) → cont out H'
section
variable {P : Program} {w : World} {K : PySem.W.Frag} {mg : Str → Option Value} {base : Heap} {f : Addr} {fd : FuncData} {cF cR cW : Addr}
abbrev s_sides : Stmt := top 23
abbrev N_sides : List Str := ["places", "level", "_", "side", "place"]
theorem gsc_sides : GScope N_sides ["places"] (defScope s_sides) := ⟨rfl, rfl, rfl, by decide +kernel, rfl, by decide +kernel, by decide +kernel⟩
/-- the next level -/
theorem next_level {X : Cx} {n k : Nat} (hn : n ≤ 10) (hk : k ≤ 8) : (((lev n k).map (ext n)).flatten).length ≤ 300 := lev_len (k := k + 1) hn (by omega)
theorem gok_sides (F : Fun K "sides" "sides" s_sides f fd) (T : Txt mg) : GFn P w K mg base 1 f fd ["places"] (spSides K) := by
  obtain ⟨oc, od, kV, doc, pm, an, cdv, ct, osl, rfl, lk, hcd⟩ := F.ex
  refine gfn_of lk hcd gsc_sides (fun vs H Q E h => ?_) fun A outer s H vs Q E pn hr h => ?_
  · obtain ⟨n, rfl, _⟩ := h
    rfl
  obtain ⟨n, rfl, hn, q⟩ := h
  refine ⟨_, (gss_cons (gs_ps (ps_set (i := 1) gsc_sides.nd rfl (Or.inl rfl) (pe_lst (pa_cons (pe_tup (pa_cons pe_int pa_nil)) pa_nil))))
    (gss_cons (KG.gs_for owns_gcx rfl (pi_range2 (by rfl) T.b_range (pa_cons pe_int (pa_cons (pv 0) pa_nil))) (pg_name (i := 2) gsc_sides.nd rfl (Or.inl rfl)) (gss_cons (gs_yieldFrom (KG.yf_lst (pv 1)) hr.hd)
      (gss_pss (pss_one (ps_setLc2 (i := 1) (own := [("side", 3), ("place", 4)]) (vs1 := [4]) (g := gName 3) (tt := tYes) (g1 := gName 4) (tt1 := tYes) (by rfl) gsc_sides.nd rfl rfl (sw_true rfl rfl rfl (by decide +kernel)) (pi_list (pv 1)) (blkOk_by (N := N_sides) (sc := defScope s_sides) (by decide +kernel)) (by decide) (fun _ _ _ _ _ => (pg_name (i := 3) gsc_sides.nd rfl (Or.inl rfl))) (fun _ _ _ _ _ => pts_nil) (fun _ _ _ _ _ => (pi_range2 (by rfl) T.b_range (pa_cons (pe_op op_add (pe_ix (ix_tupK (K := K) rfl) (pv 3) (pe_un un_neg pe_int) (fun _ _ => rfl)) pe_int) (pa_cons (pv 0) pa_nil)))) (fun _ _ _ _ _ => (pg_name (i := 4) gsc_sides.nd rfl (Or.inl rfl))) (fun _ _ _ _ _ => pts_nil) (fun _ _ _ _ _ => (pe_op (op_catAK (K := K) rfl) (pv 3) (pe_tup (pa_cons (pv 4) pa_nil)))))))))
    gss_nil)), ?_⟩
  refine ⟨line_ge (by show 1 ≤ 100000; omega), fun z0 hz0 => ⟨line_ge (by show 1 ≤ 100000; omega), fun D0 hD0 => ?_⟩⟩
  have s0 := (same_new hz0 (.tup [V.int 0])).trans (same_new hD0 (.lst [V.ref z0]))
  have sl0 : SL K (upd (upd H z0 (.tup [V.int 0])) D0 (.lst [V.ref z0])) D0 (lev n 0) := ⟨_, upd_same, .cons (.tup (SqT.of (xs := [V.int 0]) (by rw [upd_ne (ne_of_none (upd_same (H := H) (a := z0)) hD0), upd_same])) (.cons (.int _) .nil)) .nil⟩
  refine ⟨_, rfl, 1, (n : Int), rfl, ⟨by decide, by decide, by omega, by omega⟩, fun i m ys σ H' => m = (n - 1) - i ∧ i ≤ n - 1 ∧ ∃ (D : Addr) (v2 : Option V), σ = [some (.int (n : Int)), some (.ref D), v2, none, none] ∧ Same H H' ∧ SL K H' D (lev n i) ∧ FzAll K H' ys ((sidesTo n i).map tds), ⟨_, rfl, Nat.zero_le _, D0, none, rfl, s0, sl0, .nil⟩, ?_⟩
  rintro i m ys σ H1 ⟨rfl, hi, D, v2, rfl, s1, hsl, hys⟩
  by_cases hlt : i < n - 1
  · refine .inr ⟨by show i < ((n : Int) - 1).toNat; omega, fun ys' σ' H' => ∃ (D : Addr) (v2 : Option V), σ' = [some (.int (n : Int)), some (.ref D), v2, none, none] ∧ Same H H' ∧ SL K H' D (lev n (i + 1)) ∧ FzAll K H' ys' ((sidesTo n (i + 1)).map tds), fun ys' σ' H' h => ⟨_, by omega, rfl, by omega, h⟩, ?_⟩
    rintro x H2 ⟨rfl, rfl⟩
    obtain ⟨vs, hD, hall⟩ := id hsl
    have hvl : vs.length = (lev n i).length := by rw [hall.len, List.length_map]
    have hyl : ys.length = (sidesTo n i).length := by rw [hys.len, List.length_map]
    have hl1 := lev_len hn (k := i) (by omega)
    have hl2 := sidesTo_len hn (i := i) (by omega)
    refine ⟨_, rfl, D, vs, rfl, hD, line_ge (by omega), ?_⟩
    refine ⟨_, rfl, D, rfl, ⟨_, SqL.of hD⟩, fun D2 hD2 => ?_⟩
    have hnx : ((lev n i).map (ext n)).flatten.length ≤ 300 := lev_len (k := i + 1) hn (by omega)
    refine ⟨fun a k H3 => k = (lev n i).length - a ∧ a ≤ (lev n i).length ∧ ∃ l, GS K H2 H3 D2 l ((((lev n i).take a).map (ext n)).flatten), ⟨_, rfl, Nat.zero_le _, [], same_new hD2 _, upd_same, by rw [List.take_zero]; exact .nil⟩, ?_⟩
    rintro a k H3 ⟨rfl, ha, l, g3⟩
    by_cases halt : a < (lev n i).length
    · obtain ⟨sd, hsd⟩ : ∃ sd, (lev n i)[a]? = some sd := ⟨_, List.getElem?_eq_getElem halt⟩
      obtain ⟨q1, hq1, hq2⟩ := side_at hall hsd
      obtain ⟨m1, m2, m3, m4⟩ := lev_mem hn (k := i) (by omega) (List.mem_of_getElem? hsd)
      refine .inr ⟨⟨vs, _, SqL.of (g3.same _ _ hD), hq1⟩, fun H4 => ∃ l, GS K H2 H4 D2 l ((((lev n i).take (a + 1)).map (ext n)).flatten), fun H4 h4 => ⟨_, by omega, rfl, halt, h4⟩, ?_⟩
      rintro x H4 ⟨rfl, hx⟩
      have hx2 := hx vs (SqL.of (g3.same _ _ hD))
      rw [hq1] at hx2
      cases hx2
      have hq3 := Same_seqT g3.same hq2
      have etk : (((lev n i).take (a + 1)).map (ext n)).flatten = (((lev n i).take a).map (ext n)).flatten ++ ext n sd := by
        rw [take_one hsd, List.map_append, List.flatten_append]
        simp
      have epre : ((((lev n i).take a).map (ext n)).flatten).length + (ext n sd).length ≤ 300 := by
        have e1 : (((lev n i).map (ext n)).flatten) = (((lev n i).take (a + 1)).map (ext n)).flatten ++ (((lev n i).drop (a + 1)).map (ext n)).flatten := by
          rw [← List.flatten_append, ← List.map_append, List.take_append_drop]
        rw [e1, etk, List.length_append, List.length_append] at hnx
        omega
      refine ⟨rfl, lc_yes ⟨_, rfl, _, rfl, q1, _, -1, _, rfl, rfl, hq3, at_last m1, _, _, rfl, rfl, _, rfl, _, _, rfl, ⟨by omega, by omega, by omega, by omega⟩, ?_⟩⟩
      refine ⟨fun j k H5 => k = (ext n sd).length - j ∧ j ≤ (ext n sd).length ∧ ∃ l, GS K H2 H5 D2 l ((((lev n i).take a).map (ext n)).flatten ++ (ext n sd).take j), ⟨_, rfl, Nat.zero_le _, l, by rw [List.take_zero, List.append_nil]; exact g3⟩, ?_⟩
      rintro j k H5 ⟨rfl, hj, l5, g5⟩
      have hel : (ext n sd).length = ((n : Int) - (lst sd + 1)).toNat := by unfold ext; rw [List.length_map, List.length_range]
      by_cases hjlt : j < (ext n sd).length
      · have hej : (ext n sd)[j]? = some (sd ++ [lst sd + 1 + (j : Int)]) := by
          unfold ext
          rw [List.getElem?_map, List.getElem?_range (by omega)]
          rfl
        refine .inr ⟨by show j < ((n : Int) - (lst sd + 1)).toNat; omega, fun H6 => ∃ l, GS K H2 H6 D2 l ((((lev n i).take a).map (ext n)).flatten ++ (ext n sd).take (j + 1)), fun H6 h6 => ⟨_, by omega, rfl, hjlt, h6⟩, ?_⟩
        rintro x H6 ⟨rfl, rfl⟩
        have hq5 := Same_seqT g5.same hq2
        refine ⟨rfl, lc_yes ⟨_, rfl, _, rfl, line_ge (by show 1 ≤ 100000; omega), fun z hz => cat_side (Same_seqT (same_new hz _) hq5) (by omega) hz rfl fun r H7 s7 hf => ?_⟩⟩
        have g7 := g5.keep ((same_new hz _).trans s7)
        have hll := g5.len
        rw [List.length_append, List.length_take] at hll
        refine ⟨l5, g7.at_, sizes (by omega), l5 ++ [.ref r], ?_⟩
        rw [take_one hej, ← List.append_assoc]
        exact g7.push hD2 hf
      · have ej : j = (ext n sd).length := by omega
        refine .inl ⟨by show ((n : Int) - (lst sd + 1)).toNat ≤ j; omega, l5, ?_⟩
        rw [etk]
        rw [ej, List.take_length] at g5
        exact g5
    · have ea : a = (lev n i).length := by omega
      refine .inl ⟨⟨vs, SqL.of (g3.same _ _ hD), by omega⟩, D2, _, rfl, s1.trans g3.same, ⟨l, g3.at_, ?_⟩, ?_⟩
      · have := g3.fz
        rw [ea, List.take_length] at this
        exact this
      · rw [sidesTo_succ, List.map_append]
        exact fz_append (hys.tk (WK.Same.tk g3.same)) (hall.tk (WK.Same.tk g3.same))
  · have ei : i = n - 1 := by omega
    refine .inl ⟨by show ((n : Int) - 1).toNat ≤ i; omega, ?_⟩
    rw [ei] at hys
    exact q ys H1 s1 hys
end
end P15
set_option exponentiation.threshold 3000
namespace P15
open PySem PySem.Spec PyProof.Rows L2 SX EX WK
open PySem.W (alike alikeAll dataLt)
/-- a generator def as its callers see it -/
def CalG (P : Program) (w : World) (K : PySem.W.Frag) (mg : Str → Option Value) (base : Heap) (k : Nat) (x : Str) (ps : List Str) (sp : SpG) : Prop :=
  ∃ (f : Addr) (fd : FuncData), GFn P w K mg base k f fd ps sp ∧ mg x = some (.ref f) ∧ PySem.W.keepIn K (.ref f) = true ∧ Binds K fd ps []
theorem passG {X : Cx} : Passes (L2.CX X.prog X.w) X E0 := fun _ _ _ _ _ _ _ hc => by
  obtain ⟨_, _, _, _, _, _, _, _, _, _, _, _, z⟩ := hc
  exact z.elim
theorem noStop0 {K : PySem.W.Frag} : NoStop K E0 := fun _ _ _ h => h.elim
theorem pe_listCal {X : Cx} {k : Nat} {x : Str} {ps : List Str} {sp : SpG} {p pos p2 pos2 : Pos} {e : Expr} {es : List Expr} {t : TA} (C : CalG X.prog X.w X.K X.mg X.base k x ps sp) (hr : Room (k + 3) X.A) (hg : Gl X x) (hl : Gl X "list") (hml : X.mg "list" = none) (ha : PA X (e :: es) t)
    (hdb : (x == ("__debug__" : Str)) = false := by decide) (he : starEach (e :: es) X.env = (false, eval e X.env) :: starEach es X.env := by rfl) (hpl : (backTo pos (starEach es X.env)).any (·.1) = false := by rfl)
    (he2 : starEach [.Call (.Name x p) (e :: es) [] pos] X.env = (false, eval (.Call (.Name x p) (e :: es) [] pos) X.env) :: starEach [] X.env := by rfl) :
    PE X (.Call (.Name "list" p2) [.Call (.Name x p) (e :: es) [] pos] [] pos2) (tListG (tCallG sp [] E0 t)) := by
  obtain ⟨f, fd, F, hm, hk, hb⟩ := C
  exact pe_listG (pgen_call F (hr.mono (by omega)) hg hm hk hb .nil ha hdb he hpl) passG noStop0 hr hl hml rfl (by decide) (by decide) he2
/-! ### what is asked of the sides -/
def lt2 (p s : List Int) : Bool := decide (p.length < s.length) || (decide (p.length = s.length) && decide (p < s))
def upW (s : List Int) : Bool := (List.range (s.length - 1)).all fun k => decide (s.getD k 0 < s.getD (k + 1) 0)
def okS (n : Nat) (s : List Int) : Bool := decide (0 < s.length) && decide (s.length < n) && decide (s.getD 0 0 = 0) && decide (lst s < n) && upW s
def chain (n : Nat) : List Int → List (List Int) → Bool
  | _, [] => true
  | p, s :: ss => okS n s && lt2 p s && chain n s ss
def allS (n : Nat) : Bool := decide ((sidesTo n (n - 1)).length + 1 = 2 ^ (n - 1)) && chain n [] (sidesTo n (n - 1))
theorem allS_ok : ∀ n, n < 11 → allS n = true := by decide +kernel
theorem chain_at {n : Nat} : ∀ {ss : List (List Int)} {p : List Int} {i : Nat} {s : List Int}, chain n p ss = true → ss[i]? = some s → okS n s = true ∧ lt2 ((p :: ss).getD i []) s = true
  | [], _, _, _, _, h => by simp at h
  | s0 :: ss, p, 0, s, hc, h => by
    unfold chain at hc
    rw [Bool.and_eq_true, Bool.and_eq_true] at hc
    cases h
    exact ⟨hc.1.1, hc.1.2⟩
  | s0 :: ss, p, i + 1, s, hc, h => by
    unfold chain at hc
    rw [Bool.and_eq_true, Bool.and_eq_true] at hc
    exact chain_at (p := s0) (i := i) hc.2 (by simpa using h)
def bpy (s : List Int) : PyData := .list [.int (s.length : Nat), .list (s.map PyData.int)]
theorem bpy_alike (p s : List Int) : alike (bpy p) (bpy s) = true := by
  unfold bpy
  simp [alike, alikeAll, alike_ints]
theorem bpy_lt {p s : List Int} (h : lt2 p s = true) : dataLt (bpy p) (bpy s) = true := by
  unfold bpy
  unfold lt2 at h
  rw [Bool.or_eq_true, Bool.and_eq_true, decide_eq_true_iff, decide_eq_true_iff, decide_eq_true_iff] at h
  rw [PySem.W.dataLt_list, PySem.W.dataLt_cons (by simp [alike])]
  by_cases e : p.length = s.length
  · have h2 := (h.resolve_left (by omega)).2
    rw [if_pos (by simp [PyData.eqv, e]), PySem.W.dataLt_cons (by simp [alike, alike_ints])]
    have hne : p ≠ s := fun z => by
      rw [z] at h2
      exact absurd h2 (List.lt_irrefl s)
    rw [if_neg, PySem.W.dataLt_list]
    · have e3 := PySem.W.dataLt_ints p s
      unfold PySem.W.rowLt at e3
      rw [e3]
      exact decide_eq_true h2
    · intro z
      have z2 : (Td.tup (p.map Td.int)) = (Td.tup (s.map Td.int)) := (td_eqv _ _).mp (by
        simp only [Td.py, pys_ints, PyData.eqv] at z ⊢
        exact z)
      injection z2 with z3
      exact hne ((List.map_inj_right fun x y hxy => by injection hxy).mp z3)
  · rw [if_neg (by simp [PyData.eqv]; omega), PySem.W.dataLt_int]
    exact decide_eq_true (by omega)
theorem bpy_dp {K : PySem.W.Frag} {H : Hp} {a b : Addr} {s : List Int} (ha : H a = some (.lst [.int (s.length : Nat), .ref b])) (hb : H b = some (.lst (s.map V.int))) : Dp K H (.ref a) (bpy s) := by
  have h1 : Dp K H (.ref b) (.list (s.map PyData.int)) := ilst_dp hb
  exact .lst (SqL.of ha) (.cons (.int _) (.cons h1 .nil))
theorem bpy_depth (s : List Int) : (bpy s).depth ≤ 60 := by
  unfold bpy
  have := ipy_dep s
  unfold ipy at this
  simp only [PyData.depth, PyData.depthAll, this]
  omega
section
variable {P : Program} {w : World} {K : PySem.W.Frag} {mg : Str → Option Value} {base : Heap} {f : Addr} {fd : FuncData} {cF cR cW : Addr}
def spSR (K : PySem.W.Frag) : Sp := fun vs H Q _ => ∃ n : Nat, vs = [.int (n : Int)] ∧ n ≤ 10 ∧ ∀ H', Same H H' → Q (.bl true) H'
abbrev s__law_sides_right : Stmt := top 58
abbrev N__law_sides_right : List Str := ["places", "told", "many", "k", "before", "side"]
theorem sc__law_sides_right : FnScope N__law_sides_right ["places"] (defScope s__law_sides_right) := ⟨rfl, rfl, rfl, by decide +kernel, rfl, by decide +kernel, by decide +kernel⟩
theorem ok__law_sides_right (F : Fun K "_law_sides_right" "_law_sides_right" s__law_sides_right f fd) (T : Txt mg) (G_sides : CalG P w K mg base 1 "sides" ["places"] (spSides K)) (C__law_is_point : Cal P w K mg base 2 "_law_is_point" ["value", "size"] (spIsPoint K)) :
    FnOk P w K mg base CX0 6 f fd ["places"] (spSR K) := by
  refine F.ok sc__law_sides_right (fun vs H Q E h => ?_) (fun cdv A outer s H vs Q E hr h => ?_)
  · obtain ⟨n, rfl, _⟩ := h
    rfl
  obtain ⟨n, rfl, hn, q⟩ := h
  refine ⟨_, (pss_cons (ps_set (i := 1) sc__law_sides_right.nd rfl (Or.inl rfl) (pe_listCal G_sides (hr.mono (by omega)) rfl rfl T.b_list (pa_cons (pv 0) pa_nil)))
  (pss_cons (ps_set (i := 2) sc__law_sides_right.nd rfl (Or.inl rfl) pe_int)
  (pss_cons (ps_for PassesOwn.never rfl (pi_range2 (by rfl) T.b_range (pa_cons pe_int (pa_cons (pv 0) pa_nil))) (pg_name (i := 3) sc__law_sides_right.nd rfl (Or.inl rfl)) (pss_one (ps_set (i := 2) sc__law_sides_right.nd rfl (Or.inl rfl) (pe_op op_mul pe_int (pv 2)))))
  (pss_cons (ps_if (pt_cmpR op_ne (pe_callB call_len_seq (by rfl) T.b_len PySem.boot_len (pa_cons (pv 1) pa_nil)) (pe_op op_sub (pv 2) pe_int) (nomark _)) (pss_one (ps_ret pe_bl)) pss_nil)
  (pss_cons (ps_set (i := 4) sc__law_sides_right.nd rfl (Or.inl rfl) (pe_lst (pa_cons pe_int (pa_cons (pe_lst pa_nil) pa_nil))))
  (pss_cons (ps_for PassesOwn.never rfl (pi_list (pv 1)) (pg_name (i := 5) sc__law_sides_right.nd rfl (Or.inr rfl)) (pss_cons (ps_if (PW.pt (pw_or (pt_not (pt_val (pe_callB call_isi (by rfl) T.b_isinstance (by decide +kernel) (pa_cons (pv 5) (pa_cons (pe_bltn (v := .ty "tuple") (by rfl) T.b_tuple (by decide +kernel) rfl) pa_nil))))) (pw_or (pt_not (pt_val (pe_cal C__law_is_point (hr.mono (by omega)) rfl (pa_cons (pv 5) (pa_cons (pe_callB call_len_seq (by rfl) T.b_len PySem.boot_len (pa_cons (pv 5) pa_nil)) pa_nil))))) (pw_or1 (pt_not (pt_chain op_lt op_lt pe_int (pe_callB call_len_seq (by rfl) T.b_len PySem.boot_len (pa_cons (pv 5) pa_nil)) (pv 0))))))) (pss_one (ps_ret pe_bl)) pss_nil)
  (pss_cons (ps_if (PW.pt (pw_or (pt_cmpR op_ne (pe_ix ix_tup (pv 5) pe_int (fun _ _ => rfl)) pe_int (nomark _)) (pw_or (pt_cmpR op_ge (pe_ix ix_tup (pv 5) (pe_un un_neg pe_int) (fun _ _ => rfl)) (pv 0) (nomark _)) (pw_or1 (pt_val (pe_callB (cr_any rfl) (by rfl) T.b_any (by decide +kernel) (pa_cons (pe_lc (own := [("k", 3)]) (g := gName 3) (tt := tYes) (by rfl) sc__law_sides_right.nd (pi_range1 (by rfl) T.b_range (pa_cons (pe_op op_sub (pe_callB call_len_seq (by rfl) T.b_len PySem.boot_len (pa_cons (pv 5) pa_nil)) pe_int) pa_nil)) (blkOk_by (N := N__law_sides_right) (sc := defScope s__law_sides_right) (by decide +kernel)) (fun _ _ _ _ _ => (pg_name (i := 3) sc__law_sides_right.nd rfl (Or.inl rfl))) (fun _ _ _ _ _ => pts_nil) (fun _ _ _ _ _ => (pe_cmpR op_ge (pe_ix (ix_tupK (K := K) rfl) (pv 5) (pv 3) (fun _ _ => rfl)) (pe_ix (ix_tupK (K := K) rfl) (pv 5) (pe_op op_add (pv 3) pe_int) (fun _ _ => rfl)) (nomark _)))) pa_nil))))))) (pss_one (ps_ret pe_bl)) pss_nil)
  (pss_cons (ps_if (pt_cmpR (KC.op_leD hr.units) (pe_lst (pa_cons (pe_callB call_len_seq (by rfl) T.b_len PySem.boot_len (pa_cons (pv 5) pa_nil)) (pa_cons (pe_callTy call_list_of (by rfl) T.b_list (by decide +kernel) (pa_cons (pv 5) pa_nil)) pa_nil))) (pv 4) (nomark _)) (pss_one (ps_ret pe_bl)) pss_nil)
  (pss_one (ps_set (i := 4) sc__law_sides_right.nd rfl (Or.inl rfl) (pe_lst (pa_cons (pe_callB call_len_seq (by rfl) T.b_len PySem.boot_len (pa_cons (pv 5) pa_nil)) (pa_cons (pe_callTy call_list_of (by rfl) T.b_list (by decide +kernel) (pa_cons (pv 5) pa_nil)) pa_nil)))))))))
  (pss_one (ps_ret pe_bl)))))))), ?_⟩
  have hall := allS_ok n (by omega)
  unfold allS at hall
  rw [Bool.and_eq_true, decide_eq_true_iff] at hall
  obtain ⟨hcnt, hch⟩ := hall
  generalize hss : sidesTo n (n - 1) = ss at hcnt hch
  refine ⟨_, rfl, n, rfl, hn, fun out H1 s1 hout D hD => ?_⟩
  rw [hss] at hout
  have s2 := s1.trans (same_new hD (.lst out))
  have hD2 : (upd H1 D (.lst out)) D = some (.lst out) := upd_same
  have hz2 := hout.tk (WK.Same.tk (same_new hD (.lst out)))
  have hol : out.length = ss.length := by rw [hout.len, List.length_map]
  show tSeq _ _ _ _ (upd H1 D (.lst out))
  generalize upd H1 D (.lst out) = H2 at s2 hD2 hz2
  refine ⟨_, rfl, 1, (n : Int), rfl, ⟨by decide, by decide, by omega, by omega⟩, for_range (lo := 1) (n := ((n : Int) - 1).toNat) (fun i σ H' => ∃ v3 : Option V, σ = [some (.int (n : Int)), some (.ref D), some (.int ((2 ^ i : Nat) : Int)), v3, none, none] ∧ H' = H2) ⟨none, rfl, rfl⟩ ?_ ?_⟩
  · rintro i σ H' hi ⟨v3, rfl, rfl⟩
    refine ⟨_, rfl, _, _, rfl, rfl, .inl (by decide), some (.int (1 + (i : Int))), ?_, rfl⟩
    rw [Nat.pow_succ, show ((2 ^ i * 2 : Nat) : Int) = 2 * ((2 ^ i : Nat) : Int) by omega]
    rfl
  rintro σ H2 ⟨v3, rfl, rfl⟩
  rw [show ((n : Int) - 1).toNat = n - 1 by omega]
  refine ⟨_, rfl, D, _, rfl, .inl (SqL.of hD2), _, rfl, _, _, rfl, rfl, rfl, _, rfl, ifF (ne_F (by omega)) ?_⟩
  refine ⟨Nat.zero_le _, fun e0 he0 => ⟨two_line, fun b0 hb0 => ?_⟩⟩
  have s4 := (same_new he0 (.lst [])).trans (same_new hb0 (.lst [V.int 0, V.ref e0]))
  have hB0 : (upd (upd H2 e0 (.lst [])) b0 (.lst [V.int 0, V.ref e0])) b0 = some (.lst [.int (([] : List Int).length : Nat), .ref e0]) := upd_same
  have hE0 : (upd (upd H2 e0 (.lst [])) b0 (.lst [V.int 0, V.ref e0])) e0 = some (.lst (([] : List Int).map V.int)) := by rw [upd_ne (ne_of_none (upd_same (H := H2) (a := e0)) hb0), upd_same]; rfl
  show tSeq _ _ _ _ (upd (upd H2 e0 (.lst [])) b0 (.lst [V.int 0, V.ref e0]))
  generalize upd (upd H2 e0 (.lst [])) b0 (.lst [V.int 0, V.ref e0]) = H4 at s4 hB0 hE0
  have hz4 := hz2.tk (WK.Same.tk s4)
  have hD4 := s4 _ _ hD2
  refine ⟨_, rfl, D, rfl, ⟨_, SqL.of hD4⟩, for_list (K := K) (a := D) (xs := out) (fun i σ H' => ∃ (b e : Addr) (v3 v5 : Option V), σ = [some (.int (n : Int)), some (.ref D), some (.int ((2 ^ (n - 1) : Nat) : Int)), v3, some (.ref b), v5] ∧ Same H4 H' ∧ H' b = some (.lst [.int (((([] : List Int) :: ss).getD i []).length : Nat), .ref e]) ∧ H' e = some (.lst (((([] : List Int) :: ss).getD i []).map V.int))) ⟨b0, e0, v3, none, rfl, fun _ _ h => h, hB0, hE0⟩ (fun i σ H' _ ⟨_, _, _, _, _, s, _⟩ => SqL.of (s _ _ hD4)) ?_ ?_⟩
  · rintro i x σ H5 hx ⟨b, e, v3, v5, rfl, s5, hb, he⟩
    obtain ⟨sd, hsd⟩ : ∃ sd, ss[i]? = some sd := ⟨_, List.getElem?_eq_getElem (by have := (List.getElem?_eq_some_iff.mp hx).1; omega)⟩
    obtain ⟨a, ha1, ha2⟩ := side_at hz4 hsd
    rw [hx] at ha1
    cases ha1
    obtain ⟨ok, lt⟩ := chain_at hch hsd
    unfold okS at ok
    simp only [Bool.and_eq_true, decide_eq_true_iff] at ok
    obtain ⟨⟨⟨⟨ok1, ok2⟩, ok3⟩, ok4⟩, ok5⟩ := ok
    have ha5 := Same_seqT s5 ha2
    refine ⟨_, rfl, _, _, _, _, true, rfl, .ty _, ty_tup ha5, kit6, true, rfl, ifF rfl ?_⟩
    refine ⟨_, rfl, _, rfl, a, _, rfl, .inr ha5, a, (sd.map V.int).length, (fun i => sd.getD i 0), rfl, ?_, by rw [List.length_map]; omega, fun H6 s6 => ⟨true, rfl, ifF rfl ?_⟩⟩
    · rw [← vec_of (n := (sd.map V.int).length) (by rw [List.length_map])]
      exact ha5
    have ha6 := Same_seqT s6 ha5
    have hlen : (((sd.map V.int).length : Nat) : Int) = ((sd.length : Nat) : Int) := by rw [List.length_map]
    have at0 : atI (sd.map V.int) 0 = some (.int (sd.getD 0 0)) := at_pos (by decide) (getD_at ok1)
    have s06 := s5.trans s6
    refine ⟨_, rfl, a, _, rfl, .inr ha6, _, _, rfl, rfl, _, rfl, ifT (decide_eq_true (by rw [hlen]; omega)) ⟨_, rfl, _, _, rfl, rfl, _, rfl, ?_⟩⟩
    rw [show decide ((((sd.map V.int).length : Nat) : Int) < (n : Int)) = true from decide_eq_true (by rw [hlen]; omega)]
    refine ifF rfl ?_
    refine ⟨_, rfl, a, _, 0, _, rfl, rfl, ha6, at0, rfl, _, rfl, ifF (ne_F ok3) ?_⟩
    refine ⟨_, rfl, _, rfl, a, _, -1, _, rfl, rfl, ha6, at_last ok1, _, rfl, _, _, rfl, rfl, _, rfl, ifF (decide_eq_false (by omega)) ?_⟩
    refine ⟨_, rfl, a, _, rfl, .inr ha6, _, _, rfl, rfl, _, rfl, by rw [hlen]; omega, by rw [hlen]; omega, fun D3 hD3 => ?_⟩
    refine lc_m (walk_range (lo := 0) (n := ((((sd.map V.int).length : Nat) : Int) - 1).toNat)) RB (stb_RB (K := K)) (List.range (sd.length - 1)) (by rw [List.length_range, hlen]; omega) (by rw [List.length_range]; omega) hD3 (fun _ _ => trivial) (fun _ _ _ _ => ys_fn) (fun _ => false) (fun c k u H7 H8 hb1 s7 s8 y A B hA => ?_) (fun H7 l7 s7 hl7 rs => ?_)
    · obtain ⟨hk, rfl⟩ := in_range hb1
      rw [y.2]
      have ha8 := Same_seqT s8 ha6
      have hup : sd.getD k 0 < sd.getD (k + 1) 0 := by
        unfold upW at ok5
        exact of_decide_eq_true (List.all_eq_true.mp ok5 k (List.mem_range.mpr hk))
      refine ⟨rfl, lc_yes ⟨_, rfl, _, rfl, a, _, _, _, rfl, rfl, ha8, at_pos (by omega) (by rw [show (0 + (k : Int)).toNat = k by omega]; exact getD_at (by omega)), _, rfl, _, rfl, _, _, rfl, rfl, a, _, _, _, rfl, rfl, ha8, at_pos (by omega) (by rw [show (0 + (k : Int) + 1).toNat = k + 1 by omega]; exact getD_at (by omega)), _, _, rfl, rfl, hA _ _ (fun _ _ h => h) ?_⟩⟩
      show V.bl _ = V.bl false
      rw [decide_eq_false (by omega)]
    have hany : (((List.range (sd.length - 1)).map fun _ => false).any id) = false := by
      rw [List.any_map]
      exact List.any_eq_false.mpr fun _ _ => by simp
    refine ⟨D3, _, rfl, SqL.of (by rw [hl7, rs.bls]), _, rfl, ifF (by rw [hany]) ?_⟩
    have ha7 := Same_seqT s7 ha6
    have s07 := s06.trans s7
    refine ⟨_, rfl, a, _, rfl, .inr ha7, _, rfl, a, _, rfl, .inr ha7, fun l1 hl1 => ⟨two_line, fun l2 hl2 => ?_⟩⟩
    have t1 := same_new hl1 (.lst (sd.map V.int))
    have t2 := same_new hl2 (.lst [.int (((sd.map V.int).length : Nat) : Int), .ref l1])
    have hb9 := t2 _ _ (t1 _ _ (s7 _ _ (s6 _ _ hb)))
    have he9 := t2 _ _ (t1 _ _ (s7 _ _ (s6 _ _ he)))
    have hn9 : (upd (upd H7 l1 (.lst (sd.map V.int))) l2 (.lst [.int (((sd.map V.int).length : Nat) : Int), .ref l1])) l2 = some (.lst [.int ((sd.length : Nat) : Int), .ref l1]) := by rw [upd_same, hlen]
    have hl9 := t2 _ _ (upd_same (H := H7) (a := l1) (o := .lst (sd.map V.int)))
    refine ⟨_, rfl, bpy sd, _, bpy_dp hn9 hl9, bpy_dp hb9 he9, bpy_alike _ _, (fun h => by cases h), bpy_depth _, _, rfl, ifF (by rw [bpy_lt lt]; rfl) ?_⟩
    have ha9 := Same_seqT (t1.trans t2) ha7
    refine ⟨_, rfl, a, _, rfl, .inr ha9, _, rfl, a, _, rfl, .inr ha9, fun l3 hl3 => ⟨two_line, fun l4 hl4 => ?_⟩⟩
    have t3 := same_new hl3 (.lst (sd.map V.int))
    have t4 := same_new hl4 (.lst [.int (((sd.map V.int).length : Nat) : Int), .ref l3])
    have enx : (([] : List Int) :: ss).getD (i + 1) [] = sd := by
      rw [List.getD_eq_getElem?_getD, List.getElem?_cons_succ, hsd]
      rfl
    refine ⟨l4, l3, _, _, rfl, s07.trans (t1.trans (t2.trans (t3.trans t4))), ?_, ?_⟩
    · rw [enx, upd_same, hlen]
    · rw [enx]
      exact t4 _ _ upd_same
  · rintro σ H5 ⟨b, e, v3, v5, rfl, s5, _, _⟩
    exact q _ (s2.trans (s4.trans s5))
end
end P15
set_option exponentiation.threshold 3000
namespace P15
open PySem PySem.Spec PyProof.Rows L2 SX EX WK
theorem wsum_Ls (ps : List RW) (i j : Nat) : wsum ps i j = Ls ps fun p => p.2 * p.1.getD i 0 * p.1.getD j 0 := rfl
/-- the product of a row and a point; the sum of the weighted squares -/
def pd (n : Nat) (x : Nat → Int) (p : RW) : Int := S n fun i => p.1.getD i 0 * x i
def sqv (n : Nat) (ps : List RW) (x : Nat → Int) : Int := Ls ps fun p => p.2 * pd n x p * pd n x p
theorem bil_wsum (n : Nat) (ps : List RW) (x : Nat → Int) : bil n (wsum ps) x x = sqv n ps x := by
  have h1 : ∀ i, S n (fun j => wsum ps i j * x j) = Ls ps fun p => p.2 * p.1.getD i 0 * pd n x p := fun i => by
    have e1 : ∀ j, wsum ps i j * x j = Ls ps fun p => p.2 * p.1.getD i 0 * (p.1.getD j 0 * x j) := fun j => by
      rw [wsum_Ls, ← Ls_mulr]
      exact Ls_congr fun p _ => Int.mul_assoc _ _ _
    rw [S_congr fun j _ => e1 j]
    refine (Ls_swap (List.range n) ps fun j p => p.2 * p.1.getD i 0 * (p.1.getD j 0 * x j)).trans (Ls_congr fun p _ => ?_)
    exact Ls_mul _ _ _
  show S n (fun i => x i * S n fun j => wsum ps i j * x j) = _
  have h2 : ∀ i, x i * S n (fun j => wsum ps i j * x j) = Ls ps fun p => p.2 * pd n x p * (p.1.getD i 0 * x i) := fun i => by
    rw [h1, ← Ls_mul]
    refine Ls_congr fun p _ => ?_
    simp only [Int.mul_assoc, Int.mul_left_comm, Int.mul_comm]
  rw [S_congr fun i _ => h2 i]
  refine (Ls_swap (List.range n) ps fun i p => p.2 * pd n x p * (p.1.getD i 0 * x i)).trans (Ls_congr fun p _ => ?_)
  exact Ls_mul _ _ _
theorem bil_mul (n : Nat) (g : Int) (f : Nat → Nat → Int) (x y : Nat → Int) : bil n (fun i j => g * f i j) x y = g * bil n f x y := by
  show S n (fun i => x i * S n fun j => g * f i j * y j) = g * S n fun i => x i * S n fun j => f i j * y j
  rw [← Ls_mul]
  refine S_congr fun i _ => ?_
  have : S n (fun j => g * f i j * y j) = g * S n fun j => f i j * y j := by
    rw [← Ls_mul]
    exact S_congr fun j _ => Int.mul_assoc _ _ _
  rw [this, Int.mul_left_comm]
/-- the same fraction in lowest terms -/
theorem frac_mul {g y c : Int} (hg : 0 < g) : g * y / gI (g * y) (g * c) = y / gI y c ∧ g * c / gI (g * y) (g * c) = c / gI y c := by
  rw [gI_mul hg, Int.mul_ediv_mul_of_pos _ _ hg, Int.mul_ediv_mul_of_pos _ _ hg]
  exact ⟨rfl, rfl⟩
/-! ### the form of a web at a side -/
theorem S_ind (x : Nat → Int) {k : Int} (h0 : 0 ≤ k) : ∀ {n : Nat}, S n (fun i => b2 (decide ((i : Int) = k)) * x i) = if k < (n : Int) then x k.toNat else 0
  | 0 => by
    rw [if_neg (by omega)]
    rfl
  | n + 1 => by
    rw [S_succ, S_ind x h0 (n := n)]
    by_cases h : (n : Int) = k
    · rw [if_neg (by omega), if_pos (by omega), decide_eq_true h, ← h]
      show 0 + 1 * x n = x ((n : Int)).toNat
      rw [Int.toNat_natCast]
      omega
    · rw [decide_eq_false h]
      show _ + 0 * x n = _
      by_cases h2 : k < (n : Int)
      · rw [if_pos h2, if_pos (by omega)]
        omega
      · rw [if_neg h2, if_neg (by omega)]
        omega
theorem pd_trow {pl : Nat} {t : T3} {w : Int} (x : Nat → Int) (h : OkU pl t) : pd pl x (trow pl t, w) = x t.1.toNat - x t.2.1.toNat := by
  unfold pd
  have e : ∀ i, i < pl → (trow pl t).getD i 0 * x i = b2 (decide ((i : Int) = t.1)) * x i + (-1) * (b2 (decide ((i : Int) = t.2.1)) * x i) := fun i hi => by
    rw [trow_at hi, Int.sub_mul]
    omega
  rw [show S pl (fun i => (trow pl t).getD i 0 * x i) = _ from S_congr e, show S pl (fun i => b2 (decide ((i : Int) = t.1)) * x i + (-1) * (b2 (decide ((i : Int) = t.2.1)) * x i)) = S pl (fun i => b2 (decide ((i : Int) = t.1)) * x i) + S pl (fun i => (-1) * (b2 (decide ((i : Int) = t.2.1)) * x i)) from Ls_add _ _ _,
    show S pl (fun i => (-1) * (b2 (decide ((i : Int) = t.2.1)) * x i)) = (-1) * S pl (fun i => b2 (decide ((i : Int) = t.2.1)) * x i) from Ls_mul _ _ _, S_ind x h.a0, S_ind x h.b0, if_pos h.a1, if_pos h.b1]
  omega
def ind (s : List Int) (i : Nat) : Int := b2 (decide ((i : Int) ∈ s))
theorem sqv_cut {pl : Nat} (s : List Int) : ∀ {ts : List T3}, (∀ t ∈ ts, OkU pl t) → sqv pl (psOf pl ts) (ind s) = cutS ts s
  | [], _ => rfl
  | t :: ts, h => by
    have ih := sqv_cut s (ts := ts) fun u hu => h u (List.mem_cons_of_mem _ hu)
    have ht := h t List.mem_cons_self
    rw [cutS_cons, ← ih]
    show Ls ((trow pl t, t.2.2) :: psOf pl ts) _ = _
    rw [Ls_cons]
    congr 1
    show t.2.2 * pd pl (ind s) (trow pl t, t.2.2) * pd pl (ind s) (trow pl t, t.2.2) = _
    rw [pd_trow (ind s) ht]
    unfold ind lvs
    rw [Int.toNat_of_nonneg ht.a0, Int.toNat_of_nonneg ht.b0]
    cases decide (t.1 ∈ s) <;> cases decide (t.2.1 ∈ s) <;> simp [b2]
theorem ind_B {k : Nat} (h : 2 ≤ k) (s : List Int) (i : Nat) : B k (ind s i) := by
  have h1 : B 2 (ind s i) := by
    unfold ind
    show Int.natAbs _ < 2 ^ 2
    cases decide ((i : Int) ∈ s) <;> decide
  exact h1.mono h
/-- the common part of the form of a web -/
def fgw (pl : Nat) (ts : List T3) (b : Int) : Int := gf (wb ts b) (mat pl (wsum (psOf pl (wt ts b)))).flatten
theorem form_low {K : PySem.W.Frag} {H : Hp} {cF F1 : Addr} {pl : Nat} {ts : List T3} {b : Int} (hb : 0 < b) (h : FormAt K H cF F1 pl (fmat pl (wps pl ts b) (wpb pl ts b)) (fbot pl (wps pl ts b) (wpb pl ts b))) :
    FormAt K H cF F1 pl (mat pl fun i j => wsum (psOf pl (wt ts b)) i j / fgw pl ts b) (wb ts b / fgw pl ts b) := by
  rw [wps_eq hb, wpb_eq hb, fmat_eq, fbot_eq] at h
  exact h
theorem fgw_pos {pl : Nat} {ts : List T3} {b : Int} (hb : 0 < b) : 0 < fgw pl ts b := gf_pos (wb_pos hb) _
theorem form_cut {pl : Nat} {ts : List T3} {b : Int} (hok : TOk pl ts b) (s : List Int) {H : Hp} {r : Addr}
    (h : FrAt H r (bil pl (fun i j => wsum (psOf pl (wt ts b)) i j / fgw pl ts b) (ind s) (ind s) / gI (bil pl (fun i j => wsum (psOf pl (wt ts b)) i j / fgw pl ts b) (ind s) (ind s)) (wb ts b / fgw pl ts b)) ((wb ts b / fgw pl ts b) / gI (bil pl (fun i j => wsum (psOf pl (wt ts b)) i j / fgw pl ts b) (ind s) (ind s)) (wb ts b / fgw pl ts b))) :
    LwAt H r (cutS ts s) b := by
  have hb := hok.bot
  have hg := fgw_pos (pl := pl) (ts := ts) hb
  have hgd : fgw pl ts b ∣ wb ts b ∧ ∀ n ∈ (mat pl (wsum (psOf pl (wt ts b)))).flatten, fgw pl ts b ∣ n := gf_dvd (b := wb ts b) (mat pl (wsum (psOf pl (wt ts b)))).flatten
  have hV : cutS (wt ts b) s = fgw pl ts b * bil pl (fun i j => wsum (psOf pl (wt ts b)) i j / fgw pl ts b) (ind s) (ind s) := by
    rw [← sqv_cut s hok.low.ok, ← bil_wsum, ← bil_mul]
    show S pl (fun i => ind s i * S pl fun j => wsum (psOf pl (wt ts b)) i j * ind s j) = S pl fun i => ind s i * S pl fun j => fgw pl ts b * (wsum (psOf pl (wt ts b)) i j / fgw pl ts b) * ind s j
    refine S_congr fun i hi => ?_
    congr 1
    refine S_congr fun j hj => ?_
    rw [Int.mul_ediv_cancel' (hgd.2 _ (mat_mem hi hj))]
  have hbb : wb ts b = fgw pl ts b * (wb ts b / fgw pl ts b) := (Int.mul_ediv_cancel' hgd.1).symm
  refine cut_frac ts hb s ?_
  generalize bil pl (fun i j => wsum (psOf pl (wt ts b)) i j / fgw pl ts b) (ind s) (ind s) = y at hV h
  have hf := frac_mul (g := fgw pl ts b) (y := y) (c := wb ts b / fgw pl ts b) hg
  rw [← hbb, ← hV] at hf
  unfold LwAt
  rw [hf.1, hf.2]
  exact h
section
variable {P : Program} {w : World} {K : PySem.W.Frag} {mg : Str → Option Value} {base : Heap} {f : Addr} {fd : FuncData} {cF cR cW cT cG cC cE cP cS cH fT fG fP : Addr}
/-- rows.form(point) -/
def CallF (P : Program) (w : World) (K : PySem.W.Frag) (mg : Str → Option Value) (base : Heap) (cF : Addr) : Prop :=
  ∃ (f : Addr) (fd : FuncData), FnOk P w K mg base CX0 3 f fd ["self", "point"] (spCall K cF) ∧ WC.Cl K cF f ∧ Binds K fd ["self", "point"] []
theorem pe_formCall {X : Cx} {cF cR : Addr} {o : Expr} {apos pos : Pos} {e : Expr} {es : List Expr} {ta : TE} {t : TA} {pl : Sem Bool} (C : CallF X.prog X.w X.K X.mg X.base cF) (hc : Cls X.K cR) (hn : NoAttr X.K cR "form") (hr : Room 3 X.A) (he : PE X o ta) (ha : PA X (e :: es) t)
    (hst : starEach (e :: es) X.env = (false, eval e X.env) :: starEach es X.env := by rfl) (hpl : (backTo pos (starEach es X.env)).any (·.1) = false := by rfl)
    (ht : eval (.Call (.Attribute o "form" apos) (e :: es) [] pos) X.env = (do
      let ov ← eval o X.env
      standAt apos.atName
      let (f, first) ← holding [ov] (getMethod ov "form" pl)
      callWith pos f first (backTo pos (starEach (e :: es) X.env)) (backToKw pos (keywordEach [] X.env))) := by rfl) :
    PE X (.Call (.Attribute o "form" apos) (e :: es) [] pos) (KO.tFldCall cR "form" cF (spCall X.K cF) E0 ta t) := by
  obtain ⟨f, fd, F, L, b⟩ := C
  exact KO.pe_fldCall he hc hn F L hr b pass0 ha hst hpl ht
theorem op_eqDK {X : Cx} {K : PySem.W.Frag} (hK : X.K = K) (hu : X.A.units + 64 < cLine) : OpR X (compareOp .Eq) (rEqD K) := by
  subst hK
  exact op_eqD hu
def spCutR (K : PySem.W.Frag) (cF cR cW : Addr) : Sp := fun vs H Q _ => ∃ (p dr r : Addr) (pl : Nat) (ts : List T3) (b : Int) (xs : List Int), vs = [.ref p, .ref dr, .ref r] ∧ WebAt K H cF cR cW p pl ts b ∧ DrW K H dr pl ts b ∧ TOk pl ts b ∧ pl ≤ 10 ∧ H r = some (.lst (xs.map V.int)) ∧ xs.length = 11 ∧ ∀ H', Same H H' → Q (.bl true) H'
abbrev s__law_cut_right : Stmt := top 57
abbrev N__law_cut_right : List Str := ["web", "drawn", "row", "side", "due", "handed", "told", "place", "one"]
theorem sc__law_cut_right : FnScope N__law_cut_right ["web", "drawn", "row"] (defScope s__law_cut_right) := ⟨rfl, rfl, rfl, by decide +kernel, rfl, by decide +kernel, by decide +kernel⟩
theorem ok__law_cut_right (F : Fun K "_law_cut_right" "_law_cut_right" s__law_cut_right f fd) (T : Txt mg) (O2 : ObW K cW) (C_form : CallF P w K mg base cF) (C_cut : Cal P w K mg base 4 "cut" ["web", "side"] (spCut K cF cR cW)) (C__law_is_fraction : Cal P w K mg base 2 "_law_is_fraction" ["value"] spFrac)
    (C__law_cut : Cal P w K mg base 1 "_law_cut" ["ties", "side"] (spLCut K)) (C__law_least : Cal P w K mg base 2 "_law_least" ["top", "base"] spLeast) : FnOk P w K mg base CX0 6 f fd ["web", "drawn", "row"] (spCutR K cF cR cW) := by
  refine F.ok sc__law_cut_right (fun vs H Q E h => ?_) (fun cdv A outer s H vs Q E hr h => ?_)
  · obtain ⟨p, dr, r, pl, ts, b, xs, rfl, _⟩ := h
    rfl
  obtain ⟨p, dr, r, pl, ts, b, xs, rfl, hw, hdr, hok, hpl, hr1, hx, q⟩ := h
  refine ⟨_, (pss_cons (ps_set (i := 3) sc__law_cut_right.nd rfl (Or.inr rfl) (pe_lc (own := [("place", 7)]) (g := gName 7) (by rfl) sc__law_cut_right.nd (pi_range1 (by rfl) T.b_range (pa_cons (pe_ix ix_list (pv 1) pe_int (fun _ _ => rfl)) pa_nil)) (blkOk_by (N := N__law_cut_right) (sc := defScope s__law_cut_right) (by decide +kernel)) (fun _ _ _ _ _ => (pg_name (i := 7) sc__law_cut_right.nd rfl (Or.inl rfl))) (fun _ _ _ _ _ => (pts_one (pt_cmpR op_eq (pe_ix (ix_listK (K := K) rfl) (pv 2) (pv 7) (fun _ _ => rfl)) pe_int (nomark _)))) (fun _ _ _ _ _ => (pv 7))))
  (C8.pss_cut (ps_if (pt_cmpR op_eq (pe_ix ix_list (pv 2) pe_int (fun _ _ => rfl)) pe_int (nomark _)) (pss_one (ps_set (i := 3) sc__law_cut_right.nd rfl (Or.inr rfl) (pe_revL (pv 3)))) pss_nil)
  (pss_cons (ps_set (i := 4) sc__law_cut_right.nd rfl (Or.inr rfl) (pe_cal C__law_least (hr.mono (by omega)) rfl (pa_cons (pe_cal C__law_cut (hr.mono (by omega)) rfl (pa_cons (pe_ix ix_list (pv 1) pe_int (fun _ _ => rfl)) (pa_cons (pv 3) pa_nil))) (pa_cons (pe_ix ix_list (pv 1) pe_int (fun _ _ => rfl)) pa_nil))))
  (pss_cons (ps_set (i := 5) sc__law_cut_right.nd rfl (Or.inl rfl) (pe_callTy call_list_of (by rfl) T.b_list (by decide +kernel) (pa_cons (pv 3) pa_nil)))
  (pss_cons (ps_set (i := 6) sc__law_cut_right.nd rfl (Or.inl rfl) (pe_lst (pa_cons (pe_cal C_cut (hr.mono (by omega)) rfl (pa_cons (pv 0) (pa_cons (pv 5) pa_nil))) (pa_cons (pe_cal C_cut (hr.mono (by omega)) rfl (pa_cons (pv 0) (pa_cons (pe_callTy call_tuple_of (by rfl) T.b_tuple (by decide +kernel) (pa_cons (pv 3) pa_nil)) pa_nil))) (pa_cons (pe_formCall C_form O2.clW O2.W_form (hr.mono (by omega)) (pv 0) (pa_cons (pe_lc (own := [("place", 7)]) (g := gName 7) (tt := tYes) (by rfl) sc__law_cut_right.nd (pi_range1 (by rfl) T.b_range (pa_cons (pe_ix ix_list (pv 1) pe_int (fun _ _ => rfl)) pa_nil)) (blkOk_by (N := N__law_cut_right) (sc := defScope s__law_cut_right) (by decide +kernel)) (fun _ _ _ _ _ => (pg_name (i := 7) sc__law_cut_right.nd rfl (Or.inl rfl))) (fun _ _ _ _ _ => pts_nil) (fun _ _ _ _ _ => (pe_callTy call_int1 (by rfl) T.b_int (by decide +kernel) (pa_cons (pe_cmpR (op_in_seqK (K := K) rfl) (pv 7) (pv 3) (by rfl)) pa_nil)))) pa_nil)) pa_nil)))))
  (pss_one (ps_ret (pe_and (pe_cmpR (op_eqD hr.units) (pv 5) (pv 3) (nomark _)) (pe_one (pe_callB (cr_all rfl) (by rfl) T.b_all (by decide +kernel) (pa_cons (pe_lc (own := [("one", 8)]) (g := gName 8) (tt := tYes) (by rfl) sc__law_cut_right.nd (pi_list (pv 6)) (blkOk_by (N := N__law_cut_right) (sc := defScope s__law_cut_right) (by decide +kernel)) (fun _ _ _ _ _ => (pg_name (i := 8) sc__law_cut_right.nd rfl (Or.inl rfl))) (fun _ _ _ _ _ => pts_nil) (fun _ _ _ _ _ => (pe_and (pe_cal C__law_is_fraction (hr.mono (by omega)) rfl (pa_cons (pv 8) pa_nil)) (pe_one (pe_cmpR (op_eqDK (K := K) rfl hr.units) (pv 8) (pv 4) (nomark _)))))) pa_nil))))))))))), ?_⟩
  have hb := hok.bot
  obtain ⟨c, hd, hts⟩ := id hdr
  have hsh := SqL.of (K := K) hr1
  refine ⟨_, rfl, dr, _, 0, _, rfl, rfl, SqL.of hd, at_pos (by decide) rfl, (pl : Int), rfl, by omega, by omega, fun D hD => ?_⟩
  refine lc_f (walk_range (lo := 0) (n := pl)) RI (stb_RI (K := K)) (List.range pl) (by rw [List.length_range]) (by rw [List.length_range]; omega) hD (fun _ _ => trivial) (fun _ _ _ _ => ys_fn) (fun i => if xs.getD i 0 = 1 then some (i : Int) else none) (fun c1 i x H1 H2 hc s1 s2 yl A B' hA hBn => ?_) (fun H1 l s1 hl1 rs => ?_)
  · obtain ⟨hc1, rfl⟩ := in_range hc
    rw [yl.2]
    obtain ⟨x, hxx⟩ : ∃ x, xs[i]? = some x := ⟨_, List.getElem?_eq_getElem (by omega)⟩
    have hg : xs.getD i 0 = x := by rw [List.getD_eq_getElem?_getD, hxx]; rfl
    refine ⟨rfl, ⟨_, rfl, _, rfl, r, _, _, _, rfl, rfl, SqL.of (s2 _ _ hr1), at_pos (by omega) (by rw [show (0 + (i : Int)).toNat = i by omega, List.getElem?_map, hxx]; rfl), rfl, _, rfl, ?_⟩⟩
    by_cases e1 : x = 1
    · exact ifT (int_eq e1) ⟨_, rfl, hA _ _ _ (by rw [hg]; exact if_pos e1) (fun _ _ h => h) (by show V.int (0 + (i : Int)) = V.int (i : Int); rw [Int.zero_add])⟩
    · exact ifF (int_ne e1) (hBn (by rw [hg]; exact if_neg e1) _ fun _ _ h => h)
  have hl2 := rs.ints
  obtain ⟨S0, hS0⟩ : ∃ S0, S0 = (List.range pl).filterMap fun i => if xs.getD i 0 = 1 then some (i : Int) else none := ⟨_, rfl⟩
  rw [← hS0] at hl2
  have hS0l : S0.length ≤ 10 := by
    rw [hS0]
    refine Nat.le_trans (List.length_filterMap_le _ _) ?_
    rw [List.length_range]
    exact hpl
  rw [hl2] at hl1
  have hr1' := s1 _ _ hr1
  obtain ⟨x10, hx10⟩ : ∃ x, xs[10]? = some x := ⟨_, List.getElem?_eq_getElem (by omega)⟩
  have ex10 : (xs.map V.int)[(10 : Int).toNat]? = some (.int x10) := by
    show (xs.map V.int)[10]? = _
    rw [List.getElem?_map, hx10]
    rfl
  refine ⟨fun σ' H' => ∃ (a : Addr) (S : List Int), σ' = [some (.ref p), some (.ref dr), some (.ref r), some (.ref a), none, none, none, none, none] ∧ Same H1 H' ∧ H' a = some (.lst (S.map V.int)) ∧ S.length ≤ 10, ?_, ?_⟩
  · refine ⟨_, rfl, r, _, 10, _, rfl, rfl, SqL.of hr1', at_pos (by decide) ex10, rfl, _, rfl, ?_⟩
    by_cases e1 : x10 = 1
    · refine ifT (int_eq e1) ⟨_, rfl, D, _, rfl, SqL.of hl1, fun p2 hp2 => ⟨p2, S0.reverse, rfl, same_new hp2 _, ?_, by rw [List.length_reverse]; exact hS0l⟩⟩
      rw [upd_same, List.map_reverse]
    · exact ifF (int_ne e1) ⟨D, S0, rfl, fun _ _ h => h, hl1, hS0l⟩
  clear hl1 rs hS0 hS0l hl2
  rintro σ H2 ⟨a, S, rfl, s2, ha, hSl⟩
  have s02 := s1.trans s2
  have hd2 := s02 _ _ hd
  refine ⟨_, rfl, dr, _, 1, _, rfl, rfl, SqL.of hd2, at_pos (by decide) rfl, _, rfl, c, a, ts, S, rfl, hts.same s02, .inl (SqL.of ha), hok.len, fun H3 s3 => ?_⟩
  refine ⟨_, rfl, dr, _, 2, _, rfl, rfl, SqL.of (s3 _ _ hd2), at_pos (by decide) rfl, _, b, rfl, hb, hok.bB.mono (by omega), fun du H4 s4 hdu => ?_⟩
  have s24 := s3.trans s4
  have hdu4 : LwAt H4 du (cutS ts S) b := hdu
  refine ⟨_, rfl, a, _, rfl, .inl (SqL.of (s24 _ _ ha)), fun ha2 hha => ?_⟩
  have s5 := same_new hha (.lst (S.map V.int))
  have h5 : (upd H4 ha2 (.lst (S.map V.int))) ha2 = some (.lst (S.map V.int)) := upd_same
  show tSeq _ _ _ _ (upd H4 ha2 (.lst (S.map V.int)))
  generalize upd H4 ha2 (.lst (S.map V.int)) = H5 at s5 h5
  have s25 := s24.trans s5
  have s05 := s02.trans s25
  refine ⟨_, rfl, _, rfl, p, _, pl, ts, b, S, rfl, hw.same s05, .lst h5 (FzAll.of_ints _).sn, by omega, hok, fun r1 H6 s6 hr1a => ?_⟩
  have s06 := s05.trans s6
  have ha6 := s6 _ _ (s25 _ _ ha)
  refine ⟨_, rfl, _, rfl, a, _, rfl, .inl ⟨SqL.of ha6, fun t ht => ?_⟩⟩
  have s7 := same_new ht (.tup (S.map V.int))
  have h7 : SqT K (upd H6 t (.tup (S.map V.int))) t (S.map V.int) := SqT.of upd_same
  refine ⟨p, _, pl, ts, b, S, rfl, hw.same (s06.trans s7), .tup h7 (FzAll.of_ints _).sn, by omega, hok, fun r2 H8 s8 hr2a => ?_⟩
  have s68 := s7.trans s8
  have s08 := s06.trans s68
  obtain ⟨dx, e, R1, F1, hi, hz, _, hform⟩ := id (hw.same s08)
  have hF8 := form_low hb hform
  have ha8 := s68 _ _ ha6
  obtain ⟨dF, eF, hFi, hFz⟩ := id hF8
  refine ⟨_, rfl, p, dx, _, F1, dF, [("size", .int pl), ("entries", .ref eF), ("bottom", .int (wb ts b / fgw pl ts b))], rfl, hi, lkWf _ _ _ _ _, ?_⟩
  refine ⟨_, rfl, dr, _, 0, _, rfl, rfl, SqL.of (s08 _ _ hd), at_pos (by decide) rfl, (pl : Int), rfl, by omega, by omega, fun D3 hD3 => ?_⟩
  refine lc_m (walk_range (lo := 0) (n := pl)) RI (stb_RI (K := K)) (List.range pl) (by rw [List.length_range]) (by rw [List.length_range]; omega) hD3 (fun _ _ => trivial) (fun _ _ _ _ => ys_fn) (fun i => ind S i) (fun c1 i x H9 H10 hc s9 s10 yl A B' hA => ?_) (fun H9 l9 s9 hl9 rs9 => ?_)
  · obtain ⟨hc1, rfl⟩ := in_range hc
    rw [yl.2]
    refine ⟨rfl, lc_yes ⟨_, rfl, _, rfl, a, _, rfl, .inl (SqL.of (s10 _ _ ha8)), rfl, flat_ints _, .inr ⟨_, rfl, hA _ _ (fun _ _ h => h) ?_⟩⟩⟩
    rw [inV_ints, Int.zero_add]
    rfl
  have hv9 : H9 D3 = some (.lst ((vec pl (ind S)).map V.int)) := by rw [hl9, rs9.ints]; rfl
  refine ⟨s9 _ _ hFi, F1, .ref D3, pl, _, _, ind S, rfl, hF8.at (fun o => s9 _ _) (WK.Same.tk s9), .lst hv9 (FzAll.of_ints _).sn, by omega, ?_, ?_, fun i _ => ind_B (by decide) S i, ?_, fun r3 H11 s11 hr3 => ?_⟩
  · exact quot_pos (fgw_pos hb) (gf_dvd _).1 (wb_pos hb)
  · exact B.div (fgw_pos hb) ((wb_B hb hok.bB).mono (by omega))
  · intro i j hi hj
    exact (B.div (fgw_pos hb) (wsum_B (prs_of (by rw [wt_len]; exact hok.len) (wt_ok hb hok.ok hok.bd)) i j)).mono (by decide)
  have hr3a := form_cut hok S hr3
  clear hr3 hF8 hform hFi hFz hv9 hl9 rs9 hD3
  refine ⟨three_line, fun L hL => ?_⟩
  have s12 := same_new hL (.lst [.ref r1, .ref r2, .ref r3])
  have hL2 : (upd H11 L (.lst [.ref r1, .ref r2, .ref r3])) L = some (.lst [.ref r1, .ref r2, .ref r3]) := upd_same
  have k11 := s9.trans s11
  have g1 := (hr1a.same s68).same (k11.trans s12)
  have g2 := hr2a.same (k11.trans s12)
  have g3 := hr3a.same s12
  have gd := hdu4.same (s5.trans (s6.trans (s68.trans (k11.trans s12))))
  have ga := (k11.trans s12) _ _ ha8
  have gh := (s6.trans (s68.trans (k11.trans s12))) _ _ h5
  have s0F := s08.trans (k11.trans s12)
  show tSeq _ _ _ _ (upd H11 L (.lst [.ref r1, .ref r2, .ref r3]))
  generalize upd H11 L (.lst [.ref r1, .ref r2, .ref r3]) = HF at hL2 g1 g2 g3 gd ga gh s0F
  refine ⟨_, rfl, _, rfl, _, _, ilst_dp gh, ilst_dp ga, ilst_shaped _, ilst_shaped _, _, rfl, ifT (eqv_self (ilst_shaped S)) ?_⟩
  refine ⟨_, rfl, L, rfl, ⟨_, SqL.of hL2⟩, fun D4 hD4 => ?_⟩
  refine lc_m (walk_list (K := K) (a := L) (xs := [V.ref r1, V.ref r2, V.ref r3])) RB (stb_RB (K := K)) [r1, r2, r3] rfl (by show 3 ≤ 16000000; decide) hD4 (fun H' s => s.seq (SqL.of hL2)) (fun _ _ _ _ => ys_at) (fun _ => true) (fun i q0 u H8 H9 hb1 s8 s9 yl A B hA => ?_) (fun H8 l s8 hl8 rs => ?_)
  · have hu : u = .ref q0 ∧ LwAt HF q0 (cutS ts S) b := by
      have hy := yl.2
      match i, hb1, hy with
      | 0, hb1, hy =>
        cases hb1
        cases hy
        exact ⟨rfl, g1⟩
      | 1, hb1, hy =>
        cases hb1
        cases hy
        exact ⟨rfl, g2⟩
      | 2, hb1, hy =>
        cases hb1
        cases hy
        exact ⟨rfl, g3⟩
      | _ + 3, hb1, _ => simp at hb1
    obtain ⟨rfl, hq⟩ := hu
    have hq9 := hq.same s9
    have gd9 := gd.same s9
    refine ⟨rfl, lc_yes ⟨_, rfl, q0, _, _, rfl, hq9, (low_ok hb).1, low_B hb (hok.bB.mono (by omega)), (low_ok hb).2, _, rfl, ifT rfl ?_⟩⟩
    refine ⟨_, rfl, _, rfl, _, _, fr_dp hq9, fr_dp gd9, fr_shaped _ _, fr_shaped _ _, hA _ _ (fun _ _ h => h) ?_⟩
    rw [eqv_self (fr_shaped _ _)]
    rfl
  · refine ⟨D4, _, rfl, SqL.of (by rw [hl8, rs.bls]), ?_⟩
    exact q H8 (s0F.trans s8)
end
end P15
set_option exponentiation.threshold 3000
namespace P15
open PySem PySem.Spec PyProof.Rows L2 SX EX WK
theorem cut_from {xs : List V} {z : Int} {k : Nat} (h : z = (k : Int)) (hk : k ≤ xs.length) : cutV xs (some z) none = xs.drop k := by
  unfold cutV
  have g1 : HT.sIx xs.length 0 (some z) = k := sIx_of h hk
  have g2 : HT.sIx xs.length xs.length none = xs.length := rfl
  rw [g1, g2]
  exact List.take_of_length_le (by rw [List.length_drop]; exact Nat.le_refl _)
theorem td_ok {pl : Nat} {ts : List T3} {b : Int} (h : TD pl ts b 60 160) : TOk pl ts b := ⟨h.ok, fun t ht => (h.bd t ht).mono (by decide), Nat.le_trans h.len (by decide), Nat.le_trans h.plB (by decide), h.bot, h.bB.mono (by decide)⟩
def zs15 : List Int := [2520, 2520, 2520, 2520, 2, 2, 2, 2, 2, 2, 2, 2, 2, 2, 2]
section
variable {P : Program} {w : World} {K : PySem.W.Frag} {mg : Str → Option Value} {base : Heap} {f : Addr} {fd : FuncData} {cF cR cW cT cG cC cE cP cS cH fT fG fP : Addr}
def spLaw (K : PySem.W.Frag) : Sp := fun vs H Q _ => ∃ (a : Addr) (ns : List Int), vs = [.ref a] ∧ SqL K H a (ns.map V.int) ∧ ns.length ≤ 63 ∧ ∀ H', Q (.bl true) H'
abbrev s_law : Stmt := top 61
abbrev N_law : List Str := ["script", "drawn", "other", "row", "web", "more", "one", "two"]
theorem sc_law : FnScope N_law ["script"] (defScope s_law) := ⟨rfl, rfl, rfl, by decide +kernel, rfl, by decide +kernel, by decide +kernel⟩
theorem ok_law (F : Fun K "law" "law" s_law f fd) (T : Txt mg) (C_Web : CalK P w K mg base 8 "Web" cW 2 ["bottom"] (fun vs H Q _ => spWeb K cF cR cW cT cG vs H Q E0))
    (C__law_draw_web : Cal P w K mg base 2 "_law_draw_web" ["script", "at"] (spDraw K)) (C__law_digits : Cal P w K mg base 1 "_law_digits" ["cell", "sizes"] (spDigits K)) (C__law_cell : Cal P w K mg base 1 "_law_cell" ["script", "k"] (spCell K))
    (C__law_sides_right : Cal P w K mg base 6 "_law_sides_right" ["places"] (spSR K)) (C__law_asked : Cal P w K mg base 7 "_law_asked" ["web", "drawn", "one", "two"] (spAsked K cF cR cW)) (C__law_cut_right : Cal P w K mg base 6 "_law_cut_right" ["web", "drawn", "row"] (spCutR K cF cR cW)) :
    FnOk P w K mg base CX0 12 f fd ["script"] (spLaw K) := by
  refine F.ok sc_law (fun vs H Q E h => ?_) (fun cdv A outer s H vs Q E hr h => ?_)
  · obtain ⟨a, sc, rfl, _⟩ := h
    rfl
  obtain ⟨a, sc, rfl, hs, hlen0, q⟩ := h
  refine ⟨_, (pss_cons (ps_set (i := 1) sc_law.nd rfl (Or.inl rfl) (pe_cal C__law_draw_web (hr.mono (by omega)) rfl (pa_cons (pv 0) (pa_cons pe_int pa_nil))))
  (pss_cons (ps_set (i := 2) sc_law.nd rfl (Or.inl rfl) (pe_cal C__law_draw_web (hr.mono (by omega)) rfl (pa_cons (pv 0) (pa_cons pe_int pa_nil))))
  (pss_cons (ps_set (i := 3) sc_law.nd rfl (Or.inl rfl) (pe_cal C__law_digits (hr.mono (by omega)) rfl (pa_cons (pe_cal C__law_cell (hr.mono (by omega)) rfl (pa_cons (pv 0) (pa_cons pe_int pa_nil))) (pa_cons (pe_op op_cat (pe_op op_rep (pe_lst (pa_cons pe_int pa_nil)) pe_int) (pe_op op_rep (pe_lst (pa_cons pe_int pa_nil)) pe_int)) pa_nil))))
  (pss_cons (ps_set (i := 4) sc_law.nd rfl (Or.inl rfl) (pe_calK C_Web (hr.mono (by omega)) rfl (pa_cons (pe_ix ix_list (pv 1) pe_int (fun _ _ => rfl)) (pa_cons (pe_callTy call_list_of (by rfl) T.b_list (by decide +kernel) (pa_cons (pe_ix ix_list (pv 1) pe_int (fun _ _ => rfl)) pa_nil)) pa_nil)) (pk_cons (pe_ix ix_list (pv 1) pe_int (fun _ _ => rfl)) pk_nil)))
  (pss_cons (ps_set (i := 5) sc_law.nd rfl (Or.inl rfl) (pe_calK C_Web (hr.mono (by omega)) rfl (pa_cons (pe_ix ix_list (pv 2) pe_int (fun _ _ => rfl)) (pa_cons (pe_callTy call_list_of (by rfl) T.b_list (by decide +kernel) (pa_cons (pe_ix ix_list (pv 2) pe_int (fun _ _ => rfl)) pa_nil)) pa_nil)) (pk_cons (pe_ix ix_list (pv 2) pe_int (fun _ _ => rfl)) pk_nil)))
  (pss_cons (ps_if (PW.pt (pw_or (pt_not (pt_val (pe_cal C__law_cut_right (hr.mono (by omega)) rfl (pa_cons (pv 4) (pa_cons (pv 1) (pa_cons (pe_slice sl_list (pv 3) (po_some pe_int) po_none) pa_nil)))))) (pw_or1 (pt_not (pt_val (pe_cal C__law_cut_right (hr.mono (by omega)) rfl (pa_cons (pv 5) (pa_cons (pv 2) (pa_cons (pe_slice sl_list (pv 3) (po_some pe_int) po_none) pa_nil))))))))) (pss_one (ps_ret pe_bl)) pss_nil)
  (pss_cons (ps_if (pt_not (pt_val (pe_cal C__law_sides_right (hr.mono (by omega)) rfl (pa_cons (pe_ix ix_list (pv 1) pe_int (fun _ _ => rfl)) pa_nil)))) (pss_one (ps_ret pe_bl)) pss_nil)
  (C8.pss_cut (ps_if (pt_cmpR op_gt (pe_ix ix_list (pv 1) pe_int (fun _ _ => rfl)) pe_int (nomark _)) (pss_cons (ps_set (i := 6) sc_law.nd rfl (Or.inl rfl) (pe_op op_mod (pe_callTy call_int1 (by rfl) T.b_int (by decide +kernel) (pa_cons (pe_ix ix_list (pv 3) pe_int (fun _ _ => rfl)) pa_nil)) (pe_ix ix_list (pv 1) pe_int (fun _ _ => rfl))))
  (pss_cons (ps_set (i := 7) sc_law.nd rfl (Or.inl rfl) (pe_op op_mod (pe_callTy call_int1 (by rfl) T.b_int (by decide +kernel) (pa_cons (pe_ix ix_list (pv 3) pe_int (fun _ _ => rfl)) pa_nil)) (pe_ix ix_list (pv 1) pe_int (fun _ _ => rfl))))
  (pss_one (ps_if (pt_not (pt_val (pe_cal C__law_asked (hr.mono (by omega)) rfl (pa_cons (pv 4) (pa_cons (pv 1) (pa_cons (pv 6) (pa_cons (pv 7) pa_nil))))))) (pss_one (ps_ret pe_bl)) pss_nil)))) pss_nil)
  (C8.pss_cut (ps_if (PW.pt (pw_and (pt_cmpR op_gt (pe_ix ix_list (pv 2) pe_int (fun _ _ => rfl)) pe_int (nomark _)) (pw_and1 (pt_not (pt_val (pe_cal C__law_asked (hr.mono (by omega)) rfl (pa_cons (pv 5) (pa_cons (pv 2) (pa_cons (pe_op op_mod (pe_callTy call_int1 (by rfl) T.b_int (by decide +kernel) (pa_cons (pe_ix ix_list (pv 3) pe_int (fun _ _ => rfl)) pa_nil)) (pe_ix ix_list (pv 2) pe_int (fun _ _ => rfl))) (pa_cons (pe_op op_mod (pe_callTy call_int1 (by rfl) T.b_int (by decide +kernel) (pa_cons (pe_ix ix_list (pv 3) pe_int (fun _ _ => rfl)) pa_nil)) (pe_ix ix_list (pv 2) pe_int (fun _ _ => rfl))) pa_nil)))))))))) (pss_one (ps_ret pe_bl)) pss_nil)
  (pss_cons (ps_if (pt_cmpR op_gt (pe_ix ix_list (pv 1) pe_int (fun _ _ => rfl)) pe_int (nomark _)) (pss_one (ps_ret (pe_cal C__law_asked (hr.mono (by omega)) rfl (pa_cons (pv 4) (pa_cons (pv 1) (pa_cons (pv 6) (pa_cons (pe_op op_mod (pe_callTy call_int1 (by rfl) T.b_int (by decide +kernel) (pa_cons (pe_op op_add (pe_op op_add (pv 6) pe_int) (pe_op op_mod (pe_callTy call_int1 (by rfl) T.b_int (by decide +kernel) (pa_cons (pe_ix ix_list (pv 3) pe_int (fun _ _ => rfl)) pa_nil)) (pe_op op_sub (pe_ix ix_list (pv 1) pe_int (fun _ _ => rfl)) pe_int))) pa_nil)) (pe_ix ix_list (pv 1) pe_int (fun _ _ => rfl))) pa_nil))))))) pss_nil)
  (pss_one (ps_ret pe_bl)))))))))))), ?_⟩
  refine ⟨_, rfl, a, sc, 0, rfl, hs, by decide, by decide, fun dr H1 pl ts b s1 hdr htd hpl => ?_⟩
  refine ⟨_, rfl, a, sc, 14, rfl, s1.seq hs, by decide, by decide, fun dr2 H2 pl2 ts2 b2 s2 hdr2 htd2 hpl2 => ?_⟩
  have hok := td_ok htd
  have hok2 := td_ok htd2
  have hno := wflt_ok htd.ok
  have hno2 := wflt_ok htd2.ok
  obtain ⟨c0, hd1, htl1⟩ := id (hdr.same s2)
  obtain ⟨c2, hd2, htl2⟩ := id hdr2
  have hdrA := hdr.same s2
  have s02 := s1.trans s2
  -- row
  refine ⟨_, rfl, a, sc, 28, rfl, s02.seq hs, by decide, by decide, fun cell => ⟨Nat.le_of_lt (by decide), fun l1 hl1 => ?_⟩⟩
  refine ⟨l1, 4, _, rfl, rfl, upd_same, by omega, by omega, line_ge (by show 1 * 4 ≤ 100000; decide), fun l2 hl2 => ⟨line_ge (by show 1 ≤ 100000; decide), fun l3 hl3 => ⟨l3, 11, _, rfl, rfl, upd_same, by omega, by omega, line_ge (by show 1 * 11 ≤ 100000; decide), fun l4 hl4 => ?_⟩⟩⟩
  have m1 := same_new hl1 (.lst [V.int 2520])
  have m2 := same_new hl2 (.lst (List.replicate (4 : Int).toNat [V.int 2520]).flatten)
  have m3 := same_new hl3 (.lst [V.int 2])
  have m4 := same_new hl4 (.lst (List.replicate (11 : Int).toNat [V.int 2]).flatten)
  refine ⟨l2, l4, _, _, rfl, rfl, m4 _ _ (m3 _ _ upd_same), upd_same, line_ge (by show 15 ≤ 100000; decide), fun l5 hl5 => ?_⟩
  refine ⟨cell, l5, zs15, rfl, SqL.of (by rw [upd_same]; rfl), by decide, szs (by decide), fun p ds hp hd => ?_⟩
  have m5 := same_new hl5 (.lst ((List.replicate (4 : Int).toNat [V.int 2520]).flatten ++ (List.replicate (11 : Int).toNat [V.int 2]).flatten))
  have m6 := same_new hp (.lst (ds.map V.int))
  have s3 := m1.trans (m2.trans (m3.trans (m4.trans (m5.trans m6))))
  have hpr : (upd (upd (upd (upd (upd (upd H2 l1 (.lst [V.int 2520])) l2 (.lst (List.replicate (4 : Int).toNat [V.int 2520]).flatten)) l3 (.lst [V.int 2])) l4 (.lst (List.replicate (11 : Int).toNat [V.int 2]).flatten)) l5 (.lst ((List.replicate (4 : Int).toNat [V.int 2520]).flatten ++ (List.replicate (11 : Int).toNat [V.int 2]).flatten))) p (.lst (ds.map V.int))) p = some (.lst (ds.map V.int)) := upd_same
  have hdl : ds.length = 15 := hd.len
  obtain ⟨x0, e0, _, _⟩ := dg hd (i := 0) (z := 2520) rfl
  obtain ⟨x1, e1, _, _⟩ := dg hd (i := 1) (z := 2520) rfl
  obtain ⟨x2, e2, _, _⟩ := dg hd (i := 2) (z := 2520) rfl
  obtain ⟨x3, e3, _, _⟩ := dg hd (i := 3) (z := 2520) rfl
  show tSeq _ _ _ _ (upd (upd (upd (upd (upd (upd H2 l1 (.lst [V.int 2520])) l2 (.lst (List.replicate (4 : Int).toNat [V.int 2520]).flatten)) l3 (.lst [V.int 2])) l4 (.lst (List.replicate (11 : Int).toNat [V.int 2]).flatten)) l5 (.lst ((List.replicate (4 : Int).toNat [V.int 2520]).flatten ++ (List.replicate (11 : Int).toNat [V.int 2]).flatten))) p (.lst (ds.map V.int)))
  generalize upd (upd (upd (upd (upd (upd H2 l1 (.lst [V.int 2520])) l2 (.lst (List.replicate (4 : Int).toNat [V.int 2520]).flatten)) l3 (.lst [V.int 2])) l4 (.lst (List.replicate (11 : Int).toNat [V.int 2]).flatten)) l5 (.lst ((List.replicate (4 : Int).toNat [V.int 2520]).flatten ++ (List.replicate (11 : Int).toNat [V.int 2]).flatten))) p (.lst (ds.map V.int)) = H3 at s3 hpr
  clear m1 m2 m3 m4 m5 m6 hl1 hl2 hl3 hl4 hl5 hp
  have k1 := s3 _ _ hd1
  obtain ⟨vs0, hc0, hvl0, hall0, _⟩ := (htl1.same s3).at
  -- web
  refine ⟨_, rfl, dr, _, 0, _, rfl, rfl, SqL.of k1, at_pos (by decide) rfl, _, rfl, dr, _, 1, _, rfl, rfl, SqL.of k1, at_pos (by decide) rfl, c0, _, rfl, .inl (SqL.of hc0), fun tp htp => ?_⟩
  have s4 := same_new htp (.lst vs0)
  have hsn : Sn K (upd H3 tp (.lst vs0)) (.ref tp) (.tup (ts.map td3)) := .lst upd_same (hall0.tk (WK.Same.tk s4)).sn
  refine ⟨_, rfl, dr, _, 2, _, rfl, rfl, SqL.of (s4 _ _ k1), at_pos (by decide) rfl, rfl, rfl, fun x dx hx hdx hne => ?_⟩
  refine ⟨x, dx, _, pl, ts, b, rfl, upd_same, hsn.same (new_two hx hdx), hok.bd, hok.len, hok.pl, hok.bot, hok.bB.mono (by omega), fun _ H5 hW hbut => ⟨rfl, ?_⟩, fun k hk => (by rw [hno] at hk; cases hk), fun k hk => (by rw [hno] at hk; cases hk)⟩
  have s35 : Same H3 H5 := s4.trans (made_same hx hdx hbut)
  have s25 := s3.trans s35
  clear hne hbut hsn s4 htp hx hdx hall0
  have k2 := s25 _ _ hd2
  obtain ⟨vs2, hc2, hvl2, hall2, _⟩ := (htl2.same s25).at
  -- more
  refine ⟨_, rfl, dr2, _, 0, _, rfl, rfl, SqL.of k2, at_pos (by decide) rfl, _, rfl, dr2, _, 1, _, rfl, rfl, SqL.of k2, at_pos (by decide) rfl, c2, _, rfl, .inl (SqL.of hc2), fun tp htp => ?_⟩
  have s6 := same_new htp (.lst vs2)
  have hsn : Sn K (upd H5 tp (.lst vs2)) (.ref tp) (.tup (ts2.map td3)) := .lst upd_same (hall2.tk (WK.Same.tk s6)).sn
  refine ⟨_, rfl, dr2, _, 2, _, rfl, rfl, SqL.of (s6 _ _ k2), at_pos (by decide) rfl, rfl, rfl, fun y dy hy hdy hne => ?_⟩
  refine ⟨y, dy, _, pl2, ts2, b2, rfl, upd_same, hsn.same (new_two hy hdy), hok2.bd, hok2.len, hok2.pl, hok2.bot, hok2.bB.mono (by omega), fun _ H7 hY hbut => ⟨rfl, ?_⟩, fun k hk => (by rw [hno2] at hk; cases hk), fun k hk => (by rw [hno2] at hk; cases hk)⟩
  have s57 : Same H5 H7 := s6.trans (made_same hy hdy hbut)
  have s27 := s25.trans s57
  have s37 := s35.trans s57
  clear hne hbut hsn s6 htp hy hdy hall2
  have hW7 := hW.same s57
  have hp7 := s37 _ _ hpr
  have hdl4 : (ds.drop 4).length = 11 := by rw [List.length_drop]; omega
  have hcut : cutV (ds.map V.int) (some 4) none = (ds.drop 4).map V.int := by
    rw [List.map_drop]
    exact cut_from (z := 4) (k := 4) rfl (by rw [List.length_map]; omega)
  -- cuts
  refine ⟨_, rfl, _, rfl, _, rfl, _, rfl, p, _, rfl, SqL.of hp7, fun q1 hq1 => ?_⟩
  rw [hcut]
  have s8 := same_new hq1 (.lst ((ds.drop 4).map V.int))
  refine ⟨x, dr, q1, pl, ts, b, _, rfl, hW7.same s8, (hdrA.same s27).same s8, hok, hpl, upd_same, hdl4, fun H9 s9 => ⟨true, rfl, ifF rfl ?_⟩⟩
  have s79 := s8.trans s9
  have s39 := s37.trans s79
  refine ⟨_, rfl, _, rfl, _, rfl, _, rfl, p, _, rfl, SqL.of (s79 _ _ hp7), fun q2 hq2 => ?_⟩
  rw [hcut]
  have s10 := same_new hq2 (.lst ((ds.drop 4).map V.int))
  refine ⟨y, dr2, q2, pl2, ts2, b2, _, rfl, (hY.same s79).same s10, (hdr2.same (s27.trans s79)).same s10, hok2, hpl2, upd_same, hdl4, fun H11 s11 => ⟨true, rfl, ifF rfl ?_⟩⟩
  have s7b := s79.trans (s10.trans s11)
  have s2b := s27.trans s7b
  have hdB := hdrA.same s2b
  have hdB2 := hdr2.same s2b
  have hWB := hW7.same s7b
  have hYB := hY.same s7b
  have hpB := s7b _ _ hp7
  have kB := s2b _ _ hd1
  have kB2 := s2b _ _ hd2
  clear s79 s10 s11 s8 s9 hq1 hq2 s39 hW hY hW7 hp7
  -- sides
  refine ⟨_, rfl, dr, _, 0, _, rfl, rfl, SqL.of kB, at_pos (by decide) rfl, pl, rfl, hpl, fun H12 s12 => ⟨true, rfl, ifF rfl ?_⟩⟩
  refine ⟨fun σ' H' => ∃ v6 v7 : Option V, σ' = [some (.ref a), some (.ref dr), some (.ref dr2), some (.ref p), some (.ref x), some (.ref y), v6, v7] ∧ Same H11 H' ∧ (0 < pl → ∃ k, v6 = some (.int k)), ?_, ?_⟩
  · have k12 := s12 _ _ kB
    have p12 := s12 _ _ hpB
    refine ⟨_, rfl, dr, _, 0, _, rfl, rfl, SqL.of k12, at_pos (by decide) rfl, _, _, rfl, rfl, _, rfl, ite2 (fun hlt => ?_) (fun hge => ?_)⟩
    · have hp0 : (0 : Int) < (pl : Int) := of_decide_eq_true hlt
      refine ⟨_, rfl, p, _, 0, _, rfl, rfl, SqL.of p12, at_pos (by decide) e0, .inl ⟨_, rfl, _, rfl, dr, _, 0, _, rfl, rfl, SqL.of k12, at_pos (by decide) rfl, _, _, rfl, rfl, hp0, ?_⟩⟩
      refine ⟨_, rfl, p, _, 1, _, rfl, rfl, SqL.of p12, at_pos (by decide) e1, .inl ⟨_, rfl, _, rfl, dr, _, 0, _, rfl, rfl, SqL.of k12, at_pos (by decide) rfl, _, _, rfl, rfl, hp0, ?_⟩⟩
      refine ⟨_, rfl, _, rfl, _, rfl, _, rfl, x, dr, pl, ts, b, _, _, rfl, hWB.same s12, hdB.same s12, hok, hpl, fun H13 s13 => ⟨true, rfl, ifF rfl ⟨_, _, rfl, s12.trans s13, fun _ => ⟨_, rfl⟩⟩⟩⟩
    · have : ¬ ((0 : Int) < (pl : Int)) := fun h => hge (decide_eq_true h)
      exact ⟨none, none, rfl, s12, fun h => absurd h (by omega)⟩
  rintro σ H13 ⟨v6, v7, rfl, s13, hv6⟩
  have k13 := s13 _ _ kB
  have k13b := s13 _ _ kB2
  have p13 := s13 _ _ hpB
  -- the other web
  refine ⟨fun σ' H' => σ' = [some (.ref a), some (.ref dr), some (.ref dr2), some (.ref p), some (.ref x), some (.ref y), v6, v7] ∧ Same H13 H', ?_, ?_⟩
  · refine ⟨_, rfl, dr2, _, 0, _, rfl, rfl, SqL.of k13b, at_pos (by decide) rfl, _, _, rfl, rfl, _, rfl, ?_⟩
    by_cases hp0 : (0 : Int) < (pl2 : Int)
    · refine ifT (decide_eq_true hp0) ?_
      refine ⟨_, rfl, _, rfl, _, rfl, p, _, 2, _, rfl, rfl, SqL.of p13, at_pos (by decide) e2, .inl ⟨_, rfl, _, rfl, dr2, _, 0, _, rfl, rfl, SqL.of k13b, at_pos (by decide) rfl, _, _, rfl, rfl, hp0, ?_⟩⟩
      refine ⟨_, rfl, p, _, 3, _, rfl, rfl, SqL.of p13, at_pos (by decide) e3, .inl ⟨_, rfl, _, rfl, dr2, _, 0, _, rfl, rfl, SqL.of k13b, at_pos (by decide) rfl, _, _, rfl, rfl, hp0, ?_⟩⟩
      exact ⟨y, dr2, pl2, ts2, b2, _, _, rfl, hYB.same s13, hdB2.same s13, hok2, hpl2, fun H14 s14 => ⟨true, rfl, ifF rfl ⟨rfl, s14⟩⟩⟩
    · exact ifF (decide_eq_false hp0) (ifF rfl ⟨rfl, fun _ _ h => h⟩)
  rintro σ H14 ⟨rfl, s14⟩
  have sB4 := s13.trans s14
  have k14 := sB4 _ _ kB
  have p14 := sB4 _ _ hpB
  refine ⟨_, rfl, dr, _, 0, _, rfl, rfl, SqL.of k14, at_pos (by decide) rfl, _, _, rfl, rfl, _, rfl, ite2 (fun hlt => ?_) (fun _ => q _)⟩
  have hp1 : (1 : Int) < (pl : Int) := of_decide_eq_true hlt
  obtain ⟨k, rfl⟩ := hv6 (by omega)
  refine ⟨_, rfl, _, rfl, _, rfl, _, rfl, ?_⟩
  refine ⟨_, _, rfl, rfl, _, rfl, p, _, 2, _, rfl, rfl, SqL.of p14, at_pos (by decide) e2, .inl ⟨_, rfl, _, rfl, dr, _, 0, _, rfl, rfl, SqL.of k14, at_pos (by decide) rfl, _, _, rfl, rfl, ?_⟩⟩
  refine ⟨_, _, rfl, rfl, (by show (0 : Int) < (pl : Int) - 1; omega), _, _, rfl, rfl, .inl ⟨_, rfl, _, rfl, dr, _, 0, _, rfl, rfl, SqL.of k14, at_pos (by decide) rfl, _, _, rfl, rfl, (by show (0 : Int) < (pl : Int); omega), ?_⟩⟩
  exact ⟨x, dr, pl, ts, b, _, _, rfl, hWB.same sB4, hdB.same sB4, hok, hpl, fun H15 _ => q H15⟩
end
end P15
/-! What is bound where a class is made with a keyword. -/
namespace P15
open PySem PySem.Spec PyProof.Rows L2 SX EX WK
section
variable {K : PySem.W.Frag} {f : Addr} {fd : FuncData}
theorem kb_Form (F : FunD K "__init__" "Form.__init__" (defArgs s_iForm) (defBody s_iForm) (defScope s_iForm) [] [("bottom", V.int 1)] f fd) : ∃ g, KBn K fd ["self", "entries", "bottom"] 2 ["bottom"] g (fun vs zs => vs ++ zs) := by
  obtain ⟨mv, h⟩ := F.kbinds0 (ps := ["self", "entries", "bottom"]) 2 ["bottom"] [] (fun a _ c => a ++ c) (by simp) (fun q h => nomatch h) (fun r _ t => r.append t) (fun D doc pm an cdv ct us mv ws h1 h2 h3 => match us, mv, ws, h1, h2, h3 with
    | [_, _], [], [_], _, _, _ => rfl)
  exact ⟨_, h⟩
theorem kb_RowList (F : FunD K "__init__" "RowList.__init__" (defArgs s_iRowList) (defBody s_iRowList) (defScope s_iRowList) [] [("bottom", V.int 1)] f fd) : ∃ g, KBn K fd ["self", "size", "pairs", "bottom"] 3 ["bottom"] g (fun vs zs => vs ++ zs) := by
  obtain ⟨mv, h⟩ := F.kbinds0 (ps := ["self", "size", "pairs", "bottom"]) 3 ["bottom"] [] (fun a _ c => a ++ c) (by simp) (fun q h => nomatch h) (fun r _ t => r.append t) (fun D doc pm an cdv ct us mv ws h1 h2 h3 => match us, mv, ws, h1, h2, h3 with
    | [_, _, _], [], [_], _, _, _ => rfl)
  exact ⟨_, h⟩
theorem kb_Web (F : FunD K "__init__" "Web.__init__" (defArgs s_iWeb) (defBody s_iWeb) (defScope s_iWeb) [] [("bottom", V.int 1)] f fd) : ∃ g, KBn K fd ["self", "places", "ties", "bottom"] 3 ["bottom"] g (fun vs zs => vs ++ zs) := by
  obtain ⟨mv, h⟩ := F.kbinds0 (ps := ["self", "places", "ties", "bottom"]) 3 ["bottom"] [] (fun a _ c => a ++ c) (by simp) (fun q h => nomatch h) (fun r _ t => r.append t) (fun D doc pm an cdv ct us mv ws h1 h2 h3 => match us, mv, ws, h1, h2, h3 with
    | [_, _, _], [], [_], _, _, _ => rfl)
  exact ⟨_, h⟩
/-- what stands of such a def -/
theorem funD_of {x qual : Str} {st : Stmt} {D : Addr} {od an : Option Addr} {sl : Array (Option Value)} {oc dc pm cd ct : Value} {tk : Tok} (l : K.lookup f = some ⟨oc, od, .func (PySem.W.fnOf x qual (defArgs st) (defBody st) (defScope st) .none (.ref D) dc pm an cd ct), sl⟩) (c : PySem.W.codeIn K cd qual = true) (k : PySem.W.keepIn K (.ref f) = true)
    (d : PySem.W.nsIn K D "bottom" = some (some (.int 1 tk))) : FunD K x qual (defArgs st) (defBody st) (defScope st) [] [("bottom", V.int 1)] f (PySem.W.fnOf x qual (defArgs st) (defBody st) (defScope st) .none (.ref D) dc pm an cd ct) :=
  ⟨⟨_, _, _, _, _, _, _, _, _, _, rfl, l, c, .inl ⟨rfl, rfl⟩, .inr ⟨D, rfl, fun q hq => by rw [List.mem_singleton.mp hq]; exact ⟨_, d, _, rfl⟩⟩⟩, k⟩
end
end P15
namespace P15
open PySem PySem.Spec PyProof.Rows L2 SX EX WK
theorem all_mk {l : PySem.W.OpenLaw} {w : World} {K : PySem.W.Frag} {h : Heap} {mg : Str → Option Value} {fa f1 f2 f3 f4 f5 f6 f7 f8 f9 f10 f11 f12 f13 f14 f15 f16 f17 f18 f19 f20 f21 f22 f23 f24 f25 f26 f27 f28 f29 f30 f31 f32 f33 f34 f35 f36 f37 f38 c_CableError c_BadTie c_BadWeight c_BadRow c_SamePlace c_SharedPlace c_SizesDiffer c_Form c_RowList c_Web : Addr} (X : K.In h) (G : h.Ns mainGlobals mg) (hfa : mg "law" = some (.ref fa))
    {od1 an1 od2 an2 od3 an3 od4 an4 od5 an5 od6 an6 od7 an7 od8 an8 od9 an9 od10 an10 od11 an11 od12 an12 od13 an13 od14 an14 od15 an15 od16 an16 od17 an17 od18 an18 od19 an19 od20 an20 od21 an21 od22 an22 od23 an23 od24 an24 od25 an25 od26 an26 od27 an27 od28 an28 od29 an29 od30 an30 od31 an31 od32 an32 od33 an33 od34 an34 od35 an35 od36 an36 od37 an37 od38 an38 : Option Addr}
    {sl1 sl2 sl3 sl4 sl5 sl6 sl7 sl8 sl9 sl10 sl11 sl12 sl13 sl14 sl15 sl16 sl17 sl18 sl19 sl20 sl21 sl22 sl23 sl24 sl25 sl26 sl27 sl28 sl29 sl30 sl31 sl32 sl33 sl34 sl35 sl36 sl37 sl38 : Array (Option Value)} {oc1 kV1 dc1 pm1 cd1 ct1 oc2 kV2 dc2 pm2 cd2 ct2 oc3 kV3 dc3 pm3 cd3 ct3 oc4 kV4 dc4 pm4 cd4 ct4 oc5 kV5 dc5 pm5 cd5 ct5 oc6 kV6 dc6 pm6 cd6 ct6 oc7 kV7 dc7 pm7 cd7 ct7 oc8 kV8 dc8 pm8 cd8 ct8 oc9 kV9 dc9 pm9 cd9 ct9 oc10 kV10 dc10 pm10 cd10 ct10 oc11 kV11 dc11 pm11 cd11 ct11 oc12 kV12 dc12 pm12 cd12 ct12 oc13 kV13 dc13 pm13 cd13 ct13 oc14 kV14 dc14 pm14 cd14 ct14 oc15 kV15 dc15 pm15 cd15 ct15 oc16 kV16 dc16 pm16 cd16 ct16 oc17 kV17 dc17 pm17 cd17 ct17 oc18 kV18 dc18 pm18 cd18 ct18 oc19 kV19 dc19 pm19 cd19 ct19 oc20 kV20 dc20 pm20 cd20 ct20 oc21 kV21 dc21 pm21 cd21 ct21 oc22 kV22 dc22 pm22 cd22 ct22 oc23 kV23 dc23 pm23 cd23 ct23 oc24 kV24 dc24 pm24 cd24 ct24 oc25 kV25 dc25 pm25 cd25 ct25 oc26 kV26 dc26 pm26 cd26 ct26 oc27 kV27 dc27 pm27 cd27 ct27 oc28 kV28 dc28 pm28 cd28 ct28 oc29 kV29 dc29 pm29 cd29 ct29 oc30 kV30 dc30 pm30 cd30 ct30 oc31 kV31 dc31 pm31 cd31 ct31 oc32 kV32 dc32 pm32 cd32 ct32 oc33 kV33 dc33 pm33 cd33 ct33 oc34 kV34 dc34 pm34 cd34 ct34 oc35 kV35 dc35 pm35 cd35 ct35 oc36 kV36 dc36 pm36 cd36 ct36 oc37 kV37 dc37 pm37 cd37 ct37 oc38 kV38 dc38 pm38 cd38 ct38 : Value}
    {nm_BadTie q_BadTie : Str} {N_BadTie : Addr} {bs_BadTie sub_BadTie : List Value} {sn_BadTie : List Str} {ab_BadTie : Bool} {col_BadTie : Option Bool} {dd_BadTie : Option Addr} {m0_BadTie m1_BadTie m2_BadTie m3_BadTie m5_BadTie : Option Value}
    {f_BadTie : Addr} {odi_BadTie ani_BadTie : Option Addr} {sli_BadTie : Array (Option Value)} {oci_BadTie kVi_BadTie dci_BadTie pmi_BadTie cdi_BadTie cti_BadTie : Value}
    {nm_BadWeight q_BadWeight : Str} {N_BadWeight : Addr} {bs_BadWeight sub_BadWeight : List Value} {sn_BadWeight : List Str} {ab_BadWeight : Bool} {col_BadWeight : Option Bool} {dd_BadWeight : Option Addr} {m0_BadWeight m1_BadWeight m2_BadWeight m3_BadWeight m5_BadWeight : Option Value}
    {f_BadWeight : Addr} {odi_BadWeight ani_BadWeight : Option Addr} {sli_BadWeight : Array (Option Value)} {oci_BadWeight kVi_BadWeight dci_BadWeight pmi_BadWeight cdi_BadWeight cti_BadWeight : Value}
    {nm_SamePlace q_SamePlace : Str} {N_SamePlace : Addr} {bs_SamePlace sub_SamePlace : List Value} {sn_SamePlace : List Str} {ab_SamePlace : Bool} {col_SamePlace : Option Bool} {dd_SamePlace : Option Addr} {m0_SamePlace m1_SamePlace m2_SamePlace m3_SamePlace m5_SamePlace : Option Value}
    {f_SamePlace : Addr} {odi_SamePlace ani_SamePlace : Option Addr} {sli_SamePlace : Array (Option Value)} {oci_SamePlace kVi_SamePlace dci_SamePlace pmi_SamePlace cdi_SamePlace cti_SamePlace : Value}
    {f_Form D_Form : Addr} {odi_Form ani_Form : Option Addr} {sli_Form : Array (Option Value)} {oci_Form dci_Form pmi_Form cdi_Form cti_Form : Value} {tki_Form : Tok}
    {f_RowList D_RowList : Addr} {odi_RowList ani_RowList : Option Addr} {sli_RowList : Array (Option Value)} {oci_RowList dci_RowList pmi_RowList cdi_RowList cti_RowList : Value} {tki_RowList : Tok}
    {f_Web D_Web : Addr} {odi_Web ani_Web : Option Addr} {sli_Web : Array (Option Value)} {oci_Web dci_Web pmi_Web cdi_Web cti_Web : Value} {tki_Web : Tok}
    {h_mbetween : Addr} {odm_mbetween anm_mbetween : Option Addr} {slm_mbetween : Array (Option Value)} {ocm_mbetween kVm_mbetween dcm_mbetween pmm_mbetween cdm_mbetween ctm_mbetween : Value}
    {h_mcall : Addr} {odm_mcall anm_mcall : Option Addr} {slm_mcall : Array (Option Value)} {ocm_mcall kVm_mcall dcm_mcall pmm_mcall cdm_mcall ctm_mcall : Value}
    (a1 : PySem.W.nsIn K mainGlobals "frozen_numbers" = some (some (.ref f1))) (l1 : K.lookup f1 = some ⟨oc1, od1, .func (PySem.W.fnOf "frozen_numbers" "frozen_numbers" (defArgs s_frozen_numbers) (defBody s_frozen_numbers) (defScope s_frozen_numbers) .none kV1 dc1 pm1 an1 cd1 ct1), sl1⟩) (c1 : PySem.W.codeIn K cd1 "frozen_numbers" = true) (k1 : PySem.W.keepIn K (.ref f1) = true)
    (a2 : PySem.W.nsIn K mainGlobals "frozen_part" = some (some (.ref f2))) (l2 : K.lookup f2 = some ⟨oc2, od2, .func (PySem.W.fnOf "frozen_part" "frozen_part" (defArgs s_frozen_part) (defBody s_frozen_part) (defScope s_frozen_part) .none kV2 dc2 pm2 an2 cd2 ct2), sl2⟩) (c2 : PySem.W.codeIn K cd2 "frozen_part" = true) (k2 : PySem.W.keepIn K (.ref f2) = true)
    (a3 : PySem.W.nsIn K mainGlobals "frozen" = some (some (.ref f3))) (l3 : K.lookup f3 = some ⟨oc3, od3, .func (PySem.W.fnOf "frozen" "frozen" (defArgs s_frozen) (defBody s_frozen) (defScope s_frozen) .none kV3 dc3 pm3 an3 cd3 ct3), sl3⟩) (c3 : PySem.W.codeIn K cd3 "frozen" = true) (k3 : PySem.W.keepIn K (.ref f3) = true)
    (a4 : PySem.W.nsIn K mainGlobals "lowered" = some (some (.ref f4))) (l4 : K.lookup f4 = some ⟨oc4, od4, .func (PySem.W.fnOf "lowered" "lowered" (defArgs s_lowered) (defBody s_lowered) (defScope s_lowered) .none kV4 dc4 pm4 an4 cd4 ct4), sl4⟩) (c4 : PySem.W.codeIn K cd4 "lowered" = true) (k4 : PySem.W.keepIn K (.ref f4) = true)
    (a5 : PySem.W.nsIn K mainGlobals "fraction" = some (some (.ref f5))) (l5 : K.lookup f5 = some ⟨oc5, od5, .func (PySem.W.fnOf "fraction" "fraction" (defArgs s_fraction) (defBody s_fraction) (defScope s_fraction) .none kV5 dc5 pm5 an5 cd5 ct5), sl5⟩) (c5 : PySem.W.codeIn K cd5 "fraction" = true) (k5 : PySem.W.keepIn K (.ref f5) = true)
    (a6 : PySem.W.nsIn K mainGlobals "dot" = some (some (.ref f6))) (l6 : K.lookup f6 = some ⟨oc6, od6, .func (PySem.W.fnOf "dot" "dot" (defArgs s_dot) (defBody s_dot) (defScope s_dot) .none kV6 dc6 pm6 an6 cd6 ct6), sl6⟩) (c6 : PySem.W.codeIn K cd6 "dot" = true) (k6 : PySem.W.keepIn K (.ref f6) = true)
    (a7 : PySem.W.nsIn K mainGlobals "leaving" = some (some (.ref f7))) (l7 : K.lookup f7 = some ⟨oc7, od7, .func (PySem.W.fnOf "leaving" "leaving" (defArgs s_leaving) (defBody s_leaving) (defScope s_leaving) .none kV7 dc7 pm7 an7 cd7 ct7), sl7⟩) (c7 : PySem.W.codeIn K cd7 "leaving" = true) (k7 : PySem.W.keepIn K (.ref f7) = true)
    (a8 : PySem.W.nsIn K mainGlobals "cut" = some (some (.ref f8))) (l8 : K.lookup f8 = some ⟨oc8, od8, .func (PySem.W.fnOf "cut" "cut" (defArgs s_cut) (defBody s_cut) (defScope s_cut) .none kV8 dc8 pm8 an8 cd8 ct8), sl8⟩) (c8 : PySem.W.codeIn K cd8 "cut" = true) (k8 : PySem.W.keepIn K (.ref f8) = true)
    (a9 : PySem.W.nsIn K mainGlobals "sides" = some (some (.ref f9))) (l9 : K.lookup f9 = some ⟨oc9, od9, .func (PySem.W.fnOf "sides" "sides" (defArgs s_sides) (defBody s_sides) (defScope s_sides) .none kV9 dc9 pm9 an9 cd9 ct9), sl9⟩) (c9 : PySem.W.codeIn K cd9 "sides" = true) (k9 : PySem.W.keepIn K (.ref f9) = true)
    (a10 : PySem.W.nsIn K mainGlobals "sides_between" = some (some (.ref f10))) (l10 : K.lookup f10 = some ⟨oc10, od10, .func (PySem.W.fnOf "sides_between" "sides_between" (defArgs s_sides_between) (defBody s_sides_between) (defScope s_sides_between) .none kV10 dc10 pm10 an10 cd10 ct10), sl10⟩) (c10 : PySem.W.codeIn K cd10 "sides_between" = true) (k10 : PySem.W.keepIn K (.ref f10) = true)
    (a11 : PySem.W.nsIn K mainGlobals "least_cut" = some (some (.ref f11))) (l11 : K.lookup f11 = some ⟨oc11, od11, .func (PySem.W.fnOf "least_cut" "least_cut" (defArgs s_least_cut) (defBody s_least_cut) (defScope s_least_cut) .none kV11 dc11 pm11 an11 cd11 ct11), sl11⟩) (c11 : PySem.W.codeIn K cd11 "least_cut" = true) (k11 : PySem.W.keepIn K (.ref f11) = true)
    (a12 : PySem.W.nsIn K mainGlobals "check_square" = some (some (.ref f12))) (l12 : K.lookup f12 = some ⟨oc12, od12, .func (PySem.W.fnOf "check_square" "check_square" (defArgs s_check_square) (defBody s_check_square) (defScope s_check_square) .none kV12 dc12 pm12 an12 cd12 ct12), sl12⟩) (c12 : PySem.W.codeIn K cd12 "check_square" = true) (k12 : PySem.W.keepIn K (.ref f12) = true)
    (a13 : PySem.W.nsIn K mainGlobals "check_symmetric" = some (some (.ref f13))) (l13 : K.lookup f13 = some ⟨oc13, od13, .func (PySem.W.fnOf "check_symmetric" "check_symmetric" (defArgs s_check_symmetric) (defBody s_check_symmetric) (defScope s_check_symmetric) .none kV13 dc13 pm13 an13 cd13 ct13), sl13⟩) (c13 : PySem.W.codeIn K cd13 "check_symmetric" = true) (k13 : PySem.W.keepIn K (.ref f13) = true)
    (a14 : PySem.W.nsIn K mainGlobals "check_point" = some (some (.ref f14))) (l14 : K.lookup f14 = some ⟨oc14, od14, .func (PySem.W.fnOf "check_point" "check_point" (defArgs s_check_point) (defBody s_check_point) (defScope s_check_point) .none kV14 dc14 pm14 an14 cd14 ct14), sl14⟩) (c14 : PySem.W.codeIn K cd14 "check_point" = true) (k14 : PySem.W.keepIn K (.ref f14) = true)
    (a15 : PySem.W.nsIn K mainGlobals "check_pairs" = some (some (.ref f15))) (l15 : K.lookup f15 = some ⟨oc15, od15, .func (PySem.W.fnOf "check_pairs" "check_pairs" (defArgs s_check_pairs) (defBody s_check_pairs) (defScope s_check_pairs) .none kV15 dc15 pm15 an15 cd15 ct15), sl15⟩) (c15 : PySem.W.codeIn K cd15 "check_pairs" = true) (k15 : PySem.W.keepIn K (.ref f15) = true)
    (a16 : PySem.W.nsIn K mainGlobals "weighted_sum" = some (some (.ref f16))) (l16 : K.lookup f16 = some ⟨oc16, od16, .func (PySem.W.fnOf "weighted_sum" "weighted_sum" (defArgs s_weighted_sum) (defBody s_weighted_sum) (defScope s_weighted_sum) .none kV16 dc16 pm16 an16 cd16 ct16), sl16⟩) (c16 : PySem.W.codeIn K cd16 "weighted_sum" = true) (k16 : PySem.W.keepIn K (.ref f16) = true)
    (a17 : PySem.W.nsIn K mainGlobals "weighted_matrix" = some (some (.ref f17))) (l17 : K.lookup f17 = some ⟨oc17, od17, .func (PySem.W.fnOf "weighted_matrix" "weighted_matrix" (defArgs s_weighted_matrix) (defBody s_weighted_matrix) (defScope s_weighted_matrix) .none kV17 dc17 pm17 an17 cd17 ct17), sl17⟩) (c17 : PySem.W.codeIn K cd17 "weighted_matrix" = true) (k17 : PySem.W.keepIn K (.ref f17) = true)
    (a18 : PySem.W.nsIn K mainGlobals "tie_row" = some (some (.ref f18))) (l18 : K.lookup f18 = some ⟨oc18, od18, .func (PySem.W.fnOf "tie_row" "tie_row" (defArgs s_tie_row) (defBody s_tie_row) (defScope s_tie_row) .none kV18 dc18 pm18 an18 cd18 ct18), sl18⟩) (c18 : PySem.W.codeIn K cd18 "tie_row" = true) (k18 : PySem.W.keepIn K (.ref f18) = true)
    (a19 : PySem.W.nsIn K mainGlobals "sorted_tie" = some (some (.ref f19))) (l19 : K.lookup f19 = some ⟨oc19, od19, .func (PySem.W.fnOf "sorted_tie" "sorted_tie" (defArgs s_sorted_tie) (defBody s_sorted_tie) (defScope s_sorted_tie) .none kV19 dc19 pm19 an19 cd19 ct19), sl19⟩) (c19 : PySem.W.codeIn K cd19 "sorted_tie" = true) (k19 : PySem.W.keepIn K (.ref f19) = true)
    (a20 : PySem.W.nsIn K mainGlobals "_law_whole" = some (some (.ref f20))) (l20 : K.lookup f20 = some ⟨oc20, od20, .func (PySem.W.fnOf "_law_whole" "_law_whole" (defArgs s__law_whole) (defBody s__law_whole) (defScope s__law_whole) .none kV20 dc20 pm20 an20 cd20 ct20), sl20⟩) (c20 : PySem.W.codeIn K cd20 "_law_whole" = true) (k20 : PySem.W.keepIn K (.ref f20) = true)
    (a21 : PySem.W.nsIn K mainGlobals "_law_cell" = some (some (.ref f21))) (l21 : K.lookup f21 = some ⟨oc21, od21, .func (PySem.W.fnOf "_law_cell" "_law_cell" (defArgs s__law_cell) (defBody s__law_cell) (defScope s__law_cell) .none kV21 dc21 pm21 an21 cd21 ct21), sl21⟩) (c21 : PySem.W.codeIn K cd21 "_law_cell" = true) (k21 : PySem.W.keepIn K (.ref f21) = true)
    (a22 : PySem.W.nsIn K mainGlobals "_law_digits" = some (some (.ref f22))) (l22 : K.lookup f22 = some ⟨oc22, od22, .func (PySem.W.fnOf "_law_digits" "_law_digits" (defArgs s__law_digits) (defBody s__law_digits) (defScope s__law_digits) .none kV22 dc22 pm22 an22 cd22 ct22), sl22⟩) (c22 : PySem.W.codeIn K cd22 "_law_digits" = true) (k22 : PySem.W.keepIn K (.ref f22) = true)
    (a23 : PySem.W.nsIn K mainGlobals "_law_gcd" = some (some (.ref f23))) (l23 : K.lookup f23 = some ⟨oc23, od23, .func (PySem.W.fnOf "_law_gcd" "_law_gcd" (defArgs s__law_gcd) (defBody s__law_gcd) (defScope s__law_gcd) .none kV23 dc23 pm23 an23 cd23 ct23), sl23⟩) (c23 : PySem.W.codeIn K cd23 "_law_gcd" = true) (k23 : PySem.W.keepIn K (.ref f23) = true)
    (a24 : PySem.W.nsIn K mainGlobals "_law_least" = some (some (.ref f24))) (l24 : K.lookup f24 = some ⟨oc24, od24, .func (PySem.W.fnOf "_law_least" "_law_least" (defArgs s__law_least) (defBody s__law_least) (defScope s__law_least) .none kV24 dc24 pm24 an24 cd24 ct24), sl24⟩) (c24 : PySem.W.codeIn K cd24 "_law_least" = true) (k24 : PySem.W.keepIn K (.ref f24) = true)
    (a25 : PySem.W.nsIn K mainGlobals "_law_is_fraction" = some (some (.ref f25))) (l25 : K.lookup f25 = some ⟨oc25, od25, .func (PySem.W.fnOf "_law_is_fraction" "_law_is_fraction" (defArgs s__law_is_fraction) (defBody s__law_is_fraction) (defScope s__law_is_fraction) .none kV25 dc25 pm25 an25 cd25 ct25), sl25⟩) (c25 : PySem.W.codeIn K cd25 "_law_is_fraction" = true) (k25 : PySem.W.keepIn K (.ref f25) = true)
    (a26 : PySem.W.nsIn K mainGlobals "_law_is_point" = some (some (.ref f26))) (l26 : K.lookup f26 = some ⟨oc26, od26, .func (PySem.W.fnOf "_law_is_point" "_law_is_point" (defArgs s__law_is_point) (defBody s__law_is_point) (defScope s__law_is_point) .none kV26 dc26 pm26 an26 cd26 ct26), sl26⟩) (c26 : PySem.W.codeIn K cd26 "_law_is_point" = true) (k26 : PySem.W.keepIn K (.ref f26) = true)
    (a27 : PySem.W.nsIn K mainGlobals "_law_rule" = some (some (.ref f27))) (l27 : K.lookup f27 = some ⟨oc27, od27, .func (PySem.W.fnOf "_law_rule" "_law_rule" (defArgs s__law_rule) (defBody s__law_rule) (defScope s__law_rule) .none kV27 dc27 pm27 an27 cd27 ct27), sl27⟩) (c27 : PySem.W.codeIn K cd27 "_law_rule" = true) (k27 : PySem.W.keepIn K (.ref f27) = true)
    (a28 : PySem.W.nsIn K mainGlobals "_law_draw_ends" = some (some (.ref f28))) (l28 : K.lookup f28 = some ⟨oc28, od28, .func (PySem.W.fnOf "_law_draw_ends" "_law_draw_ends" (defArgs s__law_draw_ends) (defBody s__law_draw_ends) (defScope s__law_draw_ends) .none kV28 dc28 pm28 an28 cd28 ct28), sl28⟩) (c28 : PySem.W.codeIn K cd28 "_law_draw_ends" = true) (k28 : PySem.W.keepIn K (.ref f28) = true)
    (a29 : PySem.W.nsIn K mainGlobals "_law_draw_weight" = some (some (.ref f29))) (l29 : K.lookup f29 = some ⟨oc29, od29, .func (PySem.W.fnOf "_law_draw_weight" "_law_draw_weight" (defArgs s__law_draw_weight) (defBody s__law_draw_weight) (defScope s__law_draw_weight) .none kV29 dc29 pm29 an29 cd29 ct29), sl29⟩) (c29 : PySem.W.codeIn K cd29 "_law_draw_weight" = true) (k29 : PySem.W.keepIn K (.ref f29) = true)
    (a30 : PySem.W.nsIn K mainGlobals "_law_draw_web" = some (some (.ref f30))) (l30 : K.lookup f30 = some ⟨oc30, od30, .func (PySem.W.fnOf "_law_draw_web" "_law_draw_web" (defArgs s__law_draw_web) (defBody s__law_draw_web) (defScope s__law_draw_web) .none kV30 dc30 pm30 an30 cd30 ct30), sl30⟩) (c30 : PySem.W.codeIn K cd30 "_law_draw_web" = true) (k30 : PySem.W.keepIn K (.ref f30) = true)
    (a31 : PySem.W.nsIn K mainGlobals "_law_cut" = some (some (.ref f31))) (l31 : K.lookup f31 = some ⟨oc31, od31, .func (PySem.W.fnOf "_law_cut" "_law_cut" (defArgs s__law_cut) (defBody s__law_cut) (defScope s__law_cut) .none kV31 dc31 pm31 an31 cd31 ct31), sl31⟩) (c31 : PySem.W.codeIn K cd31 "_law_cut" = true) (k31 : PySem.W.keepIn K (.ref f31) = true)
    (a32 : PySem.W.nsIn K mainGlobals "_law_sides_between" = some (some (.ref f32))) (l32 : K.lookup f32 = some ⟨oc32, od32, .func (PySem.W.fnOf "_law_sides_between" "_law_sides_between" (defArgs s__law_sides_between) (defBody s__law_sides_between) (defScope s__law_sides_between) .none kV32 dc32 pm32 an32 cd32 ct32), sl32⟩) (c32 : PySem.W.codeIn K cd32 "_law_sides_between" = true) (k32 : PySem.W.keepIn K (.ref f32) = true)
    (a33 : PySem.W.nsIn K mainGlobals "_law_least_right" = some (some (.ref f33))) (l33 : K.lookup f33 = some ⟨oc33, od33, .func (PySem.W.fnOf "_law_least_right" "_law_least_right" (defArgs s__law_least_right) (defBody s__law_least_right) (defScope s__law_least_right) .none kV33 dc33 pm33 an33 cd33 ct33), sl33⟩) (c33 : PySem.W.codeIn K cd33 "_law_least_right" = true) (k33 : PySem.W.keepIn K (.ref f33) = true)
    (a34 : PySem.W.nsIn K mainGlobals "_law_cut_right" = some (some (.ref f34))) (l34 : K.lookup f34 = some ⟨oc34, od34, .func (PySem.W.fnOf "_law_cut_right" "_law_cut_right" (defArgs s__law_cut_right) (defBody s__law_cut_right) (defScope s__law_cut_right) .none kV34 dc34 pm34 an34 cd34 ct34), sl34⟩) (c34 : PySem.W.codeIn K cd34 "_law_cut_right" = true) (k34 : PySem.W.keepIn K (.ref f34) = true)
    (a35 : PySem.W.nsIn K mainGlobals "_law_sides_right" = some (some (.ref f35))) (l35 : K.lookup f35 = some ⟨oc35, od35, .func (PySem.W.fnOf "_law_sides_right" "_law_sides_right" (defArgs s__law_sides_right) (defBody s__law_sides_right) (defScope s__law_sides_right) .none kV35 dc35 pm35 an35 cd35 ct35), sl35⟩) (c35 : PySem.W.codeIn K cd35 "_law_sides_right" = true) (k35 : PySem.W.keepIn K (.ref f35) = true)
    (a36 : PySem.W.nsIn K mainGlobals "_law_same_place" = some (some (.ref f36))) (l36 : K.lookup f36 = some ⟨oc36, od36, .func (PySem.W.fnOf "_law_same_place" "_law_same_place" (defArgs s__law_same_place) (defBody s__law_same_place) (defScope s__law_same_place) .none kV36 dc36 pm36 an36 cd36 ct36), sl36⟩) (c36 : PySem.W.codeIn K cd36 "_law_same_place" = true) (k36 : PySem.W.keepIn K (.ref f36) = true)
    (a37 : PySem.W.nsIn K mainGlobals "_law_asked" = some (some (.ref f37))) (l37 : K.lookup f37 = some ⟨oc37, od37, .func (PySem.W.fnOf "_law_asked" "_law_asked" (defArgs s__law_asked) (defBody s__law_asked) (defScope s__law_asked) .none kV37 dc37 pm37 an37 cd37 ct37), sl37⟩) (c37 : PySem.W.codeIn K cd37 "_law_asked" = true) (k37 : PySem.W.keepIn K (.ref f37) = true)
    (a38 : PySem.W.nsIn K mainGlobals "law" = some (some (.ref f38))) (l38 : K.lookup f38 = some ⟨oc38, od38, .func (PySem.W.fnOf "law" "law" (defArgs s_law) (defBody s_law) (defScope s_law) .none kV38 dc38 pm38 an38 cd38 ct38), sl38⟩) (c38 : PySem.W.codeIn K cd38 "law" = true) (k38 : PySem.W.keepIn K (.ref f38) = true)
    (z0 : PySem.W.nsIn K mainGlobals "len" = some none)
    (z1 : PySem.W.nsIn K mainGlobals "int" = some none)
    (z2 : PySem.W.nsIn K mainGlobals "bool" = some none)
    (z3 : PySem.W.nsIn K mainGlobals "tuple" = some none)
    (z4 : PySem.W.nsIn K mainGlobals "list" = some none)
    (z5 : PySem.W.nsIn K mainGlobals "isinstance" = some none)
    (z6 : PySem.W.nsIn K mainGlobals "range" = some none)
    (z7 : PySem.W.nsIn K mainGlobals "enumerate" = some none)
    (z8 : PySem.W.nsIn K mainGlobals "zip" = some none)
    (z9 : PySem.W.nsIn K mainGlobals "sum" = some none)
    (z10 : PySem.W.nsIn K mainGlobals "min" = some none)
    (z11 : PySem.W.nsIn K mainGlobals "max" = some none)
    (z12 : PySem.W.nsIn K mainGlobals "abs" = some none)
    (z13 : PySem.W.nsIn K mainGlobals "all" = some none)
    (z14 : PySem.W.nsIn K mainGlobals "any" = some none)
    (z15 : PySem.W.nsIn K mainGlobals "ValueError" = some none)
    (g_gcd : PySem.W.nsIn K mainGlobals "gcd" = some (some (.builtin "math.gcd")))
    (a_CableError : PySem.W.nsIn K mainGlobals "CableError" = some (some (.ref c_CableError)))
    (a_BadTie : PySem.W.nsIn K mainGlobals "BadTie" = some (some (.ref c_BadTie)))
    (a_BadWeight : PySem.W.nsIn K mainGlobals "BadWeight" = some (some (.ref c_BadWeight)))
    (a_BadRow : PySem.W.nsIn K mainGlobals "BadRow" = some (some (.ref c_BadRow)))
    (a_SamePlace : PySem.W.nsIn K mainGlobals "SamePlace" = some (some (.ref c_SamePlace)))
    (a_SharedPlace : PySem.W.nsIn K mainGlobals "SharedPlace" = some (some (.ref c_SharedPlace)))
    (a_SizesDiffer : PySem.W.nsIn K mainGlobals "SizesDiffer" = some (some (.ref c_SizesDiffer)))
    (a_Form : PySem.W.nsIn K mainGlobals "Form" = some (some (.ref c_Form)))
    (a_RowList : PySem.W.nsIn K mainGlobals "RowList" = some (some (.ref c_RowList)))
    (a_Web : PySem.W.nsIn K mainGlobals "Web" = some (some (.ref c_Web)))
    (i_CableError : PySem.W.isClsIn K c_CableError = true)
    (y_CableError : PySem.W.typeIn K (.ref c_CableError) = some (.type "type"))
    (i_BadTie : PySem.W.isClsIn K c_BadTie = true)
    (y_BadTie : PySem.W.typeIn K (.ref c_BadTie) = some (.type "type"))
    (i_BadWeight : PySem.W.isClsIn K c_BadWeight = true)
    (y_BadWeight : PySem.W.typeIn K (.ref c_BadWeight) = some (.type "type"))
    (i_BadRow : PySem.W.isClsIn K c_BadRow = true)
    (y_BadRow : PySem.W.typeIn K (.ref c_BadRow) = some (.type "type"))
    (i_SamePlace : PySem.W.isClsIn K c_SamePlace = true)
    (y_SamePlace : PySem.W.typeIn K (.ref c_SamePlace) = some (.type "type"))
    (i_SharedPlace : PySem.W.isClsIn K c_SharedPlace = true)
    (y_SharedPlace : PySem.W.typeIn K (.ref c_SharedPlace) = some (.type "type"))
    (i_SizesDiffer : PySem.W.isClsIn K c_SizesDiffer = true)
    (y_SizesDiffer : PySem.W.typeIn K (.ref c_SizesDiffer) = some (.type "type"))
    (b_CableError : PySem.W.subIn K (.ref c_CableError) (.type "BaseException") = some true)
    (b_BadTie : PySem.W.subIn K (.ref c_BadTie) (.type "BaseException") = some true)
    (b_BadWeight : PySem.W.subIn K (.ref c_BadWeight) (.type "BaseException") = some true)
    (b_SamePlace : PySem.W.subIn K (.ref c_SamePlace) (.type "BaseException") = some true)
    (xl_BadTie : K.lookup c_BadTie = some (excClassObj nm_BadTie q_BadTie c_BadTie N_BadTie bs_BadTie [.ref c_CableError, .type "ValueError", .type "Exception", .type "BaseException", .type "object"] true sn_BadTie sub_BadTie ab_BadTie col_BadTie dd_BadTie m0_BadTie m1_BadTie m2_BadTie m3_BadTie m5_BadTie "ValueError.__new__"))
    (sa_BadTie : PySem.W.findIn K (.ref c_BadTie) "__setattr__" = some (some (.builtin "object.__setattr__")))
    (ga_BadTie : PySem.W.findIn K (.ref c_BadTie) "__getattribute__" = some (some (.builtin "BaseException.__getattribute__")))
    (gg_BadTie : PySem.W.findIn K (.ref c_BadTie) "__getattr__" = some none)
    (ca_BadTie : PySem.W.findIn K (.ref c_BadTie) "__class__" = some (some (.builtin "object.__class__")))
    (cm_BadTie : PySem.W.mroIn K c_BadTie (.type "object") = some true)
    (hd_BadTie : PySem.W.hasDictIn K c_BadTie = true)
    (kp_BadTie : PySem.W.keepIn K (.ref c_BadTie) = true)
    (no_BadTie_index : PySem.W.findIn K (.ref c_BadTie) "index" = some none)
    (in_BadTie : PySem.W.findIn K (.ref c_BadTie) "__init__" = some (some (.ref f_BadTie)))
    (tf_BadTie : PySem.W.typeIn K (.ref f_BadTie) = some (.type "function"))
    (lf_BadTie : K.lookup f_BadTie = some ⟨oci_BadTie, odi_BadTie, .func (PySem.W.fnOf "__init__" "BadTie.__init__" (defArgs s_iBT) (defBody s_iBT) (defScope s_iBT) .none kVi_BadTie dci_BadTie pmi_BadTie ani_BadTie cdi_BadTie cti_BadTie), sli_BadTie⟩)
    (cf_BadTie : PySem.W.codeIn K cdi_BadTie "BadTie.__init__" = true)
    (kf_BadTie : PySem.W.keepIn K (.ref f_BadTie) = true)
    (xl_BadWeight : K.lookup c_BadWeight = some (excClassObj nm_BadWeight q_BadWeight c_BadWeight N_BadWeight bs_BadWeight [.ref c_CableError, .type "ValueError", .type "Exception", .type "BaseException", .type "object"] true sn_BadWeight sub_BadWeight ab_BadWeight col_BadWeight dd_BadWeight m0_BadWeight m1_BadWeight m2_BadWeight m3_BadWeight m5_BadWeight "ValueError.__new__"))
    (sa_BadWeight : PySem.W.findIn K (.ref c_BadWeight) "__setattr__" = some (some (.builtin "object.__setattr__")))
    (ga_BadWeight : PySem.W.findIn K (.ref c_BadWeight) "__getattribute__" = some (some (.builtin "BaseException.__getattribute__")))
    (gg_BadWeight : PySem.W.findIn K (.ref c_BadWeight) "__getattr__" = some none)
    (ca_BadWeight : PySem.W.findIn K (.ref c_BadWeight) "__class__" = some (some (.builtin "object.__class__")))
    (cm_BadWeight : PySem.W.mroIn K c_BadWeight (.type "object") = some true)
    (hd_BadWeight : PySem.W.hasDictIn K c_BadWeight = true)
    (kp_BadWeight : PySem.W.keepIn K (.ref c_BadWeight) = true)
    (no_BadWeight_index : PySem.W.findIn K (.ref c_BadWeight) "index" = some none)
    (in_BadWeight : PySem.W.findIn K (.ref c_BadWeight) "__init__" = some (some (.ref f_BadWeight)))
    (tf_BadWeight : PySem.W.typeIn K (.ref f_BadWeight) = some (.type "function"))
    (lf_BadWeight : K.lookup f_BadWeight = some ⟨oci_BadWeight, odi_BadWeight, .func (PySem.W.fnOf "__init__" "BadWeight.__init__" (defArgs s_iBW) (defBody s_iBW) (defScope s_iBW) .none kVi_BadWeight dci_BadWeight pmi_BadWeight ani_BadWeight cdi_BadWeight cti_BadWeight), sli_BadWeight⟩)
    (cf_BadWeight : PySem.W.codeIn K cdi_BadWeight "BadWeight.__init__" = true)
    (kf_BadWeight : PySem.W.keepIn K (.ref f_BadWeight) = true)
    (xl_SamePlace : K.lookup c_SamePlace = some (excClassObj nm_SamePlace q_SamePlace c_SamePlace N_SamePlace bs_SamePlace [.ref c_CableError, .type "ValueError", .type "Exception", .type "BaseException", .type "object"] true sn_SamePlace sub_SamePlace ab_SamePlace col_SamePlace dd_SamePlace m0_SamePlace m1_SamePlace m2_SamePlace m3_SamePlace m5_SamePlace "ValueError.__new__"))
    (sa_SamePlace : PySem.W.findIn K (.ref c_SamePlace) "__setattr__" = some (some (.builtin "object.__setattr__")))
    (ga_SamePlace : PySem.W.findIn K (.ref c_SamePlace) "__getattribute__" = some (some (.builtin "BaseException.__getattribute__")))
    (gg_SamePlace : PySem.W.findIn K (.ref c_SamePlace) "__getattr__" = some none)
    (ca_SamePlace : PySem.W.findIn K (.ref c_SamePlace) "__class__" = some (some (.builtin "object.__class__")))
    (cm_SamePlace : PySem.W.mroIn K c_SamePlace (.type "object") = some true)
    (hd_SamePlace : PySem.W.hasDictIn K c_SamePlace = true)
    (kp_SamePlace : PySem.W.keepIn K (.ref c_SamePlace) = true)
    (no_SamePlace_place : PySem.W.findIn K (.ref c_SamePlace) "place" = some none)
    (in_SamePlace : PySem.W.findIn K (.ref c_SamePlace) "__init__" = some (some (.ref f_SamePlace)))
    (tf_SamePlace : PySem.W.typeIn K (.ref f_SamePlace) = some (.type "function"))
    (lf_SamePlace : K.lookup f_SamePlace = some ⟨oci_SamePlace, odi_SamePlace, .func (PySem.W.fnOf "__init__" "SamePlace.__init__" (defArgs s_iSP) (defBody s_iSP) (defScope s_iSP) .none kVi_SamePlace dci_SamePlace pmi_SamePlace ani_SamePlace cdi_SamePlace cti_SamePlace), sli_SamePlace⟩)
    (cf_SamePlace : PySem.W.codeIn K cdi_SamePlace "SamePlace.__init__" = true)
    (kf_SamePlace : PySem.W.keepIn K (.ref f_SamePlace) = true)
    (pg_Form : PySem.W.plainGet K c_Form Str.empty = true)
    (hd_Form : PySem.W.hasDictIn K c_Form = true)
    (po_Form : PySem.W.plainOver K c_Form = true)
    (sa_Form : PySem.W.findIn K (.ref c_Form) "__setattr__" = some (some (.builtin "object.__setattr__")))
    (mk_Form : PySem.W.makesIn K c_Form = true)
    (kc_Form : PySem.W.keepIn K (.ref c_Form) = true)
    (na_Form_size : PySem.W.findIn K (.ref c_Form) "size" = some none)
    (na_Form_entries : PySem.W.findIn K (.ref c_Form) "entries" = some none)
    (na_Form_bottom : PySem.W.findIn K (.ref c_Form) "bottom" = some none)
    (in_Form : PySem.W.findIn K (.ref c_Form) "__init__" = some (some (.ref f_Form)))
    (isf_Form : PySem.W.isFn K (.ref f_Form) = true)
    (lf_Form : K.lookup f_Form = some ⟨oci_Form, odi_Form, .func (PySem.W.fnOf "__init__" "Form.__init__" (defArgs s_iForm) (defBody s_iForm) (defScope s_iForm) .none (.ref D_Form) dci_Form pmi_Form ani_Form cdi_Form cti_Form), sli_Form⟩)
    (cf_Form : PySem.W.codeIn K cdi_Form "Form.__init__" = true)
    (kf_Form : PySem.W.keepIn K (.ref f_Form) = true)
    (kd_Form : PySem.W.nsIn K D_Form "bottom" = some (some (.int 1 tki_Form)))
    (pg_RowList : PySem.W.plainGet K c_RowList Str.empty = true)
    (hd_RowList : PySem.W.hasDictIn K c_RowList = true)
    (po_RowList : PySem.W.plainOver K c_RowList = true)
    (sa_RowList : PySem.W.findIn K (.ref c_RowList) "__setattr__" = some (some (.builtin "object.__setattr__")))
    (mk_RowList : PySem.W.makesIn K c_RowList = true)
    (kc_RowList : PySem.W.keepIn K (.ref c_RowList) = true)
    (na_RowList_size : PySem.W.findIn K (.ref c_RowList) "size" = some none)
    (na_RowList_pairs : PySem.W.findIn K (.ref c_RowList) "pairs" = some none)
    (na_RowList_bottom : PySem.W.findIn K (.ref c_RowList) "bottom" = some none)
    (na_RowList_form : PySem.W.findIn K (.ref c_RowList) "form" = some none)
    (in_RowList : PySem.W.findIn K (.ref c_RowList) "__init__" = some (some (.ref f_RowList)))
    (isf_RowList : PySem.W.isFn K (.ref f_RowList) = true)
    (lf_RowList : K.lookup f_RowList = some ⟨oci_RowList, odi_RowList, .func (PySem.W.fnOf "__init__" "RowList.__init__" (defArgs s_iRowList) (defBody s_iRowList) (defScope s_iRowList) .none (.ref D_RowList) dci_RowList pmi_RowList ani_RowList cdi_RowList cti_RowList), sli_RowList⟩)
    (cf_RowList : PySem.W.codeIn K cdi_RowList "RowList.__init__" = true)
    (kf_RowList : PySem.W.keepIn K (.ref f_RowList) = true)
    (kd_RowList : PySem.W.nsIn K D_RowList "bottom" = some (some (.int 1 tki_RowList)))
    (pg_Web : PySem.W.plainGet K c_Web Str.empty = true)
    (hd_Web : PySem.W.hasDictIn K c_Web = true)
    (po_Web : PySem.W.plainOver K c_Web = true)
    (sa_Web : PySem.W.findIn K (.ref c_Web) "__setattr__" = some (some (.builtin "object.__setattr__")))
    (mk_Web : PySem.W.makesIn K c_Web = true)
    (kc_Web : PySem.W.keepIn K (.ref c_Web) = true)
    (na_Web_places : PySem.W.findIn K (.ref c_Web) "places" = some none)
    (na_Web_ties : PySem.W.findIn K (.ref c_Web) "ties" = some none)
    (na_Web_bottom : PySem.W.findIn K (.ref c_Web) "bottom" = some none)
    (na_Web_rows : PySem.W.findIn K (.ref c_Web) "rows" = some none)
    (na_Web_form : PySem.W.findIn K (.ref c_Web) "form" = some none)
    (in_Web : PySem.W.findIn K (.ref c_Web) "__init__" = some (some (.ref f_Web)))
    (isf_Web : PySem.W.isFn K (.ref f_Web) = true)
    (lf_Web : K.lookup f_Web = some ⟨oci_Web, odi_Web, .func (PySem.W.fnOf "__init__" "Web.__init__" (defArgs s_iWeb) (defBody s_iWeb) (defScope s_iWeb) .none (.ref D_Web) dci_Web pmi_Web ani_Web cdi_Web cti_Web), sli_Web⟩)
    (cf_Web : PySem.W.codeIn K cdi_Web "Web.__init__" = true)
    (kf_Web : PySem.W.keepIn K (.ref f_Web) = true)
    (kd_Web : PySem.W.nsIn K D_Web "bottom" = some (some (.int 1 tki_Web)))
    (me_mbetween : PySem.W.findIn K (.ref c_Form) "between" = some (some (.ref h_mbetween)))
    (mf_mbetween : PySem.W.isFn K (.ref h_mbetween) = true)
    (ml_mbetween : K.lookup h_mbetween = some ⟨ocm_mbetween, odm_mbetween, .func (PySem.W.fnOf "between" "Form.between" (defArgs s_mbetween) (defBody s_mbetween) (defScope s_mbetween) .none kVm_mbetween dcm_mbetween pmm_mbetween anm_mbetween cdm_mbetween ctm_mbetween), slm_mbetween⟩)
    (mc_mbetween : PySem.W.codeIn K cdm_mbetween "Form.between" = true)
    (mp_mbetween : PySem.W.keepIn K (.ref h_mbetween) = true)
    (me_mcall : PySem.W.findIn K (.ref c_Form) "__call__" = some (some (.ref h_mcall)))
    (mf_mcall : PySem.W.isFn K (.ref h_mcall) = true)
    (ml_mcall : K.lookup h_mcall = some ⟨ocm_mcall, odm_mcall, .func (PySem.W.fnOf "__call__" "Form.__call__" (defArgs s_mcall) (defBody s_mcall) (defScope s_mcall) .none kVm_mcall dcm_mcall pmm_mcall anm_mcall cdm_mcall ctm_mcall), slm_mcall⟩)
    (mc_mcall : PySem.W.codeIn K cdm_mcall "Form.__call__" = true)
    (mp_mcall : PySem.W.keepIn K (.ref h_mcall) = true)
    (mi_mcall : PySem.W.fnIn K h_mcall = true)
    (cn0 : PySem.W.specialIn K (.builtin "object.__class__") "__get__" = some (some (.builtin "getset_descriptor.__get__")))
    (ct0 : PySem.W.takesIn K (.builtin "object.__class__") = some true)
    (s_SamePlace_CableError : PySem.W.subIn K (.ref c_SamePlace) (.ref c_CableError) = some true)
    (s_SamePlace_SamePlace : PySem.W.subIn K (.ref c_SamePlace) (.ref c_SamePlace) = some true)
    (s_SamePlace_BadTie : PySem.W.subIn K (.ref c_SamePlace) (.ref c_BadTie) = some false)
    (s_SamePlace_BadRow : PySem.W.subIn K (.ref c_SamePlace) (.ref c_BadRow) = some false)
    (s_SamePlace_SharedPlace : PySem.W.subIn K (.ref c_SamePlace) (.ref c_SharedPlace) = some false)
    (s_SamePlace_SizesDiffer : PySem.W.subIn K (.ref c_SamePlace) (.ref c_SizesDiffer) = some false)
    (sb_SamePlace_ValueError : PySem.W.subIn K (.ref c_SamePlace) (.type "ValueError") = some true)
    : ∃ fd : FuncData, (∀ (s : Shared) (v : Value), BindsTo s fd ⟨[v], []⟩ [("script", v)]) ∧ ∀ base : Heap, K.In base → base.Ns mainGlobals mg → FnOk l.prog w K mg base CX0 12 fa fd ["script"] (spLaw K) := by
  have e := hfa.symm.trans (PySem.W.mg_of X G a38)
  cases e
  have T : Txt mg := { b_len := PySem.W.mg_none_of X G z0, b_int := PySem.W.mg_none_of X G z1, b_bool := PySem.W.mg_none_of X G z2, b_tuple := PySem.W.mg_none_of X G z3, b_list := PySem.W.mg_none_of X G z4, b_isinstance := PySem.W.mg_none_of X G z5, b_range := PySem.W.mg_none_of X G z6, b_enumerate := PySem.W.mg_none_of X G z7, b_zip := PySem.W.mg_none_of X G z8, b_sum := PySem.W.mg_none_of X G z9, b_min := PySem.W.mg_none_of X G z10, b_max := PySem.W.mg_none_of X G z11, b_abs := PySem.W.mg_none_of X G z12, b_all := PySem.W.mg_none_of X G z13, b_any := PySem.W.mg_none_of X G z14, b_ValueError := PySem.W.mg_none_of X G z15, g_gcd := PySem.W.mg_of X G g_gcd }
  have G_CableError := PySem.W.mg_of X G a_CableError
  have G_BadTie := PySem.W.mg_of X G a_BadTie
  have G_BadWeight := PySem.W.mg_of X G a_BadWeight
  have G_BadRow := PySem.W.mg_of X G a_BadRow
  have G_SamePlace := PySem.W.mg_of X G a_SamePlace
  have G_SharedPlace := PySem.W.mg_of X G a_SharedPlace
  have G_SizesDiffer := PySem.W.mg_of X G a_SizesDiffer
  have G_Form := PySem.W.mg_of X G a_Form
  have G_RowList := PySem.W.mg_of X G a_RowList
  have G_Web := PySem.W.mg_of X G a_Web
  have X_BadTie : EX.XCls K c_BadTie := ⟨i_BadTie, ga_BadTie, gg_BadTie, b_BadTie, ca_BadTie, cn0, ct0, cm_BadTie, hd_BadTie, y_BadTie, kp_BadTie⟩
  have O_BadTie : OexC K c_BadTie := ⟨⟨nm_BadTie, q_BadTie, N_BadTie, bs_BadTie, _, sn_BadTie, sub_BadTie, ab_BadTie, col_BadTie, dd_BadTie, m0_BadTie, m1_BadTie, m2_BadTie, m3_BadTie, m5_BadTie, xl_BadTie, by rfl⟩, sa_BadTie, b_BadTie, y_BadTie, kp_BadTie⟩
  have FI_BadTie := fun_mk (st := s_iBT) lf_BadTie cf_BadTie kf_BadTie
  have BI_BadTie := FI_BadTie.binds (ps := ["self", "index"]) fun _ _ _ _ _ _ us hl => match us, hl with | [_, _], _ => rfl
  have X_BadWeight : EX.XCls K c_BadWeight := ⟨i_BadWeight, ga_BadWeight, gg_BadWeight, b_BadWeight, ca_BadWeight, cn0, ct0, cm_BadWeight, hd_BadWeight, y_BadWeight, kp_BadWeight⟩
  have O_BadWeight : OexC K c_BadWeight := ⟨⟨nm_BadWeight, q_BadWeight, N_BadWeight, bs_BadWeight, _, sn_BadWeight, sub_BadWeight, ab_BadWeight, col_BadWeight, dd_BadWeight, m0_BadWeight, m1_BadWeight, m2_BadWeight, m3_BadWeight, m5_BadWeight, xl_BadWeight, by rfl⟩, sa_BadWeight, b_BadWeight, y_BadWeight, kp_BadWeight⟩
  have FI_BadWeight := fun_mk (st := s_iBW) lf_BadWeight cf_BadWeight kf_BadWeight
  have BI_BadWeight := FI_BadWeight.binds (ps := ["self", "index"]) fun _ _ _ _ _ _ us hl => match us, hl with | [_, _], _ => rfl
  have X_SamePlace : EX.XCls K c_SamePlace := ⟨i_SamePlace, ga_SamePlace, gg_SamePlace, b_SamePlace, ca_SamePlace, cn0, ct0, cm_SamePlace, hd_SamePlace, y_SamePlace, kp_SamePlace⟩
  have O_SamePlace : OexC K c_SamePlace := ⟨⟨nm_SamePlace, q_SamePlace, N_SamePlace, bs_SamePlace, _, sn_SamePlace, sub_SamePlace, ab_SamePlace, col_SamePlace, dd_SamePlace, m0_SamePlace, m1_SamePlace, m2_SamePlace, m3_SamePlace, m5_SamePlace, xl_SamePlace, by rfl⟩, sa_SamePlace, b_SamePlace, y_SamePlace, kp_SamePlace⟩
  have FI_SamePlace := fun_mk (st := s_iSP) lf_SamePlace cf_SamePlace kf_SamePlace
  have BI_SamePlace := FI_SamePlace.binds (ps := ["self", "place"]) fun _ _ _ _ _ _ us hl => match us, hl with | [_, _], _ => rfl
  have FO_Form := funD_of (st := s_iForm) lf_Form cf_Form kf_Form kd_Form
  have MK_Form : Mk K c_Form f_Form := ⟨mk_Form, in_Form, isf_Form, kc_Form⟩
  have CL_Form : Cls K c_Form := ⟨pg_Form, hd_Form, po_Form, sa_Form⟩
  have FO_RowList := funD_of (st := s_iRowList) lf_RowList cf_RowList kf_RowList kd_RowList
  have MK_RowList : Mk K c_RowList f_RowList := ⟨mk_RowList, in_RowList, isf_RowList, kc_RowList⟩
  have CL_RowList : Cls K c_RowList := ⟨pg_RowList, hd_RowList, po_RowList, sa_RowList⟩
  have FO_Web := funD_of (st := s_iWeb) lf_Web cf_Web kf_Web kd_Web
  have MK_Web : Mk K c_Web f_Web := ⟨mk_Web, in_Web, isf_Web, kc_Web⟩
  have CL_Web : Cls K c_Web := ⟨pg_Web, hd_Web, po_Web, sa_Web⟩
  have FM_mbetween := fun_mk (st := s_mbetween) ml_mbetween mc_mbetween mp_mbetween
  have BM_mbetween := FM_mbetween.binds (ps := ["self", "one", "two"]) fun _ _ _ _ _ _ us hl => match us, hl with | [_, _, _], _ => rfl
  have FM_mcall := fun_mk (st := s_mcall) ml_mcall mc_mcall mp_mcall
  have BM_mcall := FM_mcall.binds (ps := ["self", "point"]) fun _ _ _ _ _ _ us hl => match us, hl with | [_, _], _ => rfl
  have F_frozen_numbers := fun_mk (st := s_frozen_numbers) l1 c1 k1
  have m_frozen_numbers := PySem.W.mg_of X G a1
  have b_frozen_numbers := F_frozen_numbers.binds (ps := ["value"]) fun _ _ _ _ _ _ us hl => match us, hl with | [_], _ => rfl
  have F_frozen_part := fun_mk (st := s_frozen_part) l2 c2 k2
  have m_frozen_part := PySem.W.mg_of X G a2
  have b_frozen_part := F_frozen_part.binds (ps := ["value"]) fun _ _ _ _ _ _ us hl => match us, hl with | [_], _ => rfl
  have F_frozen := fun_mk (st := s_frozen) l3 c3 k3
  have m_frozen := PySem.W.mg_of X G a3
  have b_frozen := F_frozen.binds (ps := ["value"]) fun _ _ _ _ _ _ us hl => match us, hl with | [_], _ => rfl
  have F_lowered := fun_mk (st := s_lowered) l4 c4 k4
  have m_lowered := PySem.W.mg_of X G a4
  have b_lowered := F_lowered.binds (ps := ["numbers", "bottom"]) fun _ _ _ _ _ _ us hl => match us, hl with | [_, _], _ => rfl
  have F_fraction := fun_mk (st := s_fraction) l5 c5 k5
  have m_fraction := PySem.W.mg_of X G a5
  have b_fraction := F_fraction.binds (ps := ["top", "bottom"]) fun _ _ _ _ _ _ us hl => match us, hl with | [_, _], _ => rfl
  have F_dot := fun_mk (st := s_dot) l6 c6 k6
  have m_dot := PySem.W.mg_of X G a6
  have b_dot := F_dot.binds (ps := ["one", "two"]) fun _ _ _ _ _ _ us hl => match us, hl with | [_, _], _ => rfl
  have F_leaving := fun_mk (st := s_leaving) l7 c7 k7
  have m_leaving := PySem.W.mg_of X G a7
  have b_leaving := F_leaving.binds (ps := ["web", "side"]) fun _ _ _ _ _ _ us hl => match us, hl with | [_, _], _ => rfl
  have F_cut := fun_mk (st := s_cut) l8 c8 k8
  have m_cut := PySem.W.mg_of X G a8
  have b_cut := F_cut.binds (ps := ["web", "side"]) fun _ _ _ _ _ _ us hl => match us, hl with | [_, _], _ => rfl
  have F_sides := fun_mk (st := s_sides) l9 c9 k9
  have m_sides := PySem.W.mg_of X G a9
  have b_sides := F_sides.binds (ps := ["places"]) fun _ _ _ _ _ _ us hl => match us, hl with | [_], _ => rfl
  have F_sides_between := fun_mk (st := s_sides_between) l10 c10 k10
  have m_sides_between := PySem.W.mg_of X G a10
  have b_sides_between := F_sides_between.binds (ps := ["places", "one", "two"]) fun _ _ _ _ _ _ us hl => match us, hl with | [_, _, _], _ => rfl
  have F_least_cut := fun_mk (st := s_least_cut) l11 c11 k11
  have m_least_cut := PySem.W.mg_of X G a11
  have b_least_cut := F_least_cut.binds (ps := ["web", "one", "two"]) fun _ _ _ _ _ _ us hl => match us, hl with | [_, _, _], _ => rfl
  have F_check_square := fun_mk (st := s_check_square) l12 c12 k12
  have m_check_square := PySem.W.mg_of X G a12
  have b_check_square := F_check_square.binds (ps := ["lines"]) fun _ _ _ _ _ _ us hl => match us, hl with | [_], _ => rfl
  have F_check_symmetric := fun_mk (st := s_check_symmetric) l13 c13 k13
  have m_check_symmetric := PySem.W.mg_of X G a13
  have b_check_symmetric := F_check_symmetric.binds (ps := ["lines"]) fun _ _ _ _ _ _ us hl => match us, hl with | [_], _ => rfl
  have F_check_point := fun_mk (st := s_check_point) l14 c14 k14
  have m_check_point := PySem.W.mg_of X G a14
  have b_check_point := F_check_point.binds (ps := ["form", "point"]) fun _ _ _ _ _ _ us hl => match us, hl with | [_, _], _ => rfl
  have F_check_pairs := fun_mk (st := s_check_pairs) l15 c15 k15
  have m_check_pairs := PySem.W.mg_of X G a15
  have b_check_pairs := F_check_pairs.binds (ps := ["size", "pairs"]) fun _ _ _ _ _ _ us hl => match us, hl with | [_, _], _ => rfl
  have F_weighted_sum := fun_mk (st := s_weighted_sum) l16 c16 k16
  have m_weighted_sum := PySem.W.mg_of X G a16
  have b_weighted_sum := F_weighted_sum.binds (ps := ["pairs", "one", "two"]) fun _ _ _ _ _ _ us hl => match us, hl with | [_, _, _], _ => rfl
  have F_weighted_matrix := fun_mk (st := s_weighted_matrix) l17 c17 k17
  have m_weighted_matrix := PySem.W.mg_of X G a17
  have b_weighted_matrix := F_weighted_matrix.binds (ps := ["size", "pairs"]) fun _ _ _ _ _ _ us hl => match us, hl with | [_, _], _ => rfl
  have F_tie_row := fun_mk (st := s_tie_row) l18 c18 k18
  have m_tie_row := PySem.W.mg_of X G a18
  have b_tie_row := F_tie_row.binds (ps := ["places", "tie"]) fun _ _ _ _ _ _ us hl => match us, hl with | [_, _], _ => rfl
  have F_sorted_tie := fun_mk (st := s_sorted_tie) l19 c19 k19
  have m_sorted_tie := PySem.W.mg_of X G a19
  have b_sorted_tie := F_sorted_tie.binds (ps := ["places", "index", "tie"]) fun _ _ _ _ _ _ us hl => match us, hl with | [_, _, _], _ => rfl
  have F__law_whole := fun_mk (st := s__law_whole) l20 c20 k20
  have m__law_whole := PySem.W.mg_of X G a20
  have b__law_whole := F__law_whole.binds (ps := ["value"]) fun _ _ _ _ _ _ us hl => match us, hl with | [_], _ => rfl
  have F__law_cell := fun_mk (st := s__law_cell) l21 c21 k21
  have m__law_cell := PySem.W.mg_of X G a21
  have b__law_cell := F__law_cell.binds (ps := ["script", "k"]) fun _ _ _ _ _ _ us hl => match us, hl with | [_, _], _ => rfl
  have F__law_digits := fun_mk (st := s__law_digits) l22 c22 k22
  have m__law_digits := PySem.W.mg_of X G a22
  have b__law_digits := F__law_digits.binds (ps := ["cell", "sizes"]) fun _ _ _ _ _ _ us hl => match us, hl with | [_, _], _ => rfl
  have F__law_gcd := fun_mk (st := s__law_gcd) l23 c23 k23
  have m__law_gcd := PySem.W.mg_of X G a23
  have b__law_gcd := F__law_gcd.binds (ps := ["one", "two"]) fun _ _ _ _ _ _ us hl => match us, hl with | [_, _], _ => rfl
  have F__law_least := fun_mk (st := s__law_least) l24 c24 k24
  have m__law_least := PySem.W.mg_of X G a24
  have b__law_least := F__law_least.binds (ps := ["top", "base"]) fun _ _ _ _ _ _ us hl => match us, hl with | [_, _], _ => rfl
  have F__law_is_fraction := fun_mk (st := s__law_is_fraction) l25 c25 k25
  have m__law_is_fraction := PySem.W.mg_of X G a25
  have b__law_is_fraction := F__law_is_fraction.binds (ps := ["value"]) fun _ _ _ _ _ _ us hl => match us, hl with | [_], _ => rfl
  have F__law_is_point := fun_mk (st := s__law_is_point) l26 c26 k26
  have m__law_is_point := PySem.W.mg_of X G a26
  have b__law_is_point := F__law_is_point.binds (ps := ["value", "size"]) fun _ _ _ _ _ _ us hl => match us, hl with | [_, _], _ => rfl
  have F__law_rule := fun_mk (st := s__law_rule) l27 c27 k27
  have m__law_rule := PySem.W.mg_of X G a27
  have b__law_rule := F__law_rule.binds (ps := ["places", "kind"]) fun _ _ _ _ _ _ us hl => match us, hl with | [_, _], _ => rfl
  have F__law_draw_ends := fun_mk (st := s__law_draw_ends) l28 c28 k28
  have m__law_draw_ends := PySem.W.mg_of X G a28
  have b__law_draw_ends := F__law_draw_ends.binds (ps := ["places", "kind", "row", "ties"]) fun _ _ _ _ _ _ us hl => match us, hl with | [_, _, _, _], _ => rfl
  have F__law_draw_weight := fun_mk (st := s__law_draw_weight) l29 c29 k29
  have m__law_draw_weight := PySem.W.mg_of X G a29
  have b__law_draw_weight := F__law_draw_weight.binds (ps := ["kind", "row"]) fun _ _ _ _ _ _ us hl => match us, hl with | [_, _], _ => rfl
  have F__law_draw_web := fun_mk (st := s__law_draw_web) l30 c30 k30
  have m__law_draw_web := PySem.W.mg_of X G a30
  have b__law_draw_web := F__law_draw_web.binds (ps := ["script", "at"]) fun _ _ _ _ _ _ us hl => match us, hl with | [_, _], _ => rfl
  have F__law_cut := fun_mk (st := s__law_cut) l31 c31 k31
  have m__law_cut := PySem.W.mg_of X G a31
  have b__law_cut := F__law_cut.binds (ps := ["ties", "side"]) fun _ _ _ _ _ _ us hl => match us, hl with | [_, _], _ => rfl
  have F__law_sides_between := fun_mk (st := s__law_sides_between) l32 c32 k32
  have m__law_sides_between := PySem.W.mg_of X G a32
  have b__law_sides_between := F__law_sides_between.binds (ps := ["places", "one", "two"]) fun _ _ _ _ _ _ us hl => match us, hl with | [_, _, _], _ => rfl
  have F__law_least_right := fun_mk (st := s__law_least_right) l33 c33 k33
  have m__law_least_right := PySem.W.mg_of X G a33
  have b__law_least_right := F__law_least_right.binds (ps := ["web", "drawn", "one", "two"]) fun _ _ _ _ _ _ us hl => match us, hl with | [_, _, _, _], _ => rfl
  have F__law_cut_right := fun_mk (st := s__law_cut_right) l34 c34 k34
  have m__law_cut_right := PySem.W.mg_of X G a34
  have b__law_cut_right := F__law_cut_right.binds (ps := ["web", "drawn", "row"]) fun _ _ _ _ _ _ us hl => match us, hl with | [_, _, _], _ => rfl
  have F__law_sides_right := fun_mk (st := s__law_sides_right) l35 c35 k35
  have m__law_sides_right := PySem.W.mg_of X G a35
  have b__law_sides_right := F__law_sides_right.binds (ps := ["places"]) fun _ _ _ _ _ _ us hl => match us, hl with | [_], _ => rfl
  have F__law_same_place := fun_mk (st := s__law_same_place) l36 c36 k36
  have m__law_same_place := PySem.W.mg_of X G a36
  have b__law_same_place := F__law_same_place.binds (ps := ["web", "one"]) fun _ _ _ _ _ _ us hl => match us, hl with | [_, _], _ => rfl
  have F__law_asked := fun_mk (st := s__law_asked) l37 c37 k37
  have m__law_asked := PySem.W.mg_of X G a37
  have b__law_asked := F__law_asked.binds (ps := ["web", "drawn", "one", "two"]) fun _ _ _ _ _ _ us hl => match us, hl with | [_, _, _, _], _ => rfl
  have F_law := fun_mk (st := s_law) l38 c38 k38
  have m_law := PySem.W.mg_of X G a38
  refine ⟨PySem.W.fnOf "law" "law" (defArgs s_law) (defBody s_law) (defScope s_law) .none kV38 dc38 pm38 an38 cd38 ct38, fun s v => .of_eq rfl, fun base _ _ => ?_⟩
  have U : Err K mg c_Form c_RowList c_Web c_BadTie c_BadWeight c_CableError c_BadRow c_SamePlace c_SizesDiffer c_SharedPlace f_BadTie f_BadWeight f_SamePlace := { g_CableError := G_CableError, g_BadTie := G_BadTie, g_BadWeight := G_BadWeight, g_BadRow := G_BadRow, g_SamePlace := G_SamePlace, g_SizesDiffer := G_SizesDiffer, g_SharedPlace := G_SharedPlace, g_Form := G_Form, g_RowList := G_RowList, g_Web := G_Web, o_BadTie := O_BadTie, i_BadTie := in_BadTie, t_BadTie := tf_BadTie, no_BadTie_index := no_BadTie_index, o_BadWeight := O_BadWeight, i_BadWeight := in_BadWeight, t_BadWeight := tf_BadWeight, no_BadWeight_index := no_BadWeight_index, o_SamePlace := O_SamePlace, i_SamePlace := in_SamePlace, t_SamePlace := tf_SamePlace, no_SamePlace_place := no_SamePlace_place, xT := X_BadTie, xG := X_BadWeight, xP := X_SamePlace, ePC := EX.exm_sub i_CableError y_CableError b_CableError s_SamePlace_CableError, kPP := EX.kit_sub i_SamePlace y_SamePlace s_SamePlace_SamePlace s_SamePlace_SamePlace, kPT := EX.kit_sub i_BadTie y_BadTie s_SamePlace_BadTie s_SamePlace_SamePlace, kPE := EX.kit_sub i_BadRow y_BadRow s_SamePlace_BadRow s_SamePlace_SamePlace, kPH := EX.kit_sub i_SharedPlace y_SharedPlace s_SamePlace_SharedPlace s_SamePlace_SamePlace, kPS := EX.kit_sub i_SizesDiffer y_SizesDiffer s_SamePlace_SizesDiffer s_SamePlace_SamePlace, kPV := EX.kit_blt (by decide +kernel) sb_SamePlace_ValueError }
  have INT := ok_iBT (P := l.prog) (w := w) (base := base) FI_BadTie U
  have ING := ok_iBW (P := l.prog) (w := w) (base := base) FI_BadWeight U
  have INP := ok_iSP (P := l.prog) (w := w) (base := base) FI_SamePlace U
  have O : Obs K c_Form c_RowList := { clF := CL_Form, F_size := na_Form_size, F_entries := na_Form_entries, F_bottom := na_Form_bottom, clR := CL_RowList, R_size := na_RowList_size, R_pairs := na_RowList_pairs, R_bottom := na_RowList_bottom, R_form := na_RowList_form }
  have O2 : ObW K c_Web := { clW := CL_Web, W_places := na_Web_places, W_ties := na_Web_ties, W_bottom := na_Web_bottom, W_rows := na_Web_rows, W_form := na_Web_form }
  obtain ⟨gF, kbF⟩ := kb_Form FO_Form
  obtain ⟨gR, kbR⟩ := kb_RowList FO_RowList
  obtain ⟨gW, kbW⟩ := kb_Web FO_Web
  have C_frozen_numbers : Cal l.prog w K mg base 1 "frozen_numbers" ["value"] (spFz K 1) := ⟨_, _, ok_frozen_numbers F_frozen_numbers T, m_frozen_numbers, F_frozen_numbers.kp, b_frozen_numbers⟩
  have C_frozen_part : Cal l.prog w K mg base 2 "frozen_part" ["value"] (spFz K 2) := ⟨_, _, ok_frozen_part F_frozen_part T C_frozen_numbers, m_frozen_part, F_frozen_part.kp, b_frozen_part⟩
  have C_frozen : Cal l.prog w K mg base 3 "frozen" ["value"] (spFz K 3) := ⟨_, _, ok_frozen F_frozen T C_frozen_part, m_frozen, F_frozen.kp, b_frozen⟩
  have C_lowered : Cal l.prog w K mg base 1 "lowered" ["numbers", "bottom"] spLow := ⟨_, _, ok_lowered F_lowered T, m_lowered, F_lowered.kp, b_lowered⟩
  have C_fraction : Cal l.prog w K mg base 1 "fraction" ["top", "bottom"] spFraction := ⟨_, _, ok_fraction F_fraction T, m_fraction, F_fraction.kp, b_fraction⟩
  have C_check_square : Cal l.prog w K mg base 1 "check_square" ["lines"] (spSquare K) := ⟨_, _, ok_check_square F_check_square T, m_check_square, F_check_square.kp, b_check_square⟩
  have C_check_symmetric : Cal l.prog w K mg base 1 "check_symmetric" ["lines"] (spSymm K) := ⟨_, _, ok_check_symmetric F_check_symmetric T, m_check_symmetric, F_check_symmetric.kp, b_check_symmetric⟩
  have C_check_pairs : Cal l.prog w K mg base 1 "check_pairs" ["size", "pairs"] (spPairs K) := ⟨_, _, ok_check_pairs F_check_pairs T, m_check_pairs, F_check_pairs.kp, b_check_pairs⟩
  have C_weighted_sum : Cal l.prog w K mg base 1 "weighted_sum" ["pairs", "one", "two"] (spWsum K) := ⟨_, _, ok_weighted_sum F_weighted_sum T, m_weighted_sum, F_weighted_sum.kp, b_weighted_sum⟩
  have C_weighted_matrix : Cal l.prog w K mg base 2 "weighted_matrix" ["size", "pairs"] (spWmat K) := ⟨_, _, ok_weighted_matrix F_weighted_matrix T C_weighted_sum, m_weighted_matrix, F_weighted_matrix.kp, b_weighted_matrix⟩
  have C_tie_row : Cal l.prog w K mg base 1 "tie_row" ["places", "tie"] (spRow K) := ⟨_, _, ok_tie_row F_tie_row T, m_tie_row, F_tie_row.kp, b_tie_row⟩
  have C_sorted_tie : EX.CalX l.prog w K mg base 4 "sorted_tie" ["places", "index", "tie"] (spSortX K c_BadTie c_BadWeight) := ⟨_, _, ok_sorted_tie F_sorted_tie T U INT BI_BadTie ING BI_BadWeight, m_sorted_tie, F_sorted_tie.kp, b_sorted_tie⟩
  have C__law_cell : Cal l.prog w K mg base 1 "_law_cell" ["script", "k"] (spCell K) := ⟨_, _, ok__law_cell F__law_cell T, m__law_cell, F__law_cell.kp, b__law_cell⟩
  have C__law_digits : Cal l.prog w K mg base 1 "_law_digits" ["cell", "sizes"] (spDigits K) := ⟨_, _, ok__law_digits F__law_digits T, m__law_digits, F__law_digits.kp, b__law_digits⟩
  have C__law_whole : Cal l.prog w K mg base 1 "_law_whole" ["value"] spLaw_whole := ⟨_, _, ok__law_whole F__law_whole T, m__law_whole, F__law_whole.kp, b__law_whole⟩
  have CH__law_whole : EX.CalH l.prog w K mg base 1 "_law_whole" ["value"] spLaw_whole := ⟨_, _, okH__law_whole F__law_whole T, m__law_whole, F__law_whole.kp, b__law_whole⟩
  have C__law_gcd : Cal l.prog w K mg base 1 "_law_gcd" ["one", "two"] spGcd := ⟨_, _, ok__law_gcd F__law_gcd T, m__law_gcd, F__law_gcd.kp, b__law_gcd⟩
  have C__law_least : Cal l.prog w K mg base 2 "_law_least" ["top", "base"] spLeast := ⟨_, _, ok__law_least F__law_least T C__law_gcd, m__law_least, F__law_least.kp, b__law_least⟩
  have C__law_is_fraction : Cal l.prog w K mg base 2 "_law_is_fraction" ["value"] spFrac := ⟨_, _, ok__law_is_fraction F__law_is_fraction T C__law_whole C__law_gcd, m__law_is_fraction, F__law_is_fraction.kp, b__law_is_fraction⟩
  have C__law_is_point : Cal l.prog w K mg base 2 "_law_is_point" ["value", "size"] (spIsPoint K) := ⟨_, _, ok__law_is_point F__law_is_point T C__law_whole, m__law_is_point, F__law_is_point.kp, b__law_is_point⟩
  have C_dot : Cal l.prog w K mg base 1 "dot" ["one", "two"] (spDot K) := ⟨_, _, ok_dot F_dot T, m_dot, F_dot.kp, b_dot⟩
  have C_check_point : Cal l.prog w K mg base 1 "check_point" ["form", "point"] (spPoint K c_Form) := ⟨_, _, ok_check_point F_check_point T O, m_check_point, F_check_point.kp, b_check_point⟩
  have C__law_rule : Cal l.prog w K mg base 1 "_law_rule" ["places", "kind"] (spRule K) := ⟨_, _, ok__law_rule F__law_rule T, m__law_rule, F__law_rule.kp, b__law_rule⟩
  have C__law_draw_ends : Cal l.prog w K mg base 1 "_law_draw_ends" ["places", "kind", "row", "ties"] (spEnds K) := ⟨_, _, ok__law_draw_ends F__law_draw_ends T, m__law_draw_ends, F__law_draw_ends.kp, b__law_draw_ends⟩
  have C__law_draw_weight : Cal l.prog w K mg base 1 "_law_draw_weight" ["kind", "row"] (spMkw K) := ⟨_, _, ok__law_draw_weight F__law_draw_weight T, m__law_draw_weight, F__law_draw_weight.kp, b__law_draw_weight⟩
  have C__law_draw_web : Cal l.prog w K mg base 2 "_law_draw_web" ["script", "at"] (spDraw K) := ⟨_, _, ok__law_draw_web F__law_draw_web T C__law_cell C__law_digits C__law_draw_weight C__law_rule C__law_draw_ends, m__law_draw_web, F__law_draw_web.kp, b__law_draw_web⟩
  have C_leaving : Cal l.prog w K mg base 1 "leaving" ["web", "side"] (spLeav K c_Form c_RowList c_Web) := ⟨_, _, ok_leaving F_leaving T O2, m_leaving, F_leaving.kp, b_leaving⟩
  have C_cut : Cal l.prog w K mg base 4 "cut" ["web", "side"] (spCut K c_Form c_RowList c_Web) := ⟨_, _, ok_cut F_cut T O2 C_fraction C_leaving C_frozen, m_cut, F_cut.kp, b_cut⟩
  have C_sides_between : Cal l.prog w K mg base 1 "sides_between" ["places", "one", "two"] (spSB K) := ⟨_, _, ok_sides_between F_sides_between T, m_sides_between, F_sides_between.kp, b_sides_between⟩
  have C__law_sides_between : Cal l.prog w K mg base 1 "_law_sides_between" ["places", "one", "two"] (spSB K) := ⟨_, _, ok__law_sides_between F__law_sides_between T, m__law_sides_between, F__law_sides_between.kp, b__law_sides_between⟩
  have C_least_cut : EX.CalX l.prog w K mg base 4 "least_cut" ["web", "one", "two"] (spLeast2 K c_Form c_RowList c_Web c_SamePlace) := ⟨_, _, ok_least_cut F_least_cut T U O2 INP BI_SamePlace C_fraction C_leaving C_sides_between, m_least_cut, F_least_cut.kp, b_least_cut⟩
  have C__law_cut : Cal l.prog w K mg base 1 "_law_cut" ["ties", "side"] (spLCut K) := ⟨_, _, ok__law_cut F__law_cut T, m__law_cut, F__law_cut.kp, b__law_cut⟩
  have C__law_same_place : Cal l.prog w K mg base 6 "_law_same_place" ["web", "one"] (spSame K c_Form c_RowList c_Web) := ⟨_, _, ok__law_same_place F__law_same_place T U C_least_cut CH__law_whole, m__law_same_place, F__law_same_place.kp, b__law_same_place⟩
  have C_Form : CalK l.prog w K mg base 4 "Form" c_Form 1 ["bottom"] (spForm K c_Form) := ⟨_, _, _, gF, MK_Form, ok_iForm FO_Form T O C_frozen C_check_square C_check_symmetric C_lowered, G_Form, kbF⟩
  have C_RowList : CalK l.prog w K mg base 6 "RowList" c_RowList 2 ["bottom"] (spRows K c_Form c_RowList) := ⟨_, _, _, gR, MK_RowList, ok_iRowList FO_RowList T O C_frozen C_check_pairs C_lowered C_weighted_matrix C_Form, G_RowList, kbR⟩
  have FW := ok_iWeb FO_Web T O O2 C_frozen C_sorted_tie C_tie_row C_lowered C_RowList
  have CX_Web : CalKX l.prog w K mg base 8 "Web" c_Web 2 ["bottom"] (spWeb K c_Form c_RowList c_Web c_BadTie c_BadWeight) := ⟨_, _, _, gW, MK_Web, FW, G_Web, kbW⟩
  have C_Web : CalK l.prog w K mg base 8 "Web" c_Web 2 ["bottom"] (fun vs H Q _ => spWeb K c_Form c_RowList c_Web c_BadTie c_BadWeight vs H Q E0) := CX_Web.calm
  have C_mbetween : CalM l.prog w K mg base 2 c_Form "between" ["self", "one", "two"] (spBetw K c_Form) := ⟨_, _, ok_mbetween FM_mbetween T O C_check_point C_fraction C_dot, ⟨me_mbetween, mf_mbetween, mp_mbetween⟩, BM_mbetween⟩
  have C_form : CallF l.prog w K mg base c_Form := ⟨_, _, ok_mcall FM_mcall T O C_mbetween, ⟨me_mcall, mf_mcall, mi_mcall⟩, BM_mcall⟩
  have C0_least_cut : Cal l.prog w K mg base 4 "least_cut" ["web", "one", "two"] (fun vs H Q _ => spLeast2 K c_Form c_RowList c_Web c_SamePlace vs H Q E0) := ⟨_, _, calm_of (ok_least_cut F_least_cut T U O2 INP BI_SamePlace C_fraction C_leaving C_sides_between), m_least_cut, F_least_cut.kp, b_least_cut⟩
  have G_sides : CalG l.prog w K mg base 1 "sides" ["places"] (spSides K) := ⟨_, _, gok_sides F_sides T, m_sides, F_sides.kp, b_sides⟩
  have C__law_least_right : Cal l.prog w K mg base 5 "_law_least_right" ["web", "drawn", "one", "two"] (spLR K c_Form c_RowList c_Web) := ⟨_, _, ok__law_least_right F__law_least_right T C0_least_cut C__law_is_fraction C__law_sides_between C__law_is_point C__law_cut C__law_least, m__law_least_right, F__law_least_right.kp, b__law_least_right⟩
  have C__law_asked : Cal l.prog w K mg base 7 "_law_asked" ["web", "drawn", "one", "two"] (spAsked K c_Form c_RowList c_Web) := ⟨_, _, ok__law_asked F__law_asked T C__law_same_place C__law_least_right, m__law_asked, F__law_asked.kp, b__law_asked⟩
  have C__law_sides_right : Cal l.prog w K mg base 6 "_law_sides_right" ["places"] (spSR K) := ⟨_, _, ok__law_sides_right F__law_sides_right T G_sides C__law_is_point, m__law_sides_right, F__law_sides_right.kp, b__law_sides_right⟩
  have C__law_cut_right : Cal l.prog w K mg base 6 "_law_cut_right" ["web", "drawn", "row"] (spCutR K c_Form c_RowList c_Web) := ⟨_, _, ok__law_cut_right F__law_cut_right T O2 C_form C_cut C__law_is_fraction C__law_cut C__law_least, m__law_cut_right, F__law_cut_right.kp, b__law_cut_right⟩
  exact ok_law F_law T C_Web C__law_draw_web C__law_digits C__law_cell C__law_sides_right C__law_asked C__law_cut_right
theorem walk {l : PySem.W.OpenLaw} {q : Program} {loose : List Str} {XP : (Str → Option Value) → Heap → Prop} {YP : World → Heap → Prop} {d : DefRec} {K : Params → PySem.W.Frag} (hn : l.most = some 63) (hdf : d.params.defaults = [])
    (hY : ∀ (w : World) (h : Heap), YP w h → (K w.params).In h)
    (F : ∀ (w : World) (mg : Str → Option Value) (fa : Addr) (h : Heap), (K w.params).In h → h.Ns mainGlobals mg → mg d.name = some (.ref fa) →
      ∃ fd : FuncData, (∀ (s : Shared) (u : Value), BindsTo s fd ⟨[u], []⟩ [("script", u)]) ∧ ∀ base : Heap, (K w.params).In base → base.Ns mainGlobals mg → FnOk l.prog w (K w.params) mg base CX0 12 fa fd ["script"] (spLaw (K w.params))) :
    PySem.W.WalkO q loose XP YP l.row.toRowW d [] (fun f vs => PySem.call f vs) :=
  L2.walk_of (n := 63) (k := 12) (x := "script") (CX := fun _ => CX0) (sp := fun w => spLaw (K w.params)) hn (by decide) hdf ⟨rfl, by decide, by decide⟩ hY F (fun _ _ a ns hl _ hS => ⟨a, ns, rfl, hS, hl, fun _ => rfl⟩) fun _ _ _ _ _ z => z
end P15
open PySem PySem.W PyProof.Rows
set_option maxRecDepth 100000 in
set_option maxHeartbeats 0 in
theorem PySem.Challenge.cw_wholecables_k15_least_cut_holds : PySem.Challenge.rw_wholecables_k15_least_cut.Holds := by
  w_on; o_law; k_head; (case hw => w_witness2)
  k_fill
  refine P15.walk (l := PySem.Challenge.rw_wholecables_k15_least_cut) rfl rfl (fun w h Y => PySem.W.kIn_of Y) ?F
  case F =>
    intro w mg fa h KX G hmg
    refine' P15.all_mk KX G hmg ?a1 ?l1 ?c1 ?k1 ?a2 ?l2 ?c2 ?k2 ?a3 ?l3 ?c3 ?k3 ?a4 ?l4 ?c4 ?k4 ?a5 ?l5 ?c5 ?k5 ?a6 ?l6 ?c6 ?k6 ?a7 ?l7 ?c7 ?k7 ?a8 ?l8 ?c8 ?k8 ?a9 ?l9 ?c9 ?k9 ?a10 ?l10 ?c10 ?k10 ?a11 ?l11 ?c11 ?k11 ?a12 ?l12 ?c12 ?k12 ?a13 ?l13 ?c13 ?k13 ?a14 ?l14 ?c14 ?k14 ?a15 ?l15 ?c15 ?k15 ?a16 ?l16 ?c16 ?k16 ?a17 ?l17 ?c17 ?k17 ?a18 ?l18 ?c18 ?k18 ?a19 ?l19 ?c19 ?k19 ?a20 ?l20 ?c20 ?k20 ?a21 ?l21 ?c21 ?k21 ?a22 ?l22 ?c22 ?k22 ?a23 ?l23 ?c23 ?k23 ?a24 ?l24 ?c24 ?k24 ?a25 ?l25 ?c25 ?k25 ?a26 ?l26 ?c26 ?k26 ?a27 ?l27 ?c27 ?k27 ?a28 ?l28 ?c28 ?k28 ?a29 ?l29 ?c29 ?k29 ?a30 ?l30 ?c30 ?k30 ?a31 ?l31 ?c31 ?k31 ?a32 ?l32 ?c32 ?k32 ?a33 ?l33 ?c33 ?k33 ?a34 ?l34 ?c34 ?k34 ?a35 ?l35 ?c35 ?k35 ?a36 ?l36 ?c36 ?k36 ?a37 ?l37 ?c37 ?k37 ?a38 ?l38 ?c38 ?k38 ?z0 ?z1 ?z2 ?z3 ?z4 ?z5 ?z6 ?z7 ?z8 ?z9 ?z10 ?z11 ?z12 ?z13 ?z14 ?z15 ?g_gcd ?a_CableError ?a_BadTie ?a_BadWeight ?a_BadRow ?a_SamePlace ?a_SharedPlace ?a_SizesDiffer ?a_Form ?a_RowList ?a_Web ?i_CableError ?y_CableError ?i_BadTie ?y_BadTie ?i_BadWeight ?y_BadWeight ?i_BadRow ?y_BadRow ?i_SamePlace ?y_SamePlace ?i_SharedPlace ?y_SharedPlace ?i_SizesDiffer ?y_SizesDiffer ?b_CableError ?b_BadTie ?b_BadWeight ?b_SamePlace ?xl_BadTie ?sa_BadTie ?ga_BadTie ?gg_BadTie ?ca_BadTie ?cm_BadTie ?hd_BadTie ?kp_BadTie ?no_BadTie_index ?in_BadTie ?tf_BadTie ?lf_BadTie ?cf_BadTie ?kf_BadTie ?xl_BadWeight ?sa_BadWeight ?ga_BadWeight ?gg_BadWeight ?ca_BadWeight ?cm_BadWeight ?hd_BadWeight ?kp_BadWeight ?no_BadWeight_index ?in_BadWeight ?tf_BadWeight ?lf_BadWeight ?cf_BadWeight ?kf_BadWeight ?xl_SamePlace ?sa_SamePlace ?ga_SamePlace ?gg_SamePlace ?ca_SamePlace ?cm_SamePlace ?hd_SamePlace ?kp_SamePlace ?no_SamePlace_place ?in_SamePlace ?tf_SamePlace ?lf_SamePlace ?cf_SamePlace ?kf_SamePlace ?pg_Form ?hd_Form ?po_Form ?sa_Form ?mk_Form ?kc_Form ?na_Form_size ?na_Form_entries ?na_Form_bottom ?in_Form ?isf_Form ?lf_Form ?cf_Form ?kf_Form ?kd_Form ?pg_RowList ?hd_RowList ?po_RowList ?sa_RowList ?mk_RowList ?kc_RowList ?na_RowList_size ?na_RowList_pairs ?na_RowList_bottom ?na_RowList_form ?in_RowList ?isf_RowList ?lf_RowList ?cf_RowList ?kf_RowList ?kd_RowList ?pg_Web ?hd_Web ?po_Web ?sa_Web ?mk_Web ?kc_Web ?na_Web_places ?na_Web_ties ?na_Web_bottom ?na_Web_rows ?na_Web_form ?in_Web ?isf_Web ?lf_Web ?cf_Web ?kf_Web ?kd_Web ?me_mbetween ?mf_mbetween ?ml_mbetween ?mc_mbetween ?mp_mbetween ?me_mcall ?mf_mcall ?ml_mcall ?mc_mcall ?mp_mcall ?mi_mcall ?cn0 ?ct0 ?s_SamePlace_CableError ?s_SamePlace_SamePlace ?s_SamePlace_BadTie ?s_SamePlace_BadRow ?s_SamePlace_SharedPlace ?s_SamePlace_SizesDiffer ?sb_SamePlace_ValueError
    (case a1 => k_is)
    (case l1 => k_is)
    (case c1 => k_is)
    (case k1 => k_is)
    (case a2 => k_is)
    (case l2 => k_is)
    (case c2 => k_is)
    (case k2 => k_is)
    (case a3 => k_is)
    (case l3 => k_is)
    (case c3 => k_is)
    (case k3 => k_is)
    (case a4 => k_is)
    (case l4 => k_is)
    (case c4 => k_is)
    (case k4 => k_is)
    (case a5 => k_is)
    (case l5 => k_is)
    (case c5 => k_is)
    (case k5 => k_is)
    (case a6 => k_is)
    (case l6 => k_is)
    (case c6 => k_is)
    (case k6 => k_is)
    (case a7 => k_is)
    (case l7 => k_is)
    (case c7 => k_is)
    (case k7 => k_is)
    (case a8 => k_is)
    (case l8 => k_is)
    (case c8 => k_is)
    (case k8 => k_is)
    (case a9 => k_is)
    (case l9 => k_is)
    (case c9 => k_is)
    (case k9 => k_is)
    (case a10 => k_is)
    (case l10 => k_is)
    (case c10 => k_is)
    (case k10 => k_is)
    (case a11 => k_is)
    (case l11 => k_is)
    (case c11 => k_is)
    (case k11 => k_is)
    (case a12 => k_is)
    (case l12 => k_is)
    (case c12 => k_is)
    (case k12 => k_is)
    (case a13 => k_is)
    (case l13 => k_is)
    (case c13 => k_is)
    (case k13 => k_is)
    (case a14 => k_is)
    (case l14 => k_is)
    (case c14 => k_is)
    (case k14 => k_is)
    (case a15 => k_is)
    (case l15 => k_is)
    (case c15 => k_is)
    (case k15 => k_is)
    (case a16 => k_is)
    (case l16 => k_is)
    (case c16 => k_is)
    (case k16 => k_is)
    (case a17 => k_is)
    (case l17 => k_is)
    (case c17 => k_is)
    (case k17 => k_is)
    (case a18 => k_is)
    (case l18 => k_is)
    (case c18 => k_is)
    (case k18 => k_is)
    (case a19 => k_is)
    (case l19 => k_is)
    (case c19 => k_is)
    (case k19 => k_is)
    (case a20 => k_is)
    (case l20 => k_is)
    (case c20 => k_is)
    (case k20 => k_is)
    (case a21 => k_is)
    (case l21 => k_is)
    (case c21 => k_is)
    (case k21 => k_is)
    (case a22 => k_is)
    (case l22 => k_is)
    (case c22 => k_is)
    (case k22 => k_is)
    (case a23 => k_is)
    (case l23 => k_is)
    (case c23 => k_is)
    (case k23 => k_is)
    (case a24 => k_is)
    (case l24 => k_is)
    (case c24 => k_is)
    (case k24 => k_is)
    (case a25 => k_is)
    (case l25 => k_is)
    (case c25 => k_is)
    (case k25 => k_is)
    (case a26 => k_is)
    (case l26 => k_is)
    (case c26 => k_is)
    (case k26 => k_is)
    (case a27 => k_is)
    (case l27 => k_is)
    (case c27 => k_is)
    (case k27 => k_is)
    (case a28 => k_is)
    (case l28 => k_is)
    (case c28 => k_is)
    (case k28 => k_is)
    (case a29 => k_is)
    (case l29 => k_is)
    (case c29 => k_is)
    (case k29 => k_is)
    (case a30 => k_is)
    (case l30 => k_is)
    (case c30 => k_is)
    (case k30 => k_is)
    (case a31 => k_is)
    (case l31 => k_is)
    (case c31 => k_is)
    (case k31 => k_is)
    (case a32 => k_is)
    (case l32 => k_is)
    (case c32 => k_is)
    (case k32 => k_is)
    (case a33 => k_is)
    (case l33 => k_is)
    (case c33 => k_is)
    (case k33 => k_is)
    (case a34 => k_is)
    (case l34 => k_is)
    (case c34 => k_is)
    (case k34 => k_is)
    (case a35 => k_is)
    (case l35 => k_is)
    (case c35 => k_is)
    (case k35 => k_is)
    (case a36 => k_is)
    (case l36 => k_is)
    (case c36 => k_is)
    (case k36 => k_is)
    (case a37 => k_is)
    (case l37 => k_is)
    (case c37 => k_is)
    (case k37 => k_is)
    (case a38 => k_is)
    (case l38 => k_is)
    (case c38 => k_is)
    (case k38 => k_is)
    (case z0 => k_is)
    (case z1 => k_is)
    (case z2 => k_is)
    (case z3 => k_is)
    (case z4 => k_is)
    (case z5 => k_is)
    (case z6 => k_is)
    (case z7 => k_is)
    (case z8 => k_is)
    (case z9 => k_is)
    (case z10 => k_is)
    (case z11 => k_is)
    (case z12 => k_is)
    (case z13 => k_is)
    (case z14 => k_is)
    (case z15 => k_is)
    (case g_gcd => k_is)
    (case a_CableError => k_is)
    (case a_BadTie => k_is)
    (case a_BadWeight => k_is)
    (case a_BadRow => k_is)
    (case a_SamePlace => k_is)
    (case a_SharedPlace => k_is)
    (case a_SizesDiffer => k_is)
    (case a_Form => k_is)
    (case a_RowList => k_is)
    (case a_Web => k_is)
    (case i_CableError => k_is)
    (case y_CableError => k_is)
    (case i_BadTie => k_is)
    (case y_BadTie => k_is)
    (case i_BadWeight => k_is)
    (case y_BadWeight => k_is)
    (case i_BadRow => k_is)
    (case y_BadRow => k_is)
    (case i_SamePlace => k_is)
    (case y_SamePlace => k_is)
    (case i_SharedPlace => k_is)
    (case y_SharedPlace => k_is)
    (case i_SizesDiffer => k_is)
    (case y_SizesDiffer => k_is)
    (case b_CableError => k_is)
    (case b_BadTie => k_is)
    (case b_BadWeight => k_is)
    (case b_SamePlace => k_is)
    (case xl_BadTie => k_is)
    (case sa_BadTie => k_is)
    (case ga_BadTie => k_is)
    (case gg_BadTie => k_is)
    (case ca_BadTie => k_is)
    (case cm_BadTie => k_is)
    (case hd_BadTie => k_is)
    (case kp_BadTie => k_is)
    (case no_BadTie_index => k_is)
    (case in_BadTie => k_is)
    (case tf_BadTie => k_is)
    (case lf_BadTie => k_is)
    (case cf_BadTie => k_is)
    (case kf_BadTie => k_is)
    (case xl_BadWeight => k_is)
    (case sa_BadWeight => k_is)
    (case ga_BadWeight => k_is)
    (case gg_BadWeight => k_is)
    (case ca_BadWeight => k_is)
    (case cm_BadWeight => k_is)
    (case hd_BadWeight => k_is)
    (case kp_BadWeight => k_is)
    (case no_BadWeight_index => k_is)
    (case in_BadWeight => k_is)
    (case tf_BadWeight => k_is)
    (case lf_BadWeight => k_is)
    (case cf_BadWeight => k_is)
    (case kf_BadWeight => k_is)
    (case xl_SamePlace => k_is)
    (case sa_SamePlace => k_is)
    (case ga_SamePlace => k_is)
    (case gg_SamePlace => k_is)
    (case ca_SamePlace => k_is)
    (case cm_SamePlace => k_is)
    (case hd_SamePlace => k_is)
    (case kp_SamePlace => k_is)
    (case no_SamePlace_place => k_is)
    (case in_SamePlace => k_is)
    (case tf_SamePlace => k_is)
    (case lf_SamePlace => k_is)
    (case cf_SamePlace => k_is)
    (case kf_SamePlace => k_is)
    (case pg_Form => k_is)
    (case hd_Form => k_is)
    (case po_Form => k_is)
    (case sa_Form => k_is)
    (case mk_Form => k_is)
    (case kc_Form => k_is)
    (case na_Form_size => k_is)
    (case na_Form_entries => k_is)
    (case na_Form_bottom => k_is)
    (case in_Form => k_is)
    (case isf_Form => k_is)
    (case lf_Form => k_is)
    (case cf_Form => k_is)
    (case kf_Form => k_is)
    (case kd_Form => k_is)
    (case pg_RowList => k_is)
    (case hd_RowList => k_is)
    (case po_RowList => k_is)
    (case sa_RowList => k_is)
    (case mk_RowList => k_is)
    (case kc_RowList => k_is)
    (case na_RowList_size => k_is)
    (case na_RowList_pairs => k_is)
    (case na_RowList_bottom => k_is)
    (case na_RowList_form => k_is)
    (case in_RowList => k_is)
    (case isf_RowList => k_is)
    (case lf_RowList => k_is)
    (case cf_RowList => k_is)
    (case kf_RowList => k_is)
    (case kd_RowList => k_is)
    (case pg_Web => k_is)
    (case hd_Web => k_is)
    (case po_Web => k_is)
    (case sa_Web => k_is)
    (case mk_Web => k_is)
    (case kc_Web => k_is)
    (case na_Web_places => k_is)
    (case na_Web_ties => k_is)
    (case na_Web_bottom => k_is)
    (case na_Web_rows => k_is)
    (case na_Web_form => k_is)
    (case in_Web => k_is)
    (case isf_Web => k_is)
    (case lf_Web => k_is)
    (case cf_Web => k_is)
    (case kf_Web => k_is)
    (case kd_Web => k_is)
    (case me_mbetween => k_is)
    (case mf_mbetween => k_is)
    (case ml_mbetween => k_is)
    (case mc_mbetween => k_is)
    (case mp_mbetween => k_is)
    (case me_mcall => k_is)
    (case mf_mcall => k_is)
    (case ml_mcall => k_is)
    (case mc_mcall => k_is)
    (case mp_mcall => k_is)
    (case mi_mcall => k_is)
    (case cn0 => k_is)
    (case ct0 => k_is)
    (case s_SamePlace_CableError => k_is)
    (case s_SamePlace_SamePlace => k_is)
    (case s_SamePlace_BadTie => k_is)
    (case s_SamePlace_BadRow => k_is)
    (case s_SamePlace_SharedPlace => k_is)
    (case s_SamePlace_SizesDiffer => k_is)
    (case sb_SamePlace_ValueError => k_is)
