import PyProof.Rows.All
import Wide.All
import OpenK.AllK
import Wide.FinOn
import HandS.ForMost
import HandS.ForExc
import HandS.Star
import HandS.TupAny
import HandS.TupMul
import HandS.Deep
import HandS.Wide
import HandS.Style
import HandS.Flow
import HandS.IsInst
import HandS.RaiseMore
import HandS.Conv
import HandS.ExcOwn
import HandS.Defaults
import HandS.HeadEnd
import HandS.HeadHook2
import HandS.Head2
import HandS.SetFor
import HandS.Text
import PyProof.ReprBulk
import HandS.HeadHook1
import HandS.ExcIs
import HandS.HotCalls
import HandS.HeadHook3
import HandS.More
import HandS.Head0
import HandS.Head1
import KE.KStateDown
import Lean
import PySem.Challenge.RW_loopsheld_k21_lines_and_forms
set_option Elab.async false
set_option linter.all false
set_option maxRecDepth 100000
set_option maxHeartbeats 0
/-! TV: a layer of tree values over the hand layer. Data are trees (PyData); lists that a def goes on changing are live, by number. -/
namespace TV
open PySem PySem.Spec PyProof.Rows L2

/-! ## values, live objects, answers -/
inductive D where
  | t (x : PyData)
  | lst (n : Nat)
  | fz (xs : List PyData)
  | tupR (xs : List D)
  | ref (a : Addr)
  | ty (n : String)
  | glo (x : Str)
inductive O where
  | l (xs : List PyData)
  | ins (c : Str) (fs : List (Str × PyData))
abbrev Mu := List O
abbrev Sl := List (Option D)
inductive R (α : Type) where
  | ok (a : α) (μ : Mu)
  | ex (c : Str) (p : Option (List (Str × PyData))) (μ : Mu)
  | bad
inductive RS where
  | nx (δ : Sl) (μ : Mu)
  | bk (δ : Sl) (μ : Mu)
  | ct (δ : Sl) (μ : Mu)
  | rt (x : D) (μ : Mu)
  | ex (c : Str) (p : Option (List (Str × PyData))) (δ : Sl) (μ : Mu)
  | bad
abbrev DE := Sl → Mu → R D
abbrev DS := Sl → Mu → RS
abbrev DF := List D → Mu → R D
def R.bind {α β : Type} (r : R α) (k : α → Mu → R β) : R β := match r with
  | .ok a μ => k a μ
  | .ex c p μ => .ex c p μ
  | .bad => .bad
def RS.seq (r : RS) (k : DS) : RS := match r with
  | .nx δ μ => k δ μ
  | r => r
/-- an expression's answer on the way to a statement's -/
def R.toS {α : Type} (r : R α) (δ : Sl) (k : α → Mu → RS) : RS := match r with
  | .ok a μ => k a μ
  | .ex c p μ => .ex c p δ μ
  | .bad => .bad

/-! ## the relation -/
structure Gd where
  K : PySem.W.Frag
  mg : Str → Option Value
structure Wd where
  H : Hp
  m : Nat → Addr
  N : Nat
def Wd.off (w : Wd) (a : Addr) : Prop := ∀ n, n < w.N → w.m n ≠ a
mutual
def Rel (G : Gd) (w : Wd) : PyData → V → Prop
  | .none, v => v = .non
  | .bool b, v => v = .bl b
  | .int i, v => v = .int i
  | .str x, v => v = .str x ∧ x.length ≤ sizeLine
  | .list xs, v => ∃ a vs, v = .ref a ∧ w.H a = some (.lst vs) ∧ w.off a ∧ xs.length ≤ sizeLine ∧ RelL G w xs vs
  | .tuple xs, v => ∃ a vs, v = .ref a ∧ SqT G.K w.H a vs ∧ xs.length ≤ sizeLine ∧ RelL G w xs vs
  | .dict _, _ => False
def RelL (G : Gd) (w : Wd) : List PyData → List V → Prop
  | [], vs => vs = []
  | x :: xs, vs => ∃ v r, vs = v :: r ∧ Rel G w x v ∧ RelL G w xs r
end
/-- named data -/
def RelF (G : Gd) (w : Wd) : List (Str × PyData) → List (Str × V) → Prop
  | [], vs => vs = []
  | (n, x) :: xs, vs => ∃ v r, vs = (n, v) :: r ∧ Rel G w x v ∧ RelF G w xs r
def Holds (G : Gd) (w : Wd) : O → HO → Prop
  | .l xs, .lst vs => xs.length ≤ sizeLine ∧ RelL G w xs vs
  | .ins c fs, .ins C _ vfs => G.mg c = some (.ref C) ∧ RelF G w fs vfs
  | _, _ => False
structure Live (G : Gd) (w : Wd) (μ : Mu) : Prop where
  len : μ.length = w.N
  inj : ∀ i j, i < w.N → j < w.N → w.m i = w.m j → i = j
  at_ : ∀ i o, μ[i]? = some o → ∃ ho, w.H (w.m i) = some ho ∧ Holds G w o ho
/-- what grows: the live ones keep their places, all else that is tracked stays -/
structure Ext (w w' : Wd) : Prop where
  le : w.N ≤ w'.N
  ms : ∀ n, n < w.N → w'.m n = w.m n
  keep : ∀ a o, w.H a = some o → w.off a → w'.H a = some o ∧ w'.off a
def XRel (G : Gd) (w : Wd) : Option (List (Str × PyData)) → Option Addr → Prop
  | none, none => True
  | some fs, some a => ∃ vfs, w.H a = some (.xd vfs) ∧ RelF G w fs vfs
  | _, _ => False
mutual
def RelD (G : Gd) (w : Wd) : D → V → Prop
  | .t x, v => Rel G w x v
  | .lst n, v => n < w.N ∧ v = .ref (w.m n)
  | .fz xs, v => ∃ a vs, v = .ref a ∧ ((∃ o, w.H a = some (.frz o (.lst vs))) ∨ ∀ H, SqL G.K H a vs) ∧ xs.length ≤ sizeLine ∧ RelL G w xs vs
  | .tupR xs, v => ∃ a vs, v = .ref a ∧ SqT G.K w.H a vs ∧ xs.length ≤ sizeLine ∧ RelDL G w xs vs
  | .ref a, v => v = .ref a
  | .ty n, v => v = .ty n
  | .glo x, v => ∃ a, G.mg x = some (.ref a) ∧ v = .ref a
def RelDL (G : Gd) (w : Wd) : List D → List V → Prop
  | [], vs => vs = []
  | x :: xs, vs => ∃ v r, vs = v :: r ∧ RelD G w x v ∧ RelDL G w xs r
end
def Slots (G : Gd) (w : Wd) (δ : Sl) (σ : L2.St) : Prop := δ.length = σ.length ∧ ∀ (i : Nat) (d : D), δ[i]? = some (some d) → ∃ v : V, σ[i]? = some (some v) ∧ RelD G w d v

theorem Ext.refl (w : Wd) : Ext w w := ⟨Nat.le_refl _, fun _ _ => rfl, fun _ _ e o => ⟨e, o⟩⟩
theorem Ext.trans {a b c : Wd} (x : Ext a b) (y : Ext b c) : Ext a c :=
  ⟨Nat.le_trans x.le y.le, fun n h => (y.ms n (Nat.lt_of_lt_of_le h x.le)).trans (x.ms n h), fun q o e f => (fun z => y.keep q o z.1 z.2) (x.keep q o e f)⟩

section
variable {G : Gd} {w w' : Wd} {μ : Mu}
theorem Live.get (L : Live G w μ) {n : Nat} (h : n < w.N) : ∃ ho, w.H (w.m n) = some ho ∧ ∃ o, μ[n]? = some o ∧ Holds G w o ho := by
  have q : n < μ.length := by rw [L.len]; exact h
  obtain ⟨ho, e, r⟩ := L.at_ n μ[n] (List.getElem?_eq_getElem q)
  exact ⟨ho, e, _, List.getElem?_eq_getElem q, r⟩
/-- what is a tuple, or locked, is not live -/
theorem Live.off_of (L : Live G w μ) {a : Addr} {u : HO} (h : w.H a = some u) (k : ∀ o : O, ¬ Holds G w o u) : w.off a := fun n hn e => by
  obtain ⟨ho, q, o, _, r⟩ := L.get hn
  rw [e, h] at q
  cases q
  exact k o r
theorem Live.off_new (L : Live G w μ) {a : Addr} (h : w.H a = none) : w.off a := fun n hn e => by
  obtain ⟨ho, q, _⟩ := L.get hn
  rw [e, h] at q
  cases q
theorem SqT.ext (L : Live G w μ) (E : Ext w w') {a : Addr} {vs : List V} (h : SqT G.K w.H a vs) : SqT G.K w'.H a vs := by
  rcases h with (h | ⟨o, h⟩) | h
  · exact .inl (.inl (E.keep _ _ h (L.off_of h (by intro o; cases o <;> exact id))).1)
  · exact .inl (.inr ⟨o, (E.keep _ _ h (L.off_of h (by intro o; cases o <;> exact id))).1⟩)
  · exact .inr h
mutual
theorem Rel.ext (L : Live G w μ) (E : Ext w w') : ∀ (d : PyData) (v : V), Rel G w d v → Rel G w' d v
  | .none, _, h => by simpa [Rel] using h
  | .bool _, _, h => by simpa [Rel] using h
  | .int _, _, h => by simpa [Rel] using h
  | .str _, _, h => by simpa [Rel] using h
  | .dict _, _, h => by simp [Rel] at h
  | .list xs, v, h => by
    rw [Rel] at h ⊢
    obtain ⟨a, vs, e, r, f, z, l⟩ := h
    exact ⟨a, vs, e, (E.keep _ _ r f).1, (E.keep _ _ r f).2, z, RelL.ext L E xs vs l⟩
  | .tuple xs, v, h => by
    rw [Rel] at h ⊢
    obtain ⟨a, vs, e, r, z, l⟩ := h
    exact ⟨a, vs, e, SqT.ext L E r, z, RelL.ext L E xs vs l⟩
theorem RelL.ext (L : Live G w μ) (E : Ext w w') : ∀ (ds : List PyData) (vs : List V), RelL G w ds vs → RelL G w' ds vs
  | [], _, h => by simpa [RelL] using h
  | d :: ds, vs, h => by
    rw [RelL] at h ⊢
    obtain ⟨v, r, e, h1, h2⟩ := h
    exact ⟨v, r, e, Rel.ext L E d v h1, RelL.ext L E ds r h2⟩
end
theorem RelF.ext (L : Live G w μ) (E : Ext w w') : ∀ (ds : List (Str × PyData)) (vs : List (Str × V)), RelF G w ds vs → RelF G w' ds vs
  | [], _, h => by simpa [RelF] using h
  | (n, d) :: ds, vs, h => by
    rw [RelF] at h ⊢
    obtain ⟨v, r, e, h1, h2⟩ := h
    exact ⟨v, r, e, Rel.ext L E d v h1, RelF.ext L E ds r h2⟩
theorem Holds.ext (L : Live G w μ) (E : Ext w w') {o : O} {ho : HO} (h : Holds G w o ho) : Holds G w' o ho := by
  cases o with
  | l xs =>
    cases ho with
    | lst vs => exact ⟨h.1, RelL.ext L E xs vs h.2⟩
    | _ => exact h.elim
  | ins c fs =>
    cases ho with
    | ins C dx vfs => exact ⟨h.1, RelF.ext L E fs vfs h.2⟩
    | _ => exact h.elim
mutual
theorem RelD.ext (L : Live G w μ) (E : Ext w w') : ∀ (d : D) (v : V), RelD G w d v → RelD G w' d v
  | .t x, v, h => by rw [RelD] at h ⊢; exact Rel.ext L E x v h
  | .lst n, v, h => by
    rw [RelD] at h ⊢
    exact ⟨Nat.lt_of_lt_of_le h.1 E.le, by rw [E.ms n h.1]; exact h.2⟩
  | .fz xs, v, h => by
    rw [RelD] at h ⊢
    obtain ⟨a, vs, e, r, z, l⟩ := h
    refine ⟨a, vs, e, ?_, z, RelL.ext L E xs vs l⟩
    rcases r with ⟨o, r⟩ | r
    · exact .inl ⟨o, (E.keep _ _ r (L.off_of r (by intro o; cases o <;> exact id))).1⟩
    · exact .inr r
  | .tupR xs, v, h => by
    rw [RelD] at h ⊢
    obtain ⟨a, vs, e, r, z, l⟩ := h
    exact ⟨a, vs, e, SqT.ext L E r, z, RelDL.ext L E xs vs l⟩
  | .ref _, _, h => by simpa [RelD] using h
  | .ty _, _, h => by simpa [RelD] using h
  | .glo _, _, h => by simpa [RelD] using h
theorem RelDL.ext (L : Live G w μ) (E : Ext w w') : ∀ (ds : List D) (vs : List V), RelDL G w ds vs → RelDL G w' ds vs
  | [], _, h => by simpa [RelDL] using h
  | d :: ds, vs, h => by
    rw [RelDL] at h ⊢
    obtain ⟨v, r, e, h1, h2⟩ := h
    exact ⟨v, r, e, RelD.ext L E d v h1, RelDL.ext L E ds r h2⟩
end
theorem Slots.ext (L : Live G w μ) (E : Ext w w') {δ : Sl} {σ : L2.St} (S : Slots G w δ σ) : Slots G w' δ σ :=
  ⟨S.1, fun i d e => (fun ⟨v, h1, h2⟩ => ⟨v, h1, RelD.ext L E d v h2⟩) (S.2 i d e)⟩
/-- a new object that is no live one -/
def Wd.put (w : Wd) (a : Addr) (o : HO) : Wd := ⟨upd w.H a o, w.m, w.N⟩
theorem Ext.new (L : Live G w μ) {a : Addr} {o : HO} (h : w.H a = none) : Ext w (w.put a o) :=
  ⟨Nat.le_refl _, fun _ _ => rfl, fun b u e f => ⟨by show upd w.H a o b = some u; rw [upd_ne (ne_of_none e h)]; exact e, f⟩⟩
theorem Live.new (L : Live G w μ) {a : Addr} {o : HO} (h : w.H a = none) : Live G (w.put a o) μ :=
  ⟨L.len, L.inj, fun i q e => (fun ⟨ho, z, r⟩ => ⟨ho, by show upd w.H a o (w.m i) = some ho; rw [upd_ne (ne_of_none z h)]; exact z, Holds.ext L (Ext.new L h) r⟩) (L.at_ i q e)⟩
/-- a new live object -/
def Wd.add (w : Wd) (a : Addr) (o : HO) : Wd := ⟨upd w.H a o, fun n => if n = w.N then a else w.m n, w.N + 1⟩
theorem Wd.add_at (w : Wd) (a : Addr) (o : HO) : (w.add a o).m w.N = a := if_pos rfl
theorem Wd.add_lt (w : Wd) (a : Addr) (o : HO) {n : Nat} (h : n < w.N) : (w.add a o).m n = w.m n := if_neg (Nat.ne_of_lt h)
theorem Ext.add (L : Live G w μ) {a : Addr} {o : HO} (h : w.H a = none) : Ext w (w.add a o) := by
  refine ⟨Nat.le_succ _, fun n q => Wd.add_lt w a o q, fun b u e f => ⟨by show upd w.H a o b = some u; rw [upd_ne (ne_of_none e h)]; exact e, fun n hn => ?_⟩⟩
  by_cases q : n = w.N
  · rw [q, Wd.add_at]
    exact fun z => by rw [z] at h; rw [h] at e; cases e
  · have q2 : n < w.N := by have : n < w.N + 1 := hn; omega
    rw [Wd.add_lt w a o q2]
    exact f n q2
theorem Live.add (L : Live G w μ) {a : Addr} {q : O} {o : HO} (h : w.H a = none) (r : Holds G w q o) : Live G (w.add a o) (μ ++ [q]) := by
  have E := Ext.add (a := a) (o := o) L h
  refine ⟨by rw [List.length_append, L.len]; rfl, fun i j hi hj e => ?_, fun i u e => ?_⟩
  · have hi : i < w.N + 1 := hi
    have hj : j < w.N + 1 := hj
    have nn : ∀ k, k < w.N → w.m k ≠ a := L.off_new h
    by_cases p : i = w.N
    · by_cases p2 : j = w.N
      · rw [p, p2]
      · have : j < w.N := by omega
        rw [p, Wd.add_at, Wd.add_lt w a o this] at e
        exact absurd e.symm (nn j this)
    · have q1 : i < w.N := by omega
      by_cases p2 : j = w.N
      · rw [p2, Wd.add_at, Wd.add_lt w a o q1] at e
        exact absurd e (nn i q1)
      · have q2 : j < w.N := by omega
        rw [Wd.add_lt w a o q1, Wd.add_lt w a o q2] at e
        exact L.inj i j q1 q2 e
  · by_cases p : i < w.N
    · rw [List.getElem?_append_left (by rw [L.len]; exact p)] at e
      obtain ⟨ho, z, r'⟩ := L.at_ i u e
      refine ⟨ho, ?_, Holds.ext L E r'⟩
      rw [Wd.add_lt w a o p]
      show upd w.H a o (w.m i) = some ho
      rw [upd_ne (ne_of_none z h)]
      exact z
    · rw [List.getElem?_append_right (by rw [L.len]; omega), L.len] at e
      have p2 : i = w.N := by
        have := (List.getElem?_eq_some_iff.mp e).1
        simp at this
        omega
      subst p2
      simp at e
      subst e
      refine ⟨o, ?_, Holds.ext L E r⟩
      rw [Wd.add_at]
      exact upd_same
/-- the live object at n is changed -/
theorem Ext.set (L : Live G w μ) {n : Nat} (o : HO) (h : n < w.N) : Ext w ⟨upd w.H (w.m n) o, w.m, w.N⟩ :=
  ⟨Nat.le_refl _, fun _ _ => rfl, fun b u e f => ⟨by show upd w.H (w.m n) o b = some u; rw [upd_ne (fun z => f n h z.symm)]; exact e, f⟩⟩
theorem Live.set (L : Live G w μ) {n : Nat} {q : O} {o : HO} (h : n < w.N) (r : Holds G w q o) : Live G ⟨upd w.H (w.m n) o, w.m, w.N⟩ (μ.set n q) := by
  have E := Ext.set (o := o) L h
  refine ⟨by rw [List.length_set]; exact L.len, L.inj, fun i u e => ?_⟩
  by_cases p : n = i
  · subst p
    rw [List.getElem?_set_self (by rw [L.len]; exact h)] at e
    cases e
    exact ⟨o, upd_same, Holds.ext L E r⟩
  · rw [List.getElem?_set_ne p] at e
    obtain ⟨ho, z, r'⟩ := L.at_ i u e
    have hi : i < w.N := by have := (List.getElem?_eq_some_iff.mp e).1; rw [L.len] at this; exact this
    refine ⟨ho, ?_, Holds.ext L E r'⟩
    show upd w.H (w.m n) o (w.m i) = some ho
    rw [upd_ne fun z => p (L.inj n i h hi z.symm)]
    exact z
/-- the last live objects are let go (what they hold stays, never changed again) -/
def Wd.cut (w : Wd) (n : Nat) : Wd := ⟨w.H, w.m, n⟩
mutual
theorem Rel.re (hH : w'.H = w.H) (ho : ∀ a, w.off a → w'.off a) : ∀ (d : PyData) (v : V), Rel G w d v → Rel G w' d v
  | .none, _, h => by simpa [Rel] using h
  | .bool _, _, h => by simpa [Rel] using h
  | .int _, _, h => by simpa [Rel] using h
  | .str _, _, h => by simpa [Rel] using h
  | .dict _, _, h => by simp [Rel] at h
  | .list xs, v, q => by
    rw [Rel] at q ⊢
    obtain ⟨a, vs, e, r, f, z, l⟩ := q
    exact ⟨a, vs, e, by rw [hH]; exact r, ho a f, z, RelL.re hH ho xs vs l⟩
  | .tuple xs, v, q => by
    rw [Rel] at q ⊢
    obtain ⟨a, vs, e, r, z, l⟩ := q
    exact ⟨a, vs, e, by rw [hH]; exact r, z, RelL.re hH ho xs vs l⟩
theorem RelL.re (hH : w'.H = w.H) (ho : ∀ a, w.off a → w'.off a) : ∀ (ds : List PyData) (vs : List V), RelL G w ds vs → RelL G w' ds vs
  | [], _, h => by simpa [RelL] using h
  | d :: ds, vs, q => by
    rw [RelL] at q ⊢
    obtain ⟨v, r, e, h1, h2⟩ := q
    exact ⟨v, r, e, Rel.re hH ho d v h1, RelL.re hH ho ds r h2⟩
end
theorem RelF.re (hH : w'.H = w.H) (ho : ∀ a, w.off a → w'.off a) : ∀ (ds : List (Str × PyData)) (vs : List (Str × V)), RelF G w ds vs → RelF G w' ds vs
  | [], _, h => by simpa [RelF] using h
  | (_, d) :: ds, vs, q => by
    rw [RelF] at q ⊢
    obtain ⟨v, r, e, h1, h2⟩ := q
    exact ⟨v, r, e, Rel.re hH ho d v h1, RelF.re hH ho ds r h2⟩
theorem Holds.re (hH : w'.H = w.H) (ho : ∀ a, w.off a → w'.off a) {o : O} {u : HO} (r : Holds G w o u) : Holds G w' o u := by
  cases o with
  | l xs =>
    cases u with
    | lst vs => exact ⟨r.1, RelL.re hH ho xs vs r.2⟩
    | _ => exact r.elim
  | ins c fs =>
    cases u with
    | ins C dx vfs => exact ⟨r.1, RelF.re hH ho fs vfs r.2⟩
    | _ => exact r.elim
theorem Wd.cut_off {n : Nat} (h : n ≤ w.N) : ∀ a, w.off a → (w.cut n).off a := fun a f k hk => f k (Nat.lt_of_lt_of_le hk h)
theorem Rel.cut {n : Nat} (h : n ≤ w.N) (d : PyData) (v : V) (r : Rel G w d v) : Rel G (w.cut n) d v := Rel.re (w := w) (w' := w.cut n) rfl (Wd.cut_off h) d v r
theorem RelL.cut {n : Nat} (h : n ≤ w.N) (d : List PyData) (v : List V) (r : RelL G w d v) : RelL G (w.cut n) d v := RelL.re (w := w) (w' := w.cut n) rfl (Wd.cut_off h) d v r
theorem RelF.cut {n : Nat} (h : n ≤ w.N) (d : List (Str × PyData)) (v : List (Str × V)) (r : RelF G w d v) : RelF G (w.cut n) d v := RelF.re (w := w) (w' := w.cut n) rfl (Wd.cut_off h) d v r
theorem Live.cut (L : Live G w μ) {n : Nat} (h : n ≤ w.N) : Live G (w.cut n) (μ.take n) := by
  refine ⟨by rw [List.length_take, L.len]; exact Nat.min_eq_left h, fun i j hi hj e => L.inj i j (Nat.lt_of_lt_of_le hi h) (Nat.lt_of_lt_of_le hj h) e, fun i u e => ?_⟩
  rw [List.getElem?_take] at e
  split at e
  · obtain ⟨ho, z, r⟩ := L.at_ i u e
    exact ⟨ho, z, Holds.re (w := w) (w' := w.cut n) rfl (Wd.cut_off h) r⟩
  · cases e
theorem Ext.cut {w₀ : Wd} (E : Ext w₀ w) {n : Nat} (h0 : w₀.N ≤ n) (h : n ≤ w.N) : Ext w₀ (w.cut n) :=
  ⟨h0, fun k hk => E.ms k hk, fun a o e f => ⟨(E.keep a o e f).1, fun k hk => (E.keep a o e f).2 k (Nat.lt_of_lt_of_le hk h)⟩⟩
end
end TV

/-! TV, second part: readings of expressions over trees. -/
namespace TV
open PySem PySem.Spec PyProof.Rows L2

/-! ## what is wanted of an answer -/
section
variable {α β γ ε : Type} {G : Gd} {W : WX} {σ : L2.St} {rel : Wd → α → β → Prop} {rel2 : Wd → γ → ε → Prop} {w w' : Wd} {μ : Mu}
def Pst (G : Gd) (W : WX) (σ : L2.St) (rel : Wd → α → β → Prop) (Q : β → Hp → Prop) (w : Wd) : R α → Prop
  | .ok x μ' => ∀ v w', Ext w w' → Live G w' μ' → rel w' x v → Q v w'.H
  | .ex c p μ' => ∀ C d w', G.mg c = some (.ref C) → Ext w w' → Live G w' μ' → XRel G w' p d → W (.ref C) d σ w'.H
  | .bad => False
theorem Pst.ext {Q : β → Hp → Prop} {r : R α} (E : Ext w w') (h : Pst G W σ rel Q w r) : Pst G W σ rel Q w' r := by
  cases r with
  | ok x μ' => exact fun v w2 E2 L2 r2 => h v w2 (E.trans E2) L2 r2
  | ex c p μ' => exact fun C d w2 g E2 L2 r2 => h C d w2 g (E.trans E2) L2 r2
  | bad => exact h
theorem Pst.bind {Q : ε → Hp → Prop} {P : β → Hp → Prop} {r : R α} {k : α → Mu → R γ} (h : Pst G W σ rel2 Q w (r.bind k))
    (hk : ∀ x v w' μ', Ext w w' → Live G w' μ' → rel w' x v → Pst G W σ rel2 Q w' (k x μ') → P v w'.H) : Pst G W σ rel P w r := by
  cases r with
  | ok x μ' => exact fun v w2 E2 L2 r2 => hk x v w2 μ' E2 L2 r2 (Pst.ext E2 h)
  | ex c p μ' => exact h
  | bad => exact h
def lift (G : Gd) (W : WX) (rel : Wd → α → β → Prop) (d : Sl → Mu → R α) : L2.St → Hp → (β → Hp → Prop) → Prop :=
  fun σ H Q => ∃ w δ μ, w.H = H ∧ Live G w μ ∧ Slots G w δ σ ∧ Pst G W σ rel Q w (d δ μ)
end
theorem _root_.L2.PE.imp {X : Cx} {e : Expr} {t t' : TE} (h : PE X e t) (f : ∀ σ H Q, t' σ H Q → t σ H Q) : PE X e t' := ⟨fun pins s σ H Q I q => h.run pins s σ H Q I (f _ _ _ q)⟩
theorem _root_.L2.PT.imp {X : Cx} {e : Expr} {t t' : TT} (h : PT X e t) (f : ∀ σ H Q, t' σ H Q → t σ H Q) : PT X e t' := ⟨fun pins s σ H Q I q => h.run pins s σ H Q I (f _ _ _ q)⟩
theorem _root_.L2.PW.imp {X : Cx} {e : Expr} {t t' : TT} (h : PW X e t) (f : ∀ σ H Q, t' σ H Q → t σ H Q) : PW X e t' := ⟨fun wh pins s σ H Q I q => h.run wh pins s σ H Q I (f _ _ _ q)⟩
theorem _root_.L2.PA.imp {X : Cx} {e : List Expr} {t t' : TA} (h : PA X e t) (f : ∀ σ H Q, t' σ H Q → t σ H Q) : PA X e t' := ⟨fun ps pins s σ H Q I q => h.run ps pins s σ H Q I (f _ _ _ q)⟩
theorem _root_.L2.PO.imp {X : Cx} {e : Option Expr} {t t' : TO} (h : PO X e t) (f : ∀ σ H Q, t' σ H Q → t σ H Q) : PO X e t' := ⟨fun pins s σ H Q I q => h.run pins s σ H Q I (f _ _ _ q)⟩

def gx (X : Cx) : Gd := ⟨X.K, X.mg⟩
abbrev LE (X : Cx) (W : WX) (e : Expr) (d : DE) : Prop := PE X e (lift (gx X) W (RelD (gx X)) d)
abbrev DT := Sl → Mu → R Bool
abbrev DA := Sl → Mu → R (List D)
abbrev DO := Sl → Mu → R (Option Int)
abbrev sameR {α : Type} : Wd → α → α → Prop := fun _ b c => c = b
abbrev LT (X : Cx) (W : WX) (e : Expr) (d : DT) : Prop := PT X e (lift (gx X) W sameR d)
abbrev LW (X : Cx) (W : WX) (e : Expr) (d : DT) : Prop := PW X e (lift (gx X) W sameR d)
abbrev LA (X : Cx) (W : WX) (es : List Expr) (d : DA) : Prop := PA X es (lift (gx X) W (RelDL (gx X)) d)
abbrev LO (X : Cx) (W : WX) (e : Option Expr) (d : DO) : Prop := PO X e (lift (gx X) W sameR d)

/-! ## reading data off values -/
def rd (μ : Mu) : D → Option PyData
  | .t x => some x
  | .fz xs => some (.list xs)
  | .lst n => match μ[n]? with
    | some (.l xs) => some (.list xs)
    | _ => none
  | _ => none
/-- as it stands now -/
def Now (G : Gd) (w : Wd) : PyData → V → Prop
  | .list xs, v => ∃ a vs, v = .ref a ∧ SqL G.K w.H a vs ∧ xs.length ≤ sizeLine ∧ RelL G w xs vs
  | d, v => Rel G w d v
section
variable {G : Gd} {w w' : Wd} {μ : Mu}
theorem Now.of_rel : ∀ {d : PyData} {v : V}, Rel G w d v → Now G w d v
  | .list xs, v, h => by
    rw [Rel] at h
    obtain ⟨a, vs, e, r, _, z, l⟩ := h
    exact ⟨a, vs, e, .inl (.inl r), z, l⟩
  | .none, _, h => h
  | .bool _, _, h => h
  | .int _, _, h => h
  | .str _, _, h => h
  | .tuple _, _, h => h
  | .dict _, _, h => h
theorem now_of (L : Live G w μ) {x : D} {p : PyData} {v : V} (h : rd μ x = some p) (r : RelD G w x v) : Now G w p v := by
  cases x with
  | t y =>
    rw [RelD] at r
    cases h
    exact Now.of_rel r
  | fz xs =>
    rw [RelD] at r
    cases h
    obtain ⟨a, vs, e, q, z, l⟩ := r
    refine ⟨a, vs, e, ?_, z, l⟩
    rcases q with ⟨o, q⟩ | q
    · exact .inl (.inr ⟨o, q⟩)
    · exact q w.H
  | lst n =>
    rw [RelD] at r
    simp only [rd] at h
    split at h
    · rename_i xs e
      cases h
      obtain ⟨ho, z, hh⟩ := L.at_ _ _ e
      cases ho with
      | lst vs => exact ⟨_, vs, r.2, .inl (.inl z), hh.1, hh.2⟩
      | _ => exact hh.elim
    · cases h
  | tupR xs => cases h
  | ref a => cases h
  | ty n => cases h
  | glo x => cases h
theorem RelL.length : ∀ {ds : List PyData} {vs : List V}, RelL G w ds vs → ds.length = vs.length
  | [], _, h => by rw [RelL] at h; subst h; rfl
  | d :: ds, vs, h => by
    rw [RelL] at h
    obtain ⟨v, r, rfl, _, h2⟩ := h
    rw [List.length_cons, List.length_cons, RelL.length h2]
theorem RelL.get : ∀ {ds : List PyData} {vs : List V} {i : Nat} {d : PyData}, RelL G w ds vs → ds[i]? = some d → ∃ v, vs[i]? = some v ∧ Rel G w d v
  | [], _, _, _, _, e => by simp at e
  | d :: ds, vs, i, x, h, e => by
    rw [RelL] at h
    obtain ⟨v, r, rfl, h1, h2⟩ := h
    cases i with
    | zero => simp at e; subst e; exact ⟨v, rfl, h1⟩
    | succ i =>
      obtain ⟨u, q, z⟩ := RelL.get (i := i) h2 (by simpa using e)
      exact ⟨u, by simpa using q, z⟩
theorem RelL.append : ∀ {ds es : List PyData} {vs us : List V}, RelL G w ds vs → RelL G w es us → RelL G w (ds ++ es) (vs ++ us)
  | [], _, _, _, h, k => by rw [RelL] at h; subst h; exact k
  | d :: ds, es, vs, us, h, k => by
    rw [RelL] at h
    obtain ⟨v, r, rfl, h1, h2⟩ := h
    show RelL G w (d :: (ds ++ es)) (v :: (r ++ us))
    rw [RelL]
    exact ⟨v, _, rfl, h1, RelL.append h2 k⟩
theorem RelL.one {d : PyData} {v : V} (h : Rel G w d v) : RelL G w [d] [v] := by
  rw [RelL]
  exact ⟨v, [], rfl, h, by rw [RelL]⟩
theorem RelL.nil : RelL G w [] [] := by rw [RelL]
theorem RelL.cons {d : PyData} {v : V} {ds : List PyData} {vs : List V} (h : Rel G w d v) (k : RelL G w ds vs) : RelL G w (d :: ds) (v :: vs) := by
  rw [RelL]
  exact ⟨v, vs, rfl, h, k⟩
theorem RelL.take : ∀ {ds : List PyData} {vs : List V} (n : Nat), RelL G w ds vs → RelL G w (ds.take n) (vs.take n)
  | ds, vs, 0, h => by simpa using RelL.nil
  | [], _, n + 1, h => by rw [RelL] at h; subst h; simpa using RelL.nil
  | d :: ds, vs, n + 1, h => by
    rw [RelL] at h
    obtain ⟨v, r, rfl, h1, h2⟩ := h
    simpa using RelL.cons h1 (RelL.take n h2)
theorem RelL.drop : ∀ {ds : List PyData} {vs : List V} (n : Nat), RelL G w ds vs → RelL G w (ds.drop n) (vs.drop n)
  | ds, vs, 0, h => by simpa using h
  | [], _, n + 1, h => by rw [RelL] at h; subst h; simpa using RelL.nil
  | d :: ds, vs, n + 1, h => by
    rw [RelL] at h
    obtain ⟨v, r, rfl, h1, h2⟩ := h
    simpa using RelL.drop n h2
theorem RelL.reverse : ∀ {ds : List PyData} {vs : List V}, RelL G w ds vs → RelL G w ds.reverse vs.reverse
  | [], _, h => by rw [RelL] at h; subst h; exact RelL.nil
  | d :: ds, vs, h => by
    rw [RelL] at h
    obtain ⟨v, r, rfl, h1, h2⟩ := h
    simpa using RelL.append (RelL.reverse h2) (RelL.one h1)
theorem RelL.set {d : PyData} {v : V} (h : Rel G w d v) : ∀ {ds : List PyData} {vs : List V} (i : Nat), RelL G w ds vs → RelL G w (ds.set i d) (vs.set i v)
  | [], _, _, k => by rw [RelL] at k; subst k; exact RelL.nil
  | d' :: ds, vs, i, k => by
    rw [RelL] at k
    obtain ⟨v', r, rfl, h1, h2⟩ := k
    cases i with
    | zero => exact RelL.cons h h2
    | succ i => exact RelL.cons h1 (RelL.set h i h2)
theorem RelL.eraseIdx : ∀ {ds : List PyData} {vs : List V} (i : Nat), RelL G w ds vs → RelL G w (ds.eraseIdx i) (vs.eraseIdx i)
  | [], _, _, k => by rw [RelL] at k; subst k; exact RelL.nil
  | d' :: ds, vs, i, k => by
    rw [RelL] at k
    obtain ⟨v', r, rfl, h1, h2⟩ := k
    cases i with
    | zero => exact h2
    | succ i => exact RelL.cons h1 (RelL.eraseIdx i h2)
theorem RelL.rep {ds : List PyData} {vs : List V} (h : RelL G w ds vs) : ∀ k : Nat, RelL G w (List.replicate k ds).flatten (List.replicate k vs).flatten
  | 0 => RelL.nil
  | k + 1 => by
    rw [List.replicate_succ, List.flatten_cons, List.replicate_succ, List.flatten_cons]
    exact RelL.append h (RelL.rep h k)
theorem RelL.eq_nil {ds : List PyData} {vs : List V} (h : RelL G w ds vs) : ds = [] ↔ vs = [] := by
  have := h.length
  constructor <;> intro e <;> subst e <;> simp at this <;> assumption
/-! ### for the library's readings of data -/
mutual
theorem Rel.dp : ∀ (d : PyData) (v : V), Rel G w d v → Dp G.K w.H v d
  | .none, _, h => by rw [Rel] at h; subst h; exact .non
  | .bool _, _, h => by rw [Rel] at h; subst h; exact .bl _
  | .int _, _, h => by rw [Rel] at h; subst h; exact .int _
  | .str _, _, h => by rw [Rel] at h; rw [h.1]; exact .str _
  | .list xs, _, h => by
    rw [Rel] at h
    obtain ⟨a, vs, rfl, r, _, _, l⟩ := h
    exact .lst (.inl (.inl r)) (RelL.dp xs vs l)
  | .tuple xs, _, h => by
    rw [Rel] at h
    obtain ⟨a, vs, rfl, r, _, l⟩ := h
    exact .tup r (RelL.dp xs vs l)
  | .dict _, _, h => by simp [Rel] at h
theorem RelL.dp : ∀ (ds : List PyData) (vs : List V), RelL G w ds vs → DpAll G.K w.H vs ds
  | [], _, h => by rw [RelL] at h; subst h; exact .nil
  | d :: ds, vs, h => by
    rw [RelL] at h
    obtain ⟨v, r, rfl, h1, h2⟩ := h
    exact .cons (Rel.dp d v h1) (RelL.dp ds r h2)
end
theorem Now.dp : ∀ {d : PyData} {v : V}, Now G w d v → Dp G.K w.H v d
  | .list xs, _, h => by
    obtain ⟨a, vs, rfl, r, _, l⟩ := h
    exact .lst r (RelL.dp xs vs l)
  | .none, _, h => Rel.dp _ _ h
  | .bool _, _, h => Rel.dp _ _ h
  | .int _, _, h => Rel.dp _ _ h
  | .str _, _, h => Rel.dp _ _ h
  | .tuple _, _, h => Rel.dp _ _ h
  | .dict _, _, h => Rel.dp _ _ h
theorem Now.int {i : Int} {v : V} (h : Now G w (.int i) v) : v = .int i := by simpa [Now, Rel] using h
theorem Now.bool {b : Bool} {v : V} (h : Now G w (.bool b) v) : v = .bl b := by simpa [Now, Rel] using h
theorem Now.none {v : V} (h : Now G w .none v) : v = .non := by simpa [Now, Rel] using h
theorem Now.str {x : Str} {v : V} (h : Now G w (.str x) v) : v = .str x ∧ x.length ≤ sizeLine := by simpa [Now, Rel] using h
theorem Now.tup {xs : List PyData} {v : V} (h : Now G w (.tuple xs) v) : ∃ a vs, v = .ref a ∧ SqT G.K w.H a vs ∧ xs.length ≤ sizeLine ∧ RelL G w xs vs := by
  have h : Rel G w (.tuple xs) v := h
  rw [Rel] at h
  exact h
theorem Rel.int (i : Int) : Rel G w (.int i) (.int i) := by rw [Rel]
theorem Rel.bool (i : Bool) : Rel G w (.bool i) (.bl i) := by rw [Rel]
theorem Rel.nil_ : Rel G w .none .non := by rw [Rel]
theorem Rel.str {x : Str} (h : x.length ≤ sizeLine) : Rel G w (.str x) (.str x) := by rw [Rel]; exact ⟨rfl, h⟩
theorem RelD.t {d : PyData} {v : V} (h : Rel G w d v) : RelD G w (.t d) v := by rw [RelD]; exact h
/-- a new tuple -/
theorem Rel.newT (L : Live G w μ) {xs : List PyData} {vs : List V} (h : RelL G w xs vs) (z : xs.length ≤ sizeLine) {a : Addr} (n : w.H a = none) : Rel G (w.put a (.tup vs)) (.tuple xs) (.ref a) := by
  rw [Rel]
  exact ⟨a, vs, rfl, .inl (.inl upd_same), z, RelL.ext L (Ext.new L n) xs vs h⟩
theorem Rel.newF (L : Live G w μ) {xs : List PyData} {vs : List V} (h : RelL G w xs vs) (z : xs.length ≤ sizeLine) {a : Addr} (n : w.H a = none) : Rel G (w.put a (.lst vs)) (.list xs) (.ref a) := by
  rw [Rel]
  exact ⟨a, vs, rfl, upd_same, L.off_new n, z, RelL.ext L (Ext.new L n) xs vs h⟩
end
/-- a new list: live, or never changed -/
def newL (live : Bool) (xs : List PyData) (μ : Mu) : R D := if live then .ok (.lst μ.length) (μ ++ [.l xs]) else .ok (.t (.list xs)) μ
section
variable {G : Gd} {W : WX} {σ : L2.St} {w : Wd} {μ : Mu} {Q : VK}
theorem newL_ok {live : Bool} {xs : List PyData} {vs : List V} (h : Pst G W σ (RelD G) Q w (newL live xs μ)) (L : Live G w μ) (r : RelL G w xs vs) (z : xs.length ≤ sizeLine) {p : Addr} (n : w.H p = none) : Q (.ref p) (upd w.H p (.lst vs)) := by
  cases live with
  | true =>
    refine h (.ref p) (w.add p (.lst vs)) (Ext.add L n) (Live.add L n ⟨z, r⟩) ?_
    rw [RelD]
    refine ⟨by rw [L.len]; exact Nat.lt_succ_self _, ?_⟩
    rw [L.len, Wd.add_at]
  | false => exact h (.ref p) (w.put p (.lst vs)) (Ext.new L n) (Live.new L n) (RelD.t (Rel.newF L r z n))
theorem newT_ok {xs : List PyData} {vs : List V} (h : Pst G W σ (RelD G) Q w (.ok (.t (.tuple xs)) μ)) (L : Live G w μ) (r : RelL G w xs vs) (z : xs.length ≤ sizeLine) {p : Addr} (n : w.H p = none) : Q (.ref p) (upd w.H p (.tup vs)) :=
  h (.ref p) (w.put p (.tup vs)) (Ext.new L n) (Live.new L n) (RelD.t (Rel.newT L r z n))
/-- the same heap -/
theorem here_ok {α β : Type} {rel : Wd → α → β → Prop} {P : β → Hp → Prop} {x : α} {v : β} (h : Pst G W σ rel P w (.ok x μ)) (L : Live G w μ) (r : rel w x v) : P v w.H := h v w (Ext.refl w) L r
end

/-! ## names and constants -/
def dVar (i : Nat) : DE := fun δ μ => match δ[i]? with
  | some (some d) => .ok d μ
  | _ => .bad
def dC (p : PyData) : DE := fun _ μ => .ok (.t p) μ
section
variable {X : Cx} {W : WX} {pos : Pos}
theorem le_var (i : Nat) {x : Str} (hN : X.N[i]? = some x) (hv : Vis X.env.scope x) (hd : (x == ("__debug__" : Str)) = false := by decide) (hcd : (x == ("__classdict__" : Str)) = false := by decide) : LE X W (.Name x pos) (dVar i) := by
  refine (pe_var hN hv hd hcd).imp fun σ H Q ⟨w, δ, μ, e, L, S, h⟩ => ?_
  subst e
  unfold dVar at h
  split at h
  · rename_i d q
    obtain ⟨v, q2, r⟩ := S.2 i d q
    exact ⟨v, q2, here_ok h L r⟩
  · exact h.elim
theorem le_const {e : Expr} {p : PyData} {v : V} (he : PE X e (tC v)) (r : ∀ w, Rel (gx X) w p v) : LE X W e (dC p) := he.imp fun σ H Q ⟨w, δ, μ, e, L, S, h⟩ => by
  subst e
  exact here_ok h L (RelD.t (r w))
theorem le_int {i : Int} {j : Nat} : LE X W (.Constant (.int i) j pos) (dC (.int i)) := le_const pe_int fun _ => Rel.int i
theorem le_bl {i : Bool} {j : Nat} : LE X W (.Constant (.bool i) j pos) (dC (.bool i)) := le_const pe_bl fun _ => Rel.bool i
theorem le_non {j : Nat} : LE X W (.Constant .none j pos) (dC .none) := le_const pe_non fun _ => Rel.nil_
theorem le_str {x : Str} {j : Nat} (h : x.length ≤ sizeLine := by decide) : LE X W (.Constant (.str x) j pos) (dC (.str x)) := le_const pe_str fun _ => Rel.str h
theorem le_gint {x : Str} {i : Int} (hg : Gl X x) (hm : ∃ t, X.mg x = some (.int i t)) (hd : (x == ("__debug__" : Str)) = false := by decide) : LE X W (.Name x pos) (dC (.int i)) := by
  obtain ⟨t, hm⟩ := hm
  exact le_const (v := .int i) (pe_glob hg hm ⟨t, rfl⟩ hd) fun _ => Rel.int i
theorem le_gstr {x z : Str} (hg : Gl X x) (hm : ∃ t, X.mg x = some (.str z t)) (h : z.length ≤ sizeLine := by decide) (hd : (x == ("__debug__" : Str)) = false := by decide) : LE X W (.Name x pos) (dC (.str z)) := by
  obtain ⟨t, hm⟩ := hm
  exact le_const (v := .str z) (pe_glob hg hm ⟨t, rfl⟩ hd) fun _ => Rel.str h
end

/-! ## operators -/
def ap2 (f : PyData → PyData → Option PyData) (x y : D) (μ : Mu) : R D := match rd μ x, rd μ y with
  | some p, some q => match f p q with
    | some r => .ok (.t r) μ
    | none => .bad
  | _, _ => .bad
def dBin (f : PyData → PyData → Option PyData) (a b : DE) : DE := fun δ μ => (a δ μ).bind fun x μ1 => (b δ μ1).bind fun y μ2 => ap2 f x y μ2
def Op2 (X : Cx) (g : Value → Value → Sem Value) (f : PyData → PyData → Option PyData) : Prop :=
  ∃ r : R2, OpR X g r ∧ ∀ (w : Wd) (μ : Mu) (p q d : PyData) (x y : V) (Q : VK), Live (gx X) w μ → f p q = some d → Now (gx X) w p x → Now (gx X) w q y →
    (∀ v w', Ext w w' → Live (gx X) w' μ → Rel (gx X) w' d v → Q v w'.H) → r x y w.H Q
theorem Op2.or {X : Cx} {g : Value → Value → Sem Value} {f f' : PyData → PyData → Option PyData} (h : Op2 X g f) (h' : Op2 X g f') : Op2 X g (fun p q => match f p q with | some d => some d | none => f' p q) := by
  obtain ⟨r, o, k⟩ := h
  obtain ⟨r', o', k'⟩ := h'
  refine ⟨_, o.or o', fun w μ p q d x y Q L e hp hq hQ => ?_⟩
  dsimp only at e
  cases ef : f p q with
  | some d' =>
    rw [ef] at e
    exact .inl (k w μ p q d x y Q L (ef.trans e) hp hq hQ)
  | none =>
    rw [ef] at e
    exact .inr (k' w μ p q d x y Q L e hp hq hQ)
section
variable {X : Cx} {W : WX} {a b : Expr} {da db : DE} {pos : Pos}
/-- two values one after the other -/
theorem two {γ ε : Type} {rel2 : Wd → γ → ε → Prop} {k : D → D → Mu → R γ} {Q : ε → Hp → Prop} {P : V → V → Hp → Prop} {σ : L2.St} {H : Hp} {G : Gd}
    (h : lift G W rel2 (fun δ μ => (da δ μ).bind fun x μ1 => (db δ μ1).bind fun y μ2 => k x y μ2) σ H Q)
    (hk : ∀ w μ x y v u, Live G w μ → RelD G w x v → RelD G w y u → Pst G W σ rel2 Q w (k x y μ) → P v u w.H) :
    lift G W (RelD G) da σ H fun v H1 => lift G W (RelD G) db σ H1 fun u H2 => P v u H2 := by
  obtain ⟨w, δ, μ, e, L, S, h⟩ := h
  refine ⟨w, δ, μ, e, L, S, Pst.bind h fun x v w1 μ1 E1 L1 r1 h1 => ?_⟩
  refine ⟨w1, δ, μ1, rfl, L1, S.ext L E1, Pst.bind h1 fun y u w2 μ2 E2 L2 r2 h2 => ?_⟩
  exact hk w2 μ2 x y v u L2 (RelD.ext L1 E2 _ _ r1) r2 h2
theorem ap2_ok {g : Value → Value → Sem Value} {f : PyData → PyData → Option PyData} {G : Gd} {σ : L2.St} {w : Wd} {μ : Mu} {x y : D} {v u : V} {Q : VK} (L : Live G w μ) (r1 : RelD G w x v) (r2 : RelD G w y u)
    (h : Pst G W σ (RelD G) Q w (ap2 f x y μ)) : ∃ p q d, f p q = some d ∧ Now G w p v ∧ Now G w q u ∧ ∀ v w', Ext w w' → Live G w' μ → Rel G w' d v → Q v w'.H := by
  unfold ap2 at h
  split at h
  · rename_i p q e1 e2
    split at h
    · rename_i d e3
      exact ⟨p, q, d, e3, now_of L e1 r1, now_of L e2 r2, fun v w' E L' r => h v w' E L' (RelD.t r)⟩
    · exact h.elim
  · exact h.elim
theorem le_bin {op : Operator} {f : PyData → PyData → Option PyData} (h : Op2 X (binaryOp op) f) (ha : LE X W a da) (hb : LE X W b db) : LE X W (.BinOp a op b pos) (dBin f da db) := by
  obtain ⟨r, o, k⟩ := h
  refine (pe_op o ha hb).imp fun σ H Q h => ?_
  exact two h fun w μ x y v u L r1 r2 h2 => (fun ⟨p, q, d, e, n1, n2, hq⟩ => k w μ p q d v u Q L e n1 n2 hq) (ap2_ok (g := binaryOp op) L r1 r2 h2)
end
/-- + of ints, texts, tuples -/
def fAdd : PyData → PyData → Option PyData
  | .int i, .int j => some (.int (i + j))
  | .str x, .str y => if x.length + y.length ≤ sizeLine then some (.str (x ++ y)) else none
  | .tuple xs, .tuple ys => if xs.length + ys.length ≤ sizeLine then some (.tuple (xs ++ ys)) else none
  | _, _ => none
def fSub : PyData → PyData → Option PyData
  | .int i, .int j => some (.int (i - j))
  | _, _ => none
def mulOk (i j : Int) : Bool := decide (i.natAbs.log2 + j.natAbs.log2 < 1000000) || (decide (-(2 ^ 64) < i) && decide (i < 2 ^ 64)) || (decide (-(2 ^ 64) < j) && decide (j < 2 ^ 64))
def fMul : PyData → PyData → Option PyData
  | .int i, .int j => if mulOk i j then some (.int (i * j)) else none
  | .tuple xs, .int k => if !xs.isEmpty && decide (2 ≤ k) && decide (k ≤ 1000) && decide (xs.length ≤ 1000) then some (.tuple (List.replicate k.toNat xs).flatten) else none
  | _, _ => none
def divOk (j : Int) : Bool := (decide (j ≠ 0) && decide (j.natAbs < 1073741824)) || (decide (0 < j) && decide (j.natAbs.log2 < 9000))
def fDiv : PyData → PyData → Option PyData
  | .int i, .int j => if divOk j then some (.int (i.fdiv j)) else none
  | _, _ => none
def fMod : PyData → PyData → Option PyData
  | .int i, .int j => if j = 0 then none else some (.int (i.fmod j))
  | _, _ => none
def fShl : PyData → PyData → Option PyData
  | .int i, .int j => if decide (0 ≤ j) && decide (j ≤ 1000000) && decide (i.natAbs < 2 ^ 64) then some (.int (i * 2 ^ j.toNat)) else none
  | _, _ => none
def fPow : PyData → PyData → Option PyData
  | .int i, .int j => if decide (0 ≤ j) && decide (j ≤ 1000000) && decide (i.natAbs < 2 ^ 64) then some (.int (i ^ j.toNat)) else none
  | _, _ => none
theorem len_rep {α : Type} (xs : List α) : ∀ k : Nat, (List.replicate k xs).flatten.length = k * xs.length
  | 0 => by simp
  | k + 1 => by rw [List.replicate_succ, List.flatten_cons, List.length_append, len_rep xs k, Nat.succ_mul, Nat.add_comm]
section
variable {X : Cx}
theorem o_add : Op2 X (binaryOp .Add) fAdd := by
  refine ⟨_, op_add.or (op_add_str.or op_catA), fun w μ p q d x y Q L e hp hq hQ => ?_⟩
  unfold fAdd at e
  split at e
  · cases e
    exact .inl ⟨_, _, hp.int, hq.int, hQ _ w (Ext.refl w) L (Rel.int _)⟩
  · split at e
    · rename_i hz
      cases e
      exact .inr (.inl ⟨_, _, hp.str.1, hq.str.1, hz, hQ _ w (Ext.refl w) L (Rel.str (by first | exact hz | (rw [show ∀ a b : Str, (a ++ b).length = a.length + b.length from fun a b => by first | exact PySem.Str.length_append a b | simp]; exact hz)))⟩)
    · cases e
  · split at e
    · rename_i hz
      cases e
      obtain ⟨a, vs, rfl, s1, z1, l1⟩ := hp.tup
      obtain ⟨b, us, rfl, s2, z2, l2⟩ := hq.tup
      refine .inr (.inr ⟨a, b, vs, us, rfl, rfl, s1, s2, by rw [← l1.length, ← l2.length]; exact hz, fun e0 => ?_, fun _ e0 => ?_, fun _ _ n hn => ?_⟩)
      · have q := l1.eq_nil.mpr e0
        subst q
        exact hQ _ w (Ext.refl w) L (by rw [List.nil_append, Rel]; exact ⟨b, us, rfl, s2, z2, l2⟩)
      · have q := l2.eq_nil.mpr e0
        subst q
        exact hQ _ w (Ext.refl w) L (by rw [List.append_nil, Rel]; exact ⟨a, vs, rfl, s1, z1, l1⟩)
      · exact hQ _ (w.put n (.tup (vs ++ us))) (Ext.new L hn) (Live.new L hn) (Rel.newT L (l1.append l2) (by rw [List.length_append]; exact hz) hn)
    · cases e
  · cases e
theorem o_sub : Op2 X (binaryOp .Sub) fSub := by
  refine ⟨_, op_sub, fun w μ p q d x y Q L e hp hq hQ => ?_⟩
  unfold fSub at e
  split at e
  · cases e
    exact ⟨_, _, hp.int, hq.int, hQ _ w (Ext.refl w) L (Rel.int _)⟩
  · cases e
theorem o_mul : Op2 X (binaryOp .Mult) fMul := by
  refine ⟨_, op_mul.or (op_mulW.or op_repT), fun w μ p q d x y Q L e hp hq hQ => ?_⟩
  unfold fMul at e
  split at e
  · split at e
    · rename_i i j hz
      cases e
      unfold mulOk at hz
      simp only [Bool.or_eq_true, Bool.and_eq_true, decide_eq_true_eq] at hz
      rcases hz with (hz | hz) | hz
      · exact .inr (.inl ⟨_, _, hp.int, hq.int, hz, hQ _ w (Ext.refl w) L (Rel.int _)⟩)
      · exact .inl ⟨_, _, hp.int, hq.int, .inl hz, hQ _ w (Ext.refl w) L (Rel.int _)⟩
      · exact .inl ⟨_, _, hp.int, hq.int, .inr hz, hQ _ w (Ext.refl w) L (Rel.int _)⟩
    · cases e
  · split at e
    · rename_i xs k hz
      cases e
      simp only [Bool.and_eq_true, decide_eq_true_eq, Bool.not_eq_true', List.isEmpty_eq_false_iff] at hz
      obtain ⟨⟨⟨h1, h2⟩, h3⟩, h4⟩ := hz
      obtain ⟨a, vs, rfl, s1, z1, l1⟩ := hp.tup
      refine .inr (.inr ⟨a, k, vs, rfl, hq.int, s1, fun z => h1 (l1.eq_nil.mpr z), h2, h3, by rw [← l1.length]; exact h4, fun n hn => ?_⟩)
      refine hQ _ (w.put n _) (Ext.new L hn) (Live.new L hn) (Rel.newT L (l1.rep _) ?_ hn)
      rw [len_rep, sizeLine_eq]
      have : k.toNat ≤ 1000 := by omega
      exact Nat.le_trans (Nat.mul_le_mul this h4) (by decide)
    · cases e
  · cases e
theorem o_div : Op2 X (binaryOp .FloorDiv) fDiv := by
  refine ⟨_, op_fdivN.or op_fdivW, fun w μ p q d x y Q L e hp hq hQ => ?_⟩
  unfold fDiv at e
  split at e
  · split at e
    · rename_i i j hz
      cases e
      unfold divOk at hz
      simp only [Bool.or_eq_true, Bool.and_eq_true, decide_eq_true_eq] at hz
      rcases hz with hz | hz
      · exact .inl ⟨_, _, hp.int, hq.int, hz, hQ _ w (Ext.refl w) L (Rel.int _)⟩
      · refine .inr ⟨_, _, hp.int, hq.int, hz, hQ _ w (Ext.refl w) L ?_⟩
        rw [Int.fdiv_eq_ediv_of_nonneg _ (Int.le_of_lt hz.1)]
        exact Rel.int _
    · cases e
  · cases e
theorem o_mod : Op2 X (binaryOp .Mod) fMod := by
  refine ⟨_, op_modN, fun w μ p q d x y Q L e hp hq hQ => ?_⟩
  unfold fMod at e
  split at e
  · split at e
    · cases e
    · rename_i i j hz
      cases e
      exact ⟨_, _, hp.int, hq.int, hz, hQ _ w (Ext.refl w) L (Rel.int _)⟩
  · cases e
theorem o_shl : Op2 X (binaryOp .LShift) fShl := by
  refine ⟨_, op_shl, fun w μ p q d x y Q L e hp hq hQ => ?_⟩
  unfold fShl at e
  split at e
  · split at e
    · rename_i i j hz
      cases e
      simp only [Bool.and_eq_true, decide_eq_true_eq] at hz
      exact ⟨_, _, hp.int, hq.int, ⟨hz.1.1, hz.1.2, hz.2⟩, hQ _ w (Ext.refl w) L (Rel.int _)⟩
    · cases e
  · cases e
theorem o_pow : Op2 X (binaryOp .Pow) fPow := by
  refine ⟨_, op_pow, fun w μ p q d x y Q L e hp hq hQ => ?_⟩
  unfold fPow at e
  split at e
  · split at e
    · rename_i i j hz
      cases e
      simp only [Bool.and_eq_true, decide_eq_true_eq] at hz
      exact ⟨_, _, hp.int, hq.int, ⟨hz.1.1, hz.1.2, hz.2⟩, hQ _ w (Ext.refl w) L (Rel.int _)⟩
    · cases e
  · cases e
end
end TV

/-! TV, third part: comparisons, tests, displays, items, slices. -/
namespace TV
open PySem PySem.Spec PyProof.Rows L2

/-! ## shapes -/
mutual
/-- no deeper than n, texts of plain signs -/
def shp : Nat → PyData → Bool
  | _, .none => true
  | _, .bool _ => true
  | _, .int _ => true
  | _, .str x => PyData.canLay0 (.str x)
  | n + 1, .list xs => shpL n xs
  | n + 1, .tuple xs => shpL n xs
  | _, _ => false
def shpL : Nat → List PyData → Bool
  | _, [] => true
  | n, x :: xs => shp n x && shpL n xs
end
theorem shpL_all (n : Nat) : ∀ xs : List PyData, shpL n xs = xs.all (shp n)
  | [] => rfl
  | x :: xs => by rw [shpL, shpL_all n xs, List.all_cons]
mutual
theorem shp_ok : ∀ (n : Nat) (d : PyData), shp n d = true → d.canLay0 = true ∧ d.depth ≤ n
  | _, .none, _ => ⟨by simp only [PyData.canLay0], by simp [PyData.depth]⟩
  | _, .bool _, _ => ⟨by simp only [PyData.canLay0], by simp [PyData.depth]⟩
  | _, .int _, _ => ⟨by simp only [PyData.canLay0], by simp [PyData.depth]⟩
  | _, .str x, h => by
    rw [shp] at h
    exact ⟨h, by simp [PyData.depth]⟩
  | 0, .list xs, h => by simp [shp] at h
  | 0, .tuple xs, h => by simp [shp] at h
  | n + 1, .list xs, h => by
    rw [shp] at h
    obtain ⟨h1, h2⟩ := shpL_ok n xs h
    refine ⟨by rw [PyData.canLay0]; exact h1, by rw [PyData.depth]; omega⟩
  | n + 1, .tuple xs, h => by
    rw [shp] at h
    obtain ⟨h1, h2⟩ := shpL_ok n xs h
    refine ⟨by rw [PyData.canLay0]; exact h1, by rw [PyData.depth]; omega⟩
  | 0, .dict _, h => by simp [shp] at h
  | n + 1, .dict _, h => by simp [shp] at h
theorem shpL_ok : ∀ (n : Nat) (xs : List PyData), shpL n xs = true → PyData.canLayAll0 xs = true ∧ PyData.depthAll xs ≤ n
  | _, [], _ => ⟨rfl, by simp [PyData.depthAll]⟩
  | n, x :: xs, h => by
    rw [shpL, Bool.and_eq_true] at h
    obtain ⟨a1, a2⟩ := shp_ok n x h.1
    obtain ⟨b1, b2⟩ := shpL_ok n xs h.2
    refine ⟨by rw [PyData.canLayAll0, a1, b1]; rfl, by rw [PyData.depthAll]; omega⟩
end
theorem shaped_of {n : Nat} {d : PyData} (h : shp n d = true) (hn : n ≤ 64 := by decide) : SeqAt.shaped d = true := by
  obtain ⟨h1, h2⟩ := shp_ok n d h
  unfold SeqAt.shaped
  rw [h1, decide_eq_true (Nat.le_trans h2 hn)]
  rfl

/-! ## comparisons: two data, a truth -/
abbrev Cm := PyData → PyData → Option Bool
def ap2c (f : Cm) (x y : D) (μ : Mu) : R Bool := match rd μ x, rd μ y with
  | some p, some q => match f p q with
    | some r => .ok r μ
    | none => .bad
  | _, _ => .bad
def dCmpT (f : Cm) (a b : DE) : DT := fun δ μ => (a δ μ).bind fun x μ1 => (b δ μ1).bind fun y μ2 => ap2c f x y μ2
def bval (r : R Bool) : R D := r.bind fun b μ => .ok (.t (.bool b)) μ
def dCmp (f : Cm) (a b : DE) : DE := fun δ μ => (a δ μ).bind fun x μ1 => (b δ μ1).bind fun y μ2 => bval (ap2c f x y μ2)
def Cm2 (X : Cx) (g : Value → Value → Sem Value) (f : Cm) : Prop :=
  ∃ r : R2, OpR X g r ∧ ∀ (w : Wd) (μ : Mu) (p q : PyData) (b : Bool) (x y : V) (Q : VK), Live (gx X) w μ → f p q = some b → Now (gx X) w p x → Now (gx X) w q y → Q (.bl b) w.H → r x y w.H Q
theorem Cm2.or {X : Cx} {g : Value → Value → Sem Value} {f f' : Cm} (h : Cm2 X g f) (h' : Cm2 X g f') : Cm2 X g (fun p q => match f p q with | some d => some d | none => f' p q) := by
  obtain ⟨r, o, k⟩ := h
  obtain ⟨r', o', k'⟩ := h'
  refine ⟨_, o.or o', fun w μ p q d x y Q L e hp hq hQ => ?_⟩
  dsimp only at e
  cases ef : f p q with
  | some d' =>
    rw [ef] at e
    exact .inl (k w μ p q d x y Q L (ef.trans e) hp hq hQ)
  | none =>
    rw [ef] at e
    exact .inr (k' w μ p q d x y Q L e hp hq hQ)
section
variable {X : Cx} {W : WX} {a b c : Expr} {da db dc : DE} {pos : Pos}
theorem ap2c_ok {f : Cm} {G : Gd} {σ : L2.St} {w : Wd} {μ : Mu} {x y : D} {v u : V} {Q : Bool → Hp → Prop} (L : Live G w μ) (r1 : RelD G w x v) (r2 : RelD G w y u)
    (h : Pst G W σ sameR Q w (ap2c f x y μ)) : ∃ p q b, f p q = some b ∧ Now G w p v ∧ Now G w q u ∧ Q b w.H := by
  unfold ap2c at h
  split at h
  · rename_i p q e1 e2
    split at h
    · rename_i d e3
      exact ⟨p, q, d, e3, now_of L e1 r1, now_of L e2 r2, h d w (Ext.refl w) L rfl⟩
    · exact h.elim
  · exact h.elim
theorem bval_ok {G : Gd} {σ : L2.St} {w : Wd} {r : R Bool} {Q : VK} (h : Pst G W σ (RelD G) Q w (bval r)) : Pst G W σ sameR (fun b H => Q (.bl b) H) w r :=
  Pst.bind h fun b v w' μ' E L e h' => by
    subst e
    exact h' _ w' (Ext.refl w') L (RelD.t (Rel.bool _))
theorem le_cmp {op : CmpOp} {f : Cm} (h : Cm2 X (compareOp op) f) (ha : LE X W a da) (hb : LE X W b db) (hm : behindInMarks op b = false) : LE X W (.Compare a [op] [b] pos) (dCmp f da db) := by
  obtain ⟨r, o, k⟩ := h
  refine (pe_cmpR o ha hb hm).imp fun σ H Q h => ?_
  exact two h fun w μ x y v u L r1 r2 h2 => (fun ⟨p, q, d, e, n1, n2, hq⟩ => k w μ p q d v u Q L e n1 n2 hq) (ap2c_ok L r1 r2 (bval_ok h2))
theorem lt_cmp {op : CmpOp} {f : Cm} (h : Cm2 X (compareOp op) f) (ha : LE X W a da) (hb : LE X W b db) (hm : behindInMarks op b = false) : LT X W (.Compare a [op] [b] pos) (dCmpT f da db) := by
  obtain ⟨r, o, k⟩ := h
  refine (pt_cmpR o ha hb hm).imp fun σ H Q h => ?_
  show lift _ _ _ da σ H fun v H1 => lift _ _ _ db σ H1 fun u H2 => r v u H2 fun x H' => ∃ k, x = .bl k ∧ Q k H'
  exact two h fun w μ x y v u L r1 r2 h2 => (fun ⟨p, q, d, e, n1, n2, hq⟩ => k w μ p q d v u _ L e n1 n2 ⟨d, rfl, hq⟩) (ap2c_ok L r1 r2 h2)
/-- a < b < c -/
def dChainT (f g : Cm) (a b c : DE) : DT := fun δ μ => (a δ μ).bind fun x μ1 => (b δ μ1).bind fun y μ2 => (ap2c f x y μ2).bind fun k μ3 =>
  if k then (c δ μ3).bind fun z μ4 => ap2c g y z μ4 else .ok false μ3
def dChain (f g : Cm) (a b c : DE) : DE := fun δ μ => bval (dChainT f g a b c δ μ)
theorem chain_ok {op op' : CmpOp} {f g : Cm} {r r' : R2} (k : ∀ (w : Wd) (μ : Mu) (p q : PyData) (b : Bool) (x y : V) (Q : VK), Live (gx X) w μ → f p q = some b → Now (gx X) w p x → Now (gx X) w q y → Q (.bl b) w.H → r x y w.H Q)
    (k' : ∀ (w : Wd) (μ : Mu) (p q : PyData) (b : Bool) (x y : V) (Q : VK), Live (gx X) w μ → g p q = some b → Now (gx X) w p x → Now (gx X) w q y → Q (.bl b) w.H → r' x y w.H Q)
    {σ : L2.St} {H : Hp} {Q : Bool → Hp → Prop} (h : lift (gx X) W sameR (dChainT f g da db dc) σ H Q) {P : VK} (hP : ∀ b H, Q b H → P (.bl b) H) :
    tChain r r' (lift (gx X) W (RelD (gx X)) da) (lift (gx X) W (RelD (gx X)) db) (lift (gx X) W (RelD (gx X)) dc) σ H P := by
  obtain ⟨w, δ, μ, e, L, S, h⟩ := h
  refine ⟨w, δ, μ, e, L, S, Pst.bind h fun x v w1 μ1 E1 L1 r1 h1 => ?_⟩
  refine ⟨w1, δ, μ1, rfl, L1, S.ext L E1, Pst.bind h1 fun y u w2 μ2 E2 L2 r2 h2 => ?_⟩
  have q := Pst.bind (rel := sameR) (P := fun b H' => ∃ μ3 w3, w3.H = H' ∧ Ext w2 w3 ∧ Live (gx X) w3 μ3 ∧ Pst (gx X) W σ sameR Q w3 (if b = true then (dc δ μ3).bind fun z μ4 => ap2c g y z μ4 else .ok false μ3)) h2
    (fun b c w3 μ3 E3 L3 e3 h3 => by subst e3; exact ⟨μ3, w3, rfl, E3, L3, h3⟩)
  obtain ⟨p, q', b, ef, n1, n2, hb⟩ := ap2c_ok L2 (RelD.ext L1 E2 _ _ r1) r2 q
  obtain ⟨μ3, w3, eH, E3, L3, h3⟩ := hb
  refine k w2 μ2 p q' b v u _ L2 ef n1 n2 ?_
  rw [← eH]
  refine ⟨b, rfl, ?_⟩
  cases b with
  | true =>
    refine ⟨w3, δ, μ3, rfl, L3, (S.ext L E1 |>.ext L1 E2 |>.ext L2 E3), Pst.bind h3 fun z t w4 μ4 E4 L4 r4 h4 => ?_⟩
    obtain ⟨p4, q4, b4, e4, m1, m2, hb4⟩ := ap2c_ok L4 (RelD.ext L3 E4 _ _ (RelD.ext L2 E3 _ _ r2)) r4 h4
    exact k' w4 μ4 p4 q4 b4 u t _ L4 e4 m1 m2 (hP _ _ hb4)
  | false => exact hP _ _ (here_ok h3 L3 rfl)
theorem le_chain {op op' : CmpOp} {f g : Cm} (h : Cm2 X (compareOp op) f) (h' : Cm2 X (compareOp op') g) (ha : LE X W a da) (hb : LE X W b db) (hc : LE X W c dc) (hm : lastMarks [op, op'] [b, c] = false := by rfl) : LE X W (.Compare a [op, op'] [b, c] pos) (dChain f g da db dc) := by
  obtain ⟨r, o, k⟩ := h
  obtain ⟨r', o', k'⟩ := h'
  refine (pe_chain (hm := hm) o o' ha hb hc).imp fun σ H Q ⟨w, δ, μ, e, L, S, h⟩ => ?_
  exact chain_ok (op := op) (op' := op') k k' ⟨w, δ, μ, e, L, S, bval_ok h⟩ fun _ _ q => q
theorem lt_chain {op op' : CmpOp} {f g : Cm} (h : Cm2 X (compareOp op) f) (h' : Cm2 X (compareOp op') g) (ha : LE X W a da) (hb : LE X W b db) (hc : LE X W c dc) (hm : lastMarks [op, op'] [b, c] = false := by rfl) : LT X W (.Compare a [op, op'] [b, c] pos) (dChainT f g da db dc) := by
  obtain ⟨r, o, k⟩ := h
  obtain ⟨r', o', k'⟩ := h'
  refine (pt_chain (hm := hm) o o' ha hb hc).imp fun σ H Q h => ?_
  exact chain_ok (op := op) (op' := op') k k' h fun b H q => ⟨b, rfl, q⟩
end
def cEq : Cm := fun p q => match p, q with
  | .int i, .int j => some (i == j)
  | .str x, .str y => some (x == y)
  | p, q => if shp 16 p && shp 16 q then some (PyData.eqv p q) else none
def cNe : Cm := fun p q => (cEq p q).map (!·)
def cLt : Cm
  | .int i, .int j => some (decide (i < j))
  | .str x, .str y => some (decide (x.cps.toList < y.cps.toList))
  | _, _ => none
def cGt : Cm
  | .int i, .int j => some (decide (j < i))
  | .str x, .str y => some (decide (y.cps.toList < x.cps.toList))
  | _, _ => none
def cLe : Cm
  | .int i, .int j => some (decide (i ≤ j))
  | .str x, .str y => some (!decide (y.cps.toList < x.cps.toList))
  | _, _ => none
def cGe : Cm
  | .int i, .int j => some (decide (j ≤ i))
  | .str x, .str y => some (!decide (x.cps.toList < y.cps.toList))
  | _, _ => none
def isNone : PyData → Bool
  | .none => true
  | _ => false
def isBool (b : Bool) : PyData → Bool
  | .bool a => a == b
  | _ => false
def cIs : Cm
  | p, .none => some (isNone p)
  | p, .bool b => some (isBool b p)
  | _, _ => none
def cIsNot : Cm := fun p q => (cIs p q).map (!·)
/-- flat: no list, no tuple -/
def flatP : PyData → Bool
  | .none | .bool _ | .int _ | .str _ => true
  | _ => false
def cIn : Cm
  | .str x, .str z => match x.cps.toList with
    | [c] => some (decide (c ∈ z.cps.toList))
    | _ => none
  | p, .list xs => if shp 15 p && shpL 15 xs then some (xs.any fun z => PyData.eqv z p) else none
  | p, .tuple xs => if flatP p && xs.all flatP then some (xs.any fun z => PyData.eqv z p) else none
  | _, _ => none
def cNotIn : Cm := fun p q => (cIn p q).map (!·)
section
variable {X : Cx}
theorem c_lt : Cm2 X (compareOp .Lt) cLt := by
  refine ⟨_, op_lt.or op_lt_str, fun w μ p q d x y Q L e hp hq hQ => ?_⟩
  unfold cLt at e
  split at e
  · cases e; exact .inl ⟨_, _, hp.int, hq.int, hQ⟩
  · cases e; exact .inr ⟨_, _, hp.str.1, hq.str.1, hQ⟩
  · cases e
theorem c_gt : Cm2 X (compareOp .Gt) cGt := by
  refine ⟨_, op_gt.or op_gt_str, fun w μ p q d x y Q L e hp hq hQ => ?_⟩
  unfold cGt at e
  split at e
  · cases e; exact .inl ⟨_, _, hp.int, hq.int, hQ⟩
  · cases e; exact .inr ⟨_, _, hp.str.1, hq.str.1, hQ⟩
  · cases e
theorem c_le : Cm2 X (compareOp .LtE) cLe := by
  refine ⟨_, op_le.or op_le_str, fun w μ p q d x y Q L e hp hq hQ => ?_⟩
  unfold cLe at e
  split at e
  · cases e; exact .inl ⟨_, _, hp.int, hq.int, hQ⟩
  · cases e; exact .inr ⟨_, _, hp.str.1, hq.str.1, hQ⟩
  · cases e
theorem c_ge : Cm2 X (compareOp .GtE) cGe := by
  refine ⟨_, op_ge.or op_ge_str, fun w μ p q d x y Q L e hp hq hQ => ?_⟩
  unfold cGe at e
  split at e
  · cases e; exact .inl ⟨_, _, hp.int, hq.int, hQ⟩
  · cases e; exact .inr ⟨_, _, hp.str.1, hq.str.1, hQ⟩
  · cases e
theorem cEq_some {p q : PyData} {b : Bool} (h : cEq p q = some b) : (∃ x y : V, (∀ G w v, Now G w p v → v = x) ∧ (∀ G w v, Now G w q v → v = y) ∧ scal x y = true ∧ decide (x = y) = b) ∨ (shp 16 p = true ∧ shp 16 q = true ∧ PyData.eqv p q = b) := by
  unfold cEq at h
  split at h
  · rename_i i j
    cases h
    exact .inl ⟨.int i, .int j, fun _ _ _ h => h.int, fun _ _ _ h => h.int, rfl, dec_int⟩
  · rename_i x y
    cases h
    exact .inl ⟨.str x, .str y, fun _ _ _ h => h.str.1, fun _ _ _ h => h.str.1, rfl, dec_str⟩
  · split at h
    · rename_i z
      cases h
      rw [Bool.and_eq_true] at z
      exact .inr ⟨z.1, z.2, rfl⟩
    · cases h
theorem c_eq (hu : X.A.units + 64 < cLine) : Cm2 X (compareOp .Eq) cEq := by
  refine ⟨_, op_eq.or (op_eqD hu), fun w μ p q d x y Q L e hp hq hQ => ?_⟩
  rcases cEq_some e with ⟨a, b, e1, e2, s, z⟩ | ⟨s1, s2, z⟩
  · cases e1 _ _ _ hp
    cases e2 _ _ _ hq
    exact .inl ⟨s, by rw [z]; exact hQ⟩
  · exact .inr ⟨p, q, hp.dp, hq.dp, shaped_of s1, shaped_of s2, by rw [z]; exact hQ⟩
theorem c_ne (hu : X.A.units + 64 < cLine) : Cm2 X (compareOp .NotEq) cNe := by
  refine ⟨_, op_ne.or (op_neD hu), fun w μ p q d x y Q L e hp hq hQ => ?_⟩
  unfold cNe at e
  cases ec : cEq p q with
  | none => rw [ec] at e; cases e
  | some c =>
    rw [ec] at e
    cases e
    rcases cEq_some ec with ⟨a, b, e1, e2, s, z⟩ | ⟨s1, s2, z⟩
    · cases e1 _ _ _ hp
      cases e2 _ _ _ hq
      exact .inl ⟨s, by rw [z]; exact hQ⟩
    · exact .inr ⟨p, q, hp.dp, hq.dp, shaped_of s1, shaped_of s2, by rw [z]; exact hQ⟩
theorem op_isB' : OpR X (compareOp .Is) (fun x y H Q => ∃ b, y = .bl b ∧ Q (.bl (decide (x = .bl b))) H) := by
  intro pins s σ H x y v u Q I rx ry h
  obtain ⟨b, rfl, q⟩ := h
  cases (show u = Value.bool b from ry)
  by_cases e : x = .bl b
  · subst e
    cases (show v = Value.bool b from rx)
    exact wpAny_is_self rfl ⟨.bl true, H, I, rfl, by simpa using q⟩
  · refine wpAny_is_other ?_ (fun z => e ?_) ⟨.bl false, H, I, rfl, by simpa [e] using q⟩
    · cases x <;> first
        | (obtain ⟨t, rfl⟩ := rx; rfl)
        | (cases rx; rfl)
    · subst z
      exact RelV.inj rx rfl
theorem op_notB' : OpR X (compareOp .IsNot) (fun x y H Q => ∃ b, y = .bl b ∧ Q (.bl (!decide (x = .bl b))) H) := by
  intro pins s σ H x y v u Q I rx ry h
  obtain ⟨b, rfl, q⟩ := h
  cases (show u = Value.bool b from ry)
  by_cases e : x = .bl b
  · subst e
    cases (show v = Value.bool b from rx)
    exact wpAny_isNot_self rfl ⟨.bl false, H, I, rfl, by simpa using q⟩
  · refine wpAny_isNot_other ?_ (fun z => e ?_) ⟨.bl true, H, I, rfl, by simpa [e] using q⟩
    · cases x <;> first
        | (obtain ⟨t, rfl⟩ := rx; rfl)
        | (cases rx; rfl)
    · subst z
      exact RelV.inj rx rfl
theorem now_none {G : Gd} {w : Wd} {p : PyData} {v : V} (h : Now G w p v) : decide (v = .non) = isNone p := by
  cases p with
  | none => rw [h.none]; rfl
  | bool b => rw [h.bool]; rfl
  | int b => rw [h.int]; rfl
  | str b => rw [h.str.1]; rfl
  | list xs => obtain ⟨a, vs, rfl, _⟩ := h; rfl
  | tuple xs => obtain ⟨a, vs, rfl, _⟩ := h.tup; rfl
  | dict xs => have h : Rel G w _ v := h; simp [Rel] at h
theorem now_bool {G : Gd} {w : Wd} {p : PyData} {v : V} {b : Bool} (h : Now G w p v) : decide (v = .bl b) = isBool b p := by
  cases p with
  | none => rw [h.none]; rfl
  | bool c => rw [h.bool]; exact dec_bl
  | int b => rw [h.int]; rfl
  | str b => rw [h.str.1]; rfl
  | list xs => obtain ⟨a, vs, rfl, _⟩ := h; rfl
  | tuple xs => obtain ⟨a, vs, rfl, _⟩ := h.tup; rfl
  | dict xs => have h : Rel G w _ v := h; simp [Rel] at h
theorem c_is : Cm2 X (compareOp .Is) cIs := by
  refine ⟨_, op_isN.or op_isB', fun w μ p q d x y Q L e hp hq hQ => ?_⟩
  unfold cIs at e
  split at e
  · cases e; exact .inl ⟨hq.none, by rw [now_none hp]; exact hQ⟩
  · cases e; exact .inr ⟨_, hq.bool, by rw [now_bool hp]; exact hQ⟩
  · cases e
theorem c_isNot : Cm2 X (compareOp .IsNot) cIsNot := by
  refine ⟨_, op_notN.or op_notB', fun w μ p q d x y Q L e hp hq hQ => ?_⟩
  unfold cIsNot cIs at e
  split at e
  · cases e; exact .inl ⟨hq.none, by rw [now_none hp]; exact hQ⟩
  · cases e; exact .inr ⟨_, hq.bool, by rw [now_bool hp]; exact hQ⟩
  · cases e
theorem flat_now {G : Gd} {w : Wd} {p : PyData} {v : V} (f : flatP p = true) (h : Rel G w p v) : flatV v = true := by
  cases p <;> first
    | (rw [Rel] at h; subst h; rfl)
    | (rw [Rel] at h; rw [h.1]; rfl)
    | (simp [flatP] at f)
def fvP : PyData → V
  | .bool b => .bl b
  | .int i => .int i
  | .str x => .str x
  | _ => .non
theorem fvP_of {G : Gd} {w : Wd} : ∀ {p : PyData} {v : V}, flatP p = true → Rel G w p v → v = fvP p
  | .none, _, _, h => by rw [Rel] at h; exact h
  | .bool _, _, _, h => by rw [Rel] at h; exact h
  | .int _, _, _, h => by rw [Rel] at h; exact h
  | .str _, _, _, h => by rw [Rel] at h; exact h.1
  | .list _, _, f, _ => by simp [flatP] at f
  | .tuple _, _, f, _ => by simp [flatP] at f
  | .dict _, _, f, _ => by simp [flatP] at f
theorem eqV_eqv {G : Gd} {w : Wd} {p q : PyData} {v u : V} (f : flatP p = true) (f' : flatP q = true) (h : Rel G w p v) (h' : Rel G w q u) : eqV v u = PyData.eqv p q := by
  rw [fvP_of f h, fvP_of f' h']
  cases p <;> cases q <;> first
    | (simp [flatP] at f; done)
    | (simp [flatP] at f'; done)
    | simp [fvP, eqV, PyData.eqv]
theorem inV_any {G : Gd} {w : Wd} {p : PyData} {v : V} (f : flatP p = true) (h : Rel G w p v) : ∀ {xs : List PyData} {vs : List V}, xs.all flatP = true → RelL G w xs vs → vs.all flatV = true ∧ inV v vs = xs.any fun z => PyData.eqv z p
  | [], _, _, l => by rw [RelL] at l; subst l; exact ⟨rfl, rfl⟩
  | x :: xs, vs, fs, l => by
    rw [RelL] at l
    obtain ⟨u, r, rfl, h1, h2⟩ := l
    rw [List.all_cons, Bool.and_eq_true] at fs
    obtain ⟨z1, z2⟩ := inV_any f h fs.2 h2
    refine ⟨by rw [List.all_cons, flat_now fs.1 h1, z1]; rfl, ?_⟩
    unfold inV at z2 ⊢
    rw [List.any_cons, List.any_cons, z2, eqV_eqv fs.1 f h1 h]
theorem rel_of_now {G : Gd} {w : Wd} {p : PyData} {v : V} (f : flatP p = true) (h : Now G w p v) : Rel G w p v := by
  cases p <;> first | exact h | (simp [flatP] at f)
theorem c_in (hu : X.A.units + 65 < cLine) : Cm2 X (compareOp .In) cIn := by
  refine ⟨_, op_in_sign.or ((op_inD hu).or op_in_seq), fun w μ p q d x y Q L e hp hq hQ => ?_⟩
  unfold cIn at e
  split at e
  · rename_i a z
    split at e
    · rename_i c ec
      cases e
      refine .inl ⟨c, z, ?_, hq.str.1, hQ⟩
      rw [hp.str.1]
      obtain ⟨a⟩ := a
      obtain ⟨l⟩ := a
      simp only at ec
      rw [ec]
    · cases e
  · rename_i xs
    split at e
    · rename_i s
      cases e
      rw [Bool.and_eq_true] at s
      exact .inr (.inl ⟨p, xs, hp.dp, hq.dp, shaped_of s.1, shaped_of (n := 16) (by rw [shp]; exact s.2), hQ⟩)
    · cases e
  · rename_i xs
    split at e
    · rename_i s
      cases e
      rw [Bool.and_eq_true] at s
      obtain ⟨a, vs, rfl, h1, h2, h3⟩ := hq.tup
      obtain ⟨z1, z2⟩ := inV_any s.1 (rel_of_now s.1 hp) s.2 h3
      exact .inr (.inr ⟨a, vs, rfl, .inr h1, flat_now s.1 (rel_of_now s.1 hp), z1, by rw [if_neg Bool.false_ne_true, z2]; exact hQ⟩)
    · cases e
  · cases e
theorem c_notIn (hu : X.A.units + 65 < cLine) : Cm2 X (compareOp .NotIn) cNotIn := by
  refine ⟨_, op_notIn_sign.or ((op_notInD hu).or op_notIn_seq), fun w μ p q d x y Q L e hp hq hQ => ?_⟩
  unfold cNotIn cIn at e
  split at e
  · rename_i a z
    split at e
    · rename_i c ec
      cases e
      refine .inl ⟨c, z, ?_, hq.str.1, hQ⟩
      rw [hp.str.1]
      obtain ⟨a⟩ := a
      obtain ⟨l⟩ := a
      simp only at ec
      rw [ec]
    · cases e
  · rename_i xs
    split at e
    · rename_i s
      cases e
      rw [Bool.and_eq_true] at s
      exact .inr (.inl ⟨p, xs, hp.dp, hq.dp, shaped_of s.1, shaped_of (n := 16) (by rw [shp]; exact s.2), hQ⟩)
    · cases e
  · rename_i xs
    split at e
    · rename_i s
      cases e
      rw [Bool.and_eq_true] at s
      obtain ⟨a, vs, rfl, h1, h2, h3⟩ := hq.tup
      obtain ⟨z1, z2⟩ := inV_any s.1 (rel_of_now s.1 hp) s.2 h3
      exact .inr (.inr ⟨a, vs, rfl, .inr h1, flat_now s.1 (rel_of_now s.1 hp), z1, by rw [if_pos rfl, z2]; exact hQ⟩)
    · cases e
  · cases e
end
end TV

/-! TV, fourth part: tests, conditionals, displays, items, slices, built-in calls and methods. -/
namespace TV
open PySem PySem.Spec PyProof.Rows L2

/-! ## truth -/
def truP : PyData → Bool
  | .none => false
  | .bool b => b
  | .int i => i != 0
  | .str x => (x.length : Int) != 0
  | .list xs => !xs.isEmpty
  | .tuple xs => !xs.isEmpty
  | .dict _ => false
theorem isEmpty_rel {G : Gd} {w : Wd} {xs : List PyData} {vs : List V} (h : RelL G w xs vs) : vs.isEmpty = xs.isEmpty := by
  have := h.length
  cases xs <;> cases vs <;> simp at this <;> rfl
theorem truV_now {G : Gd} {w : Wd} {p : PyData} {v : V} (h : Now G w p v) : TruV G.K v w.H (truP p) := by
  cases p with
  | none => rw [h.none]; rfl
  | bool b => rw [h.bool]; rfl
  | int b => rw [h.int]; rfl
  | str b => rw [h.str.1]; exact ⟨h.str.2, rfl⟩
  | list xs =>
    obtain ⟨a, vs, rfl, h1, _, l⟩ := h
    exact .inl ⟨vs, h1, by rw [isEmpty_rel l]; rfl⟩
  | tuple xs =>
    obtain ⟨a, vs, rfl, h1, _, l⟩ := h.tup
    exact .inr (.inl ⟨vs, h1, by rw [isEmpty_rel l]; rfl⟩)
  | dict xs => have h : Rel G w _ v := h; simp [Rel] at h
def apT (x : D) (μ : Mu) : R Bool := match rd μ x with
  | some p => .ok (truP p) μ
  | none => .bad
def dTru (a : DE) : DT := fun δ μ => (a δ μ).bind apT
def dNotT (a : DT) : DT := fun δ μ => (a δ μ).bind fun b μ => .ok (!b) μ
def dAndT (a b : DT) : DT := fun δ μ => (a δ μ).bind fun c μ => if c then b δ μ else .ok false μ
def dOrT (a b : DT) : DT := fun δ μ => (a δ μ).bind fun c μ => if c then .ok true μ else b δ μ
def dNotV (a : DE) : DE := fun δ μ => (a δ μ).bind fun x μ => (apT x μ).bind fun b μ => .ok (.t (.bool (!b))) μ
def dAndV (a b : DE) : DE := fun δ μ => (a δ μ).bind fun x μ => (apT x μ).bind fun c μ => if c then b δ μ else .ok x μ
def dOrV (a b : DE) : DE := fun δ μ => (a δ μ).bind fun x μ => (apT x μ).bind fun c μ => if c then .ok x μ else b δ μ
def dIf (c : DT) (a b : DE) : DE := fun δ μ => (c δ μ).bind fun k μ => if k then a δ μ else b δ μ
def ap1 (f : PyData → Option PyData) (x : D) (μ : Mu) : R D := match rd μ x with
  | some p => match f p with
    | some r => .ok (.t r) μ
    | none => .bad
  | none => .bad
def dUn (f : PyData → Option PyData) (a : DE) : DE := fun δ μ => (a δ μ).bind fun x μ => ap1 f x μ
def fNeg : PyData → Option PyData
  | .int i => some (.int (-i))
  | _ => none
section
variable {X : Cx} {W : WX} {a b c : Expr} {da db : DE} {ta tb : DT} {pos : Pos} {rest : List Expr}
theorem apT_ok {G : Gd} {σ : L2.St} {w : Wd} {μ : Mu} {x : D} {v : V} {γ ε : Type} {rel2 : Wd → γ → ε → Prop} {Q : ε → Hp → Prop} {k : Bool → Mu → R γ} (L : Live G w μ) (r : RelD G w x v)
    (h : Pst G W σ rel2 Q w ((apT x μ).bind k)) : ∃ b, TruV G.K v w.H b ∧ Pst G W σ rel2 Q w (k b μ) := by
  unfold apT at h
  split at h
  · rename_i p e
    exact ⟨_, truV_now (now_of L e r), h⟩
  · exact h.elim
theorem apT_ok' {G : Gd} {σ : L2.St} {w : Wd} {μ : Mu} {x : D} {v : V} {Q : Bool → Hp → Prop} (L : Live G w μ) (r : RelD G w x v)
    (h : Pst G W σ sameR Q w (apT x μ)) : ∃ b, TruV G.K v w.H b ∧ Q b w.H := by
  unfold apT at h
  split at h
  · rename_i p e
    exact ⟨_, truV_now (now_of L e r), here_ok h L rfl⟩
  · exact h.elim
theorem lt_tru (ha : LE X W a da) (he : ∀ whole, isTrue a X.env whole = (do let v ← whole; standAt a.pos; holding [v] (truthy v)) := by intro _; rfl) : LT X W a (dTru da) := by
  refine (pt_truth ha he).imp fun σ H Q ⟨w, δ, μ, e, L, S, h⟩ => ?_
  refine ⟨w, δ, μ, e, L, S, Pst.bind h fun x v w1 μ1 E1 L1 r1 h1 => ?_⟩
  exact apT_ok' L1 r1 h1
theorem lt_not (ha : LT X W a ta) : LT X W (.UnaryOp .Not a pos) (dNotT ta) := by
  refine (pt_not ha).imp fun σ H Q ⟨w, δ, μ, e, L, S, h⟩ => ?_
  refine ⟨w, δ, μ, e, L, S, Pst.bind h fun x v w1 μ1 E1 L1 r1 h1 => ?_⟩
  subst r1
  exact here_ok h1 L1 rfl
theorem lw_and1 (ha : LT X W a ta) : LW X W (.BoolOp .And [a] pos) ta := pw_and1 ha
theorem lw_or1 (ha : LT X W a ta) : LW X W (.BoolOp .Or [a] pos) ta := pw_or1 ha
theorem lw_and (ha : LT X W a ta) (hb : LW X W (.BoolOp .And (b :: rest) pos) tb) : LW X W (.BoolOp .And (a :: b :: rest) pos) (dAndT ta tb) := by
  refine (pw_and ha hb).imp fun σ H Q ⟨w, δ, μ, e, L, S, h⟩ => ?_
  refine ⟨w, δ, μ, e, L, S, Pst.bind h fun x v w1 μ1 E1 L1 r1 h1 => ?_⟩
  subst r1
  cases v with
  | true => exact ⟨w1, δ, μ1, rfl, L1, S.ext L E1, h1⟩
  | false => exact here_ok h1 L1 rfl
theorem lw_or (ha : LT X W a ta) (hb : LW X W (.BoolOp .Or (b :: rest) pos) tb) : LW X W (.BoolOp .Or (a :: b :: rest) pos) (dOrT ta tb) := by
  refine (pw_or ha hb).imp fun σ H Q ⟨w, δ, μ, e, L, S, h⟩ => ?_
  refine ⟨w, δ, μ, e, L, S, Pst.bind h fun x v w1 μ1 E1 L1 r1 h1 => ?_⟩
  subst r1
  cases v with
  | true => exact here_ok h1 L1 rfl
  | false => exact ⟨w1, δ, μ1, rfl, L1, S.ext L E1, h1⟩
theorem lt_w (h : LW X W a ta) : LT X W a ta := h.pt
theorem le_not (ha : LE X W a da) : LE X W (.UnaryOp .Not a pos) (dNotV da) := by
  refine (pe_notT ha).imp fun σ H Q ⟨w, δ, μ, e, L, S, h⟩ => ?_
  refine ⟨w, δ, μ, e, L, S, Pst.bind h fun x v w1 μ1 E1 L1 r1 h1 => ?_⟩
  obtain ⟨b, t, h2⟩ := apT_ok L1 r1 h1
  exact ⟨b, t, here_ok h2 L1 (RelD.t (Rel.bool _))⟩
theorem le_one {op : BoolOp} (ha : LE X W a da) : LE X W (.BoolOp op [a] pos) da := pe_one ha
theorem le_and (ha : LE X W a da) (hb : LE X W (.BoolOp .And (b :: rest) pos) db) : LE X W (.BoolOp .And (a :: b :: rest) pos) (dAndV da db) := by
  refine (pe_andT ha hb).imp fun σ H Q ⟨w, δ, μ, e, L, S, h⟩ => ?_
  refine ⟨w, δ, μ, e, L, S, Pst.bind h fun x v w1 μ1 E1 L1 r1 h1 => ?_⟩
  obtain ⟨b, t, h2⟩ := apT_ok L1 r1 h1
  refine ⟨b, t, ?_⟩
  cases b with
  | true => exact ⟨w1, δ, μ1, rfl, L1, S.ext L E1, h2⟩
  | false => exact here_ok h2 L1 r1
theorem le_or (ha : LE X W a da) (hb : LE X W (.BoolOp .Or (b :: rest) pos) db) : LE X W (.BoolOp .Or (a :: b :: rest) pos) (dOrV da db) := by
  refine (pe_orT ha hb).imp fun σ H Q ⟨w, δ, μ, e, L, S, h⟩ => ?_
  refine ⟨w, δ, μ, e, L, S, Pst.bind h fun x v w1 μ1 E1 L1 r1 h1 => ?_⟩
  obtain ⟨b, t, h2⟩ := apT_ok L1 r1 h1
  refine ⟨b, t, ?_⟩
  cases b with
  | true => exact here_ok h2 L1 r1
  | false => exact ⟨w1, δ, μ1, rfl, L1, S.ext L E1, h2⟩
theorem le_if (hc : LT X W c ta) (ha : LE X W a da) (hb : LE X W b db) : LE X W (.IfExp c a b pos) (dIf ta da db) := by
  refine (pe_ifExp hc ha hb).imp fun σ H Q ⟨w, δ, μ, e, L, S, h⟩ => ?_
  refine ⟨w, δ, μ, e, L, S, Pst.bind h fun x v w1 μ1 E1 L1 r1 h1 => ?_⟩
  subst r1
  cases v with
  | true => exact ⟨w1, δ, μ1, rfl, L1, S.ext L E1, h1⟩
  | false => exact ⟨w1, δ, μ1, rfl, L1, S.ext L E1, h1⟩
theorem ap1_ok {G : Gd} {f : PyData → Option PyData} {σ : L2.St} {w : Wd} {μ : Mu} {x : D} {v : V} {Q : VK} (L : Live G w μ) (r : RelD G w x v) (h : Pst G W σ (RelD G) Q w (ap1 f x μ)) :
    ∃ p d, f p = some d ∧ Now G w p v ∧ ∀ v w', Ext w w' → Live G w' μ → Rel G w' d v → Q v w'.H := by
  unfold ap1 at h
  split at h
  · rename_i p e
    split at h
    · rename_i d e2
      exact ⟨p, d, e2, now_of L e r, fun v w' E L' r => h v w' E L' (RelD.t r)⟩
    · exact h.elim
  · exact h.elim
theorem le_neg (ha : LE X W a da) : LE X W (.UnaryOp .USub a pos) (dUn fNeg da) := by
  refine (pe_un un_neg ha).imp fun σ H Q ⟨w, δ, μ, e, L, S, h⟩ => ?_
  refine ⟨w, δ, μ, e, L, S, Pst.bind h fun x v w1 μ1 E1 L1 r1 h1 => ?_⟩
  obtain ⟨p, d, e2, n, hQ⟩ := ap1_ok L1 r1 h1
  unfold fNeg at e2
  split at e2
  · cases e2
    exact ⟨_, n.int, hQ _ w1 (Ext.refl w1) L1 (Rel.int _)⟩
  · cases e2
end

/-! ## arguments, displays -/
def dNil : DA := fun _ μ => .ok [] μ
def dCons (a : DE) (r : DA) : DA := fun δ μ => (a δ μ).bind fun x μ => (r δ μ).bind fun xs μ => .ok (x :: xs) μ
def itemsOf : PyData → Option (List PyData)
  | .list xs => some xs
  | .tuple xs => some xs
  | _ => none
def apStar (x : D) (μ : Mu) : R (List D) := match rd μ x with
  | some p => match itemsOf p with
    | some xs => .ok (xs.map .t) μ
    | none => .bad
  | none => .bad
def dStar (a : DE) (r : DA) : DA := fun δ μ => (a δ μ).bind fun x μ => (apStar x μ).bind fun ys μ => (r δ μ).bind fun xs μ => .ok (ys ++ xs) μ
def allT : List D → Option (List PyData)
  | [] => some []
  | .t x :: r => (allT r).map (x :: ·)
  | _ :: _ => none
def mkTup (xs : List D) (μ : Mu) : R D := if xs.length ≤ sizeLine then (match allT xs with
  | some ps => .ok (.t (.tuple ps)) μ
  | none => .ok (.tupR xs) μ) else .bad
def dTup (as : DA) : DE := fun δ μ => (as δ μ).bind mkTup
def mkLst (live : Bool) (xs : List D) (μ : Mu) : R D := if xs.length ≤ sizeLine then (match allT xs with
  | some ps => newL live ps μ
  | none => .bad) else .bad
def dLst (live : Bool) (as : DA) : DE := fun δ μ => (as δ μ).bind (mkLst live)
section
variable {X : Cx} {W : WX} {a : Expr} {es : List Expr} {da : DE} {as : DA} {pos p : Pos} {G : Gd} {w : Wd} {μ : Mu}
theorem RelDL.nil : RelDL G w [] [] := by rw [RelDL]
theorem RelDL.cons {d : D} {v : V} {ds : List D} {vs : List V} (h : RelD G w d v) (k : RelDL G w ds vs) : RelDL G w (d :: ds) (v :: vs) := by
  rw [RelDL]
  exact ⟨v, vs, rfl, h, k⟩
theorem RelDL.length : ∀ {ds : List D} {vs : List V}, RelDL G w ds vs → ds.length = vs.length
  | [], _, h => by rw [RelDL] at h; subst h; rfl
  | d :: ds, vs, h => by
    rw [RelDL] at h
    obtain ⟨v, r, rfl, _, h2⟩ := h
    rw [List.length_cons, List.length_cons, RelDL.length h2]
theorem RelDL.append : ∀ {ds es : List D} {vs us : List V}, RelDL G w ds vs → RelDL G w es us → RelDL G w (ds ++ es) (vs ++ us)
  | [], _, _, _, h, k => by rw [RelDL] at h; subst h; exact k
  | d :: ds, es, vs, us, h, k => by
    rw [RelDL] at h
    obtain ⟨v, r, rfl, h1, h2⟩ := h
    exact RelDL.cons h1 (RelDL.append h2 k)
theorem RelDL.map : ∀ {ds : List PyData} {vs : List V}, RelL G w ds vs → RelDL G w (ds.map .t) vs
  | [], _, h => by rw [RelL] at h; subst h; exact RelDL.nil
  | d :: ds, vs, h => by
    rw [RelL] at h
    obtain ⟨v, r, rfl, h1, h2⟩ := h
    exact RelDL.cons (RelD.t h1) (RelDL.map h2)
theorem RelDL.allT : ∀ {ds : List D} {vs : List V} {ps : List PyData}, allT ds = some ps → RelDL G w ds vs → RelL G w ps vs
  | [], vs, ps, e, h => by
    cases e
    rw [RelDL] at h; subst h; exact RelL.nil
  | d :: ds, vs, ps, e, h => by
    rw [RelDL] at h
    obtain ⟨v, r, rfl, h1, h2⟩ := h
    cases d with
    | t x =>
      rw [TV.allT] at e
      obtain ⟨qs, e1, rfl⟩ := Option.map_eq_some_iff.mp e
      rw [RelD] at h1
      exact RelL.cons h1 (RelDL.allT e1 h2)
    | _ => cases e
theorem allT_length : ∀ {ds : List D} {ps : List PyData}, allT ds = some ps → ps.length = ds.length
  | [], ps, e => by cases e; rfl
  | d :: ds, ps, e => by
    cases d with
    | t x =>
      rw [allT] at e
      obtain ⟨qs, e1, rfl⟩ := Option.map_eq_some_iff.mp e
      rw [List.length_cons, List.length_cons, allT_length e1]
    | _ => cases e
theorem la_nil : LA X W [] dNil := pa_nil.imp fun σ H Q ⟨w, δ, μ, e, L, S, h⟩ => by
  subst e
  exact here_ok h L RelDL.nil
theorem la_cons (ha : LE X W a da) (hr : LA X W es as) (hs : starEach (a :: es) X.env = (false, eval a X.env) :: starEach es X.env := by rfl) : LA X W (a :: es) (dCons da as) := by
  refine (pa_cons ha hr hs).imp fun σ H Q ⟨w, δ, μ, e, L, S, h⟩ => ?_
  refine ⟨w, δ, μ, e, L, S, Pst.bind h fun x v w1 μ1 E1 L1 r1 h1 => ?_⟩
  refine ⟨w1, δ, μ1, rfl, L1, S.ext L E1, Pst.bind h1 fun xs vs w2 μ2 E2 L2 r2 h2 => ?_⟩
  exact here_ok h2 L2 (RelDL.cons (RelD.ext L1 E2 _ _ r1) r2)
theorem la_star (ha : LE X W a da) (hr : LA X W es as) (hs : starEach (.Starred a p :: es) X.env = (true, eval a X.env) :: starEach es X.env := by rfl) : LA X W (.Starred a p :: es) (dStar da as) := by
  refine (StX.pa_star ha hr hs).imp fun σ H Q ⟨w, δ, μ, e, L, S, h⟩ => ?_
  refine ⟨w, δ, μ, e, L, S, Pst.bind h fun x v w1 μ1 E1 L1 r1 h1 => ?_⟩
  unfold apStar at h1
  split at h1
  · rename_i q eq
    have n := now_of L1 eq r1
    cases q with
    | list xs =>
      obtain ⟨b, vs, rfl, s1, _, l⟩ := n
      refine ⟨b, vs, rfl, .inr s1, ?_⟩
      refine ⟨w1, δ, μ1, rfl, L1, S.ext L E1, Pst.bind h1 fun ys us w2 μ2 E2 L2 r2 h2 => ?_⟩
      exact here_ok h2 L2 (RelDL.append (RelDL.ext L1 E2 _ _ (RelDL.map l)) r2)
    | tuple xs =>
      obtain ⟨b, vs, rfl, s1, _, l⟩ := n.tup
      refine ⟨b, vs, rfl, .inl s1, ?_⟩
      refine ⟨w1, δ, μ1, rfl, L1, S.ext L E1, Pst.bind h1 fun ys us w2 μ2 E2 L2 r2 h2 => ?_⟩
      exact here_ok h2 L2 (RelDL.append (RelDL.ext L1 E2 _ _ (RelDL.map l)) r2)
    | _ => exact h1.elim
  · exact h1.elim
theorem mkTup_ok {σ : L2.St} {Q : VK} {xs : List D} {vs : List V} (L : Live G w μ) (r : RelDL G w xs vs) (h : Pst G W σ (RelD G) Q w (mkTup xs μ)) : vs.length ≤ sizeLine ∧ ∀ p, w.H p = none → Q (.ref p) (upd w.H p (.tup vs)) := by
  unfold mkTup at h
  split at h
  · rename_i z
    refine ⟨by rw [← r.length]; exact z, fun p n => ?_⟩
    split at h
    · rename_i ps e
      exact newT_ok h L (RelDL.allT e r) (by rw [allT_length e]; exact z) n
    · refine h (.ref p) (w.put p (.tup vs)) (Ext.new L n) (Live.new L n) ?_
      rw [RelD]
      exact ⟨p, vs, rfl, .inl (.inl upd_same), z, RelDL.ext L (Ext.new L n) _ _ r⟩
  · exact h.elim
theorem mkLst_ok {σ : L2.St} {Q : VK} {live : Bool} {xs : List D} {vs : List V} (L : Live G w μ) (r : RelDL G w xs vs) (h : Pst G W σ (RelD G) Q w (mkLst live xs μ)) : vs.length ≤ sizeLine ∧ ∀ p, w.H p = none → Q (.ref p) (upd w.H p (.lst vs)) := by
  unfold mkLst at h
  split at h
  · rename_i z
    refine ⟨by rw [← r.length]; exact z, fun p n => ?_⟩
    split at h
    · rename_i ps e
      exact newL_ok h L (RelDL.allT e r) (by rw [allT_length e]; exact z) n
    · exact h.elim
  · exact h.elim
theorem le_tup {k : Nat} (h : LA X W es as) : LE X W (.Tuple es k pos) (dTup as) := by
  refine (pe_tup h).imp fun σ H Q ⟨w, δ, μ, e, L, S, h⟩ => ?_
  exact ⟨w, δ, μ, e, L, S, Pst.bind h fun x v w1 μ1 E1 L1 r1 h1 => mkTup_ok L1 r1 h1⟩
theorem le_lst (live : Bool) (h : LA X W es as) : LE X W (.List es pos) (dLst live as) := by
  refine (pe_lst h).imp fun σ H Q ⟨w, δ, μ, e, L, S, h⟩ => ?_
  exact ⟨w, δ, μ, e, L, S, Pst.bind h fun x v w1 μ1 E1 L1 r1 h1 => mkLst_ok L1 r1 h1⟩
end

/-! ## items, slices -/
def ixP : PyData → PyData → Option PyData
  | .list xs, .int i => atI xs i
  | .tuple xs, .int i => atI xs i
  | .str z, .int i => (atI z.cps.toList i).map fun c => .str ⟨#[c]⟩
  | _, _ => none
/-- a tuple that holds live lists -/
def apIx (x y : D) (μ : Mu) : R D := match x with
  | .tupR xs => match y with
    | .t (.int i) => match atI xs i with
      | some d => .ok d μ
      | none => .bad
    | _ => .bad
  | x => ap2 ixP x y μ
def dIx (a b : DE) : DE := fun δ μ => (a δ μ).bind fun x μ1 => (b δ μ1).bind fun y μ2 => apIx x y μ2
theorem one_sign (c : Nat) : (⟨#[c]⟩ : Str).length ≤ sizeLine := by
  rw [sizeLine_eq]
  show 1 ≤ 16777216
  decide
theorem atI_rel {G : Gd} {w : Wd} {ds : List PyData} {vs : List V} {i : Int} {d : PyData} (l : RelL G w ds vs) (e : atI ds i = some d) : ∃ v, atI vs i = some v ∧ Rel G w d v := by
  unfold atI at e ⊢
  rw [← l.length]
  cases q : ixN ds.length i with
  | none => rw [q] at e; cases e
  | some j =>
    rw [q] at e
    exact l.get e
theorem RelDL.get {G : Gd} {w : Wd} : ∀ {ds : List D} {vs : List V} {i : Nat} {d : D}, RelDL G w ds vs → ds[i]? = some d → ∃ v, vs[i]? = some v ∧ RelD G w d v
  | [], _, _, _, _, e => by simp at e
  | d :: ds, vs, i, x, h, e => by
    rw [RelDL] at h
    obtain ⟨v, r, rfl, h1, h2⟩ := h
    cases i with
    | zero => simp at e; subst e; exact ⟨v, rfl, h1⟩
    | succ i =>
      obtain ⟨u, q, z⟩ := RelDL.get (i := i) h2 (by simpa using e)
      exact ⟨u, by simpa using q, z⟩
theorem atI_relD {G : Gd} {w : Wd} {ds : List D} {vs : List V} {i : Int} {d : D} (l : RelDL G w ds vs) (e : atI ds i = some d) : ∃ v, atI vs i = some v ∧ RelD G w d v := by
  unfold atI at e ⊢
  rw [← l.length]
  cases q : ixN ds.length i with
  | none => rw [q] at e; cases e
  | some j =>
    rw [q] at e
    exact l.get e
section
variable {X : Cx} {W : WX} {a b : Expr} {da db : DE} {pos p2 : Pos} {lo hi : Option Expr} {dl dh : DO}
theorem ix_ok {G : Gd} {σ : L2.St} {w : Wd} {μ : Mu} {x y : D} {v u : V} {Q : VK} (L : Live G w μ) (r1 : RelD G w x v) (r2 : RelD G w y u) (h : Pst G W σ (RelD G) Q w (apIx x y μ)) : rIx G.K v u w.H Q := by
  have plain : Pst G W σ (RelD G) Q w (ap2 ixP x y μ) → rIx G.K v u w.H Q := fun h => by
    obtain ⟨p, q, d, e, n1, n2, hQ⟩ := ap2_ok (g := binaryOp .Add) L r1 r2 h
    unfold ixP at e
    split at e
    · obtain ⟨a, vs, rfl, s1, _, l⟩ := n1
      obtain ⟨t, q1, q2⟩ := atI_rel l e
      exact .inl ⟨a, vs, _, t, rfl, n2.int, s1, q1, hQ _ w (Ext.refl w) L q2⟩
    · obtain ⟨a, vs, rfl, s1, _, l⟩ := n1.tup
      obtain ⟨t, q1, q2⟩ := atI_rel l e
      exact .inr (.inl ⟨a, vs, _, t, rfl, n2.int, s1, q1, hQ _ w (Ext.refl w) L q2⟩)
    · obtain ⟨c, ec, rfl⟩ := Option.map_eq_some_iff.mp e
      exact .inr (.inr ⟨_, _, c, n1.str.1, n2.int, n1.str.2, ec, hQ _ w (Ext.refl w) L (Rel.str (one_sign c))⟩)
    · cases e
  cases x with
  | tupR xs =>
    simp only [apIx] at h
    split at h
    · rename_i i
      split at h
      · rename_i d e
        rw [RelD] at r1
        obtain ⟨a, vs, rfl, s1, _, l⟩ := r1
        obtain ⟨t, q1, q2⟩ := atI_relD l e
        rw [RelD, Rel] at r2
        exact .inr (.inl ⟨a, vs, i, t, rfl, r2, s1, q1, here_ok h L q2⟩)
      · exact h.elim
    · exact h.elim
  | t _ => exact plain h
  | fz _ => exact plain h
  | lst _ => exact plain h
  | ref _ => exact plain h
  | ty _ => exact plain h
  | glo _ => exact plain h
theorem le_ix (ha : LE X W a da) (hb : LE X W b db) (hs : PlainIx b := by exact fun _ _ => rfl) : LE X W (.Subscript a b pos) (dIx da db) := by
  refine (pe_ix ix_seq ha hb hs).imp fun σ H Q h => ?_
  exact two h fun w μ x y v u L r1 r2 h2 => ix_ok L r1 r2 h2
def cutP {α : Type} (xs : List α) (lo hi : Option Int) : List α := (xs.drop (HT.sIx xs.length 0 lo)).take (HT.sIx xs.length xs.length hi - HT.sIx xs.length 0 lo)
def dNoO : DO := fun _ μ => .ok none μ
def dSomeO (a : DE) : DO := fun δ μ => (a δ μ).bind fun x μ => match x with
  | .t (.int i) => .ok (some i) μ
  | _ => .bad
def apSl (live : Bool) (x : D) (l h : Option Int) (μ : Mu) : R D := match rd μ x with
  | some (.list xs) => newL live (cutP xs l h) μ
  | some (.tuple xs) => .ok (.t (.tuple (cutP xs l h))) μ
  | some (.str z) => .ok (.t (.str (cutS z l h))) μ
  | _ => .bad
def dSl (live : Bool) (a : DE) (l h : DO) : DE := fun δ μ => (a δ μ).bind fun x μ => (l δ μ).bind fun i μ => (h δ μ).bind fun j μ => apSl live x i j μ
theorem lo_none : LO X W none dNoO := po_none.imp fun σ H Q ⟨w, δ, μ, e, L, S, h⟩ => by
  subst e
  exact here_ok h L rfl
theorem lo_some (ha : LE X W a da) : LO X W (some a) (dSomeO da) := by
  refine (po_some ha).imp fun σ H Q ⟨w, δ, μ, e, L, S, h⟩ => ?_
  refine ⟨w, δ, μ, e, L, S, Pst.bind h fun x v w1 μ1 E1 L1 r1 h1 => ?_⟩
  split at h1
  · rw [RelD, Rel] at r1
    exact ⟨_, r1, here_ok h1 L1 rfl⟩
  · exact h1.elim
theorem cut_rel {G : Gd} {w : Wd} {ds : List PyData} {vs : List V} (l : RelL G w ds vs) (i j : Option Int) : RelL G w (cutP ds i j) (cutV vs i j) := by
  unfold cutP cutV
  rw [l.length]
  exact (l.drop _).take _
theorem cutP_length {α : Type} (xs : List α) (lo hi : Option Int) : (cutP xs lo hi).length ≤ xs.length := by
  unfold cutP
  rw [List.length_take, List.length_drop]
  omega
theorem cutP_whole {α : Type} (xs : List α) (lo hi : Option Int) (h : HT.sIx xs.length 0 lo = 0 ∧ HT.sIx xs.length xs.length hi = xs.length) : cutP xs lo hi = xs := by
  unfold cutP
  rw [h.1, h.2, List.drop_zero, Nat.sub_zero, List.take_length]
theorem sl_ok (live : Bool) {G : Gd} {σ : L2.St} {w : Wd} {μ : Mu} {x : D} {v : V} {i j : Option Int} {Q : VK} (L : Live G w μ) (r1 : RelD G w x v) (h : Pst G W σ (RelD G) Q w (apSl live x i j μ)) :
    rSlL G.K v i j w.H Q ∨ rSlA G.K v i j w.H Q ∨ rSlS v i j w.H Q := by
  unfold apSl at h
  split at h
  · rename_i xs e
    obtain ⟨a, vs, rfl, s1, z, l⟩ := now_of L e r1
    exact .inl ⟨a, vs, rfl, s1, fun p n => newL_ok h L (cut_rel l i j) (Nat.le_trans (cutP_length _ _ _) z) n⟩
  · rename_i xs e
    obtain ⟨a, vs, rfl, s1, z, l⟩ := (now_of L e r1).tup
    refine .inr (.inl ⟨a, vs, rfl, s1, fun q => ?_, fun _ p n => newT_ok h L (cut_rel l i j) (Nat.le_trans (cutP_length _ _ _) z) n⟩)
    refine here_ok h L (RelD.t ?_)
    rw [← l.length] at q
    rw [cutP_whole xs i j q, Rel]
    exact ⟨a, vs, rfl, s1, z, l⟩
  · rename_i z e
    obtain ⟨q1, q2⟩ := (now_of L e r1).str
    exact .inr (.inr ⟨z, q1, q2, here_ok h L (RelD.t (Rel.str (Nat.le_trans (cutS_length _ _ _) q2)))⟩)
  · exact h.elim
theorem le_sl (live : Bool) (ha : LE X W a da) (hl : LO X W lo dl) (hh : LO X W hi dh) : LE X W (.Subscript a (.Slice lo hi none p2) pos) (dSl live da dl dh) := by
  refine (pe_slice (sl_list.or (sl_tupA.or sl_str)) ha hl hh).imp fun σ H Q ⟨w, δ, μ, e, L, S, h⟩ => ?_
  refine ⟨w, δ, μ, e, L, S, Pst.bind h fun x v w1 μ1 E1 L1 r1 h1 => ?_⟩
  refine ⟨w1, δ, μ1, rfl, L1, S.ext L E1, Pst.bind h1 fun i i' w2 μ2 E2 L2 r2 h2 => ?_⟩
  refine ⟨w2, δ, μ2, rfl, L2, (S.ext L E1).ext L1 E2, Pst.bind h2 fun j j' w3 μ3 E3 L3 r3 h3 => ?_⟩
  subst r2 r3
  exact sl_ok live L3 (RelD.ext L2 E3 _ _ (RelD.ext L1 E2 _ _ r1)) h3
end
end TV

/-! TV, fifth part: defs, their calls; the law's own call. -/
namespace TV
open PySem PySem.Spec PyProof.Rows L2

/-! ## what a def does -/
def thaw (n0 : Nat) (μ : Mu) : D → Option PyData
  | .t x => some x
  | .lst k => if k < n0 then none else match μ[k]? with
    | some (.l xs) => some (.list xs)
    | _ => none
  | _ => none
def thawL (n0 : Nat) (μ : Mu) : List D → Option (List PyData)
  | [] => some []
  | x :: r => match thaw n0 μ x, thawL n0 μ r with
    | some p, some ps => some (p :: ps)
    | _, _ => none
/-- what is handed back: lists of the def's own become plain data, or the one live list -/
def gc (live : Bool) (n0 : Nat) (x : D) (μ : Mu) : R D := match x with
  | .t p => .ok (.t p) (μ.take n0)
  | .lst k => if k < n0 then .ok (.lst k) (μ.take n0) else match μ[k]? with
    | some (.l xs) => if live then .ok (.lst n0) (μ.take n0 ++ [.l xs]) else .ok (.t (.list xs)) (μ.take n0)
    | _ => .bad
  | .tupR xs => match thawL n0 μ xs with
    | some ps => .ok (.t (.tuple ps)) (μ.take n0)
    | none => .bad
  | _ => .bad
/-- a def of n parameters, m more names -/
def mkF (n m : Nat) (live : Bool) (body : DS) : DF := fun args μ => if args.length = n then (match body (args.map some ++ List.replicate m none) μ with
  | .rt x μ' => gc live μ.length x μ'
  | .nx _ μ' => gc live μ.length (.t .none) μ'
  | .ex c p _ μ' => .ex c p (μ'.take μ.length)
  | _ => .bad) else .bad
/-- its promise -/
def spL (G : Gd) (F : DF) : Sp := fun vs H Q E => ∃ w args μ, w.H = H ∧ Live G w μ ∧ RelDL G w args vs ∧ Pst G (fun c d _ H => E c d H) [] (RelD G) Q w (F args μ)
section
variable {G : Gd} {w₀ w : Wd} {μ₀ μ : Mu}
theorem xrel_cut {n : Nat} (h : n ≤ w.N) {p : Option (List (Str × PyData))} {d : Option Addr} (r : XRel G w p d) : XRel G (w.cut n) p d := by
  cases p with
  | none => cases d with
    | none => exact r
    | some a => exact r.elim
  | some fs => cases d with
    | none => exact r.elim
    | some a => exact (fun ⟨vfs, e, l⟩ => ⟨vfs, e, RelF.cut h fs vfs l⟩) r
theorem take_len (L0 : Live G w₀ μ₀) (L : Live G w μ) (E : Ext w₀ w) : μ₀.length ≤ w.N := by rw [L0.len]; exact E.le
/-- a list of the def's own, let go -/
theorem own_list (L0 : Live G w₀ μ₀) (L : Live G w μ) (E : Ext w₀ w) {k : Nat} {xs : List PyData} (hk : ¬ k < μ₀.length) (e : μ[k]? = some (.l xs)) : Rel G (w.cut μ₀.length) (.list xs) (.ref (w.m k)) := by
  obtain ⟨ho, z, hh⟩ := L.at_ k _ e
  have hkN : k < w.N := by have := (List.getElem?_eq_some_iff.mp e).1; rw [L.len] at this; exact this
  cases ho with
  | lst vs =>
    rw [Rel]
    refine ⟨_, vs, rfl, z, fun n hn q => ?_, hh.1, RelL.cut (take_len L0 L E) xs vs hh.2⟩
    have hn : n < μ₀.length := hn
    have := L.inj n k (Nat.lt_of_lt_of_le hn (take_len L0 L E)) hkN q
    omega
  | _ => exact hh.elim
theorem thaw_ok (L0 : Live G w₀ μ₀) (L : Live G w μ) (E : Ext w₀ w) {x : D} {p : PyData} {v : V} (h : thaw μ₀.length μ x = some p) (r : RelD G w x v) : Rel G (w.cut μ₀.length) p v := by
  cases x with
  | t y =>
    cases h
    rw [RelD] at r
    exact Rel.cut (take_len L0 L E) _ _ r
  | lst k =>
    rw [RelD] at r
    simp only [thaw] at h
    split at h
    · cases h
    · rename_i hk
      split at h
      · rename_i xs e
        cases h
        rw [r.2]
        exact own_list L0 L E hk e
      · cases h
  | fz _ => cases h
  | tupR _ => cases h
  | ref _ => cases h
  | ty _ => cases h
  | glo _ => cases h
theorem thawL_ok (L0 : Live G w₀ μ₀) (L : Live G w μ) (E : Ext w₀ w) : ∀ {xs : List D} {ps : List PyData} {vs : List V}, thawL μ₀.length μ xs = some ps → RelDL G w xs vs → RelL G (w.cut μ₀.length) ps vs ∧ ps.length = xs.length
  | [], ps, vs, h, r => by
    cases h
    rw [RelDL] at r; subst r
    exact ⟨RelL.nil, rfl⟩
  | x :: xs, ps, vs, h, r => by
    rw [RelDL] at r
    obtain ⟨v, r', rfl, h1, h2⟩ := r
    rw [thawL] at h
    split at h
    · rename_i p qs e1 e2
      cases h
      obtain ⟨a, b⟩ := thawL_ok L0 L E e2 h2
      exact ⟨RelL.cons (thaw_ok L0 L E e1 h1) a, by rw [List.length_cons, List.length_cons, b]⟩
    · cases h
/-- the one live list keeps living, at the first place -/
theorem keep_one {W : WX} {σ : L2.St} {v : V} {Q : VK} (L0 : Live G w₀ μ₀) (L : Live G w μ) (E : Ext w₀ w) {k : Nat} {xs : List PyData} (hk : ¬ k < μ₀.length) (e : μ[k]? = some (.l xs)) (r : v = .ref (w.m k))
    (h : Pst G W σ (RelD G) Q w₀ (.ok (.lst μ₀.length) (μ.take μ₀.length ++ [.l xs]))) : Q v w.H := by
  have hle := take_len L0 L E
  have hN : w₀.N = μ₀.length := L0.len.symm
  obtain ⟨ho, z, hh⟩ := L.at_ k _ e
  have hkN : k < w.N := by have := (List.getElem?_eq_some_iff.mp e).1; rw [L.len] at this; exact this
  obtain ⟨w2, e2⟩ : ∃ w2 : Wd, w2 = ⟨w.H, fun n => if n = μ₀.length then w.m k else w.m n, μ₀.length + 1⟩ := ⟨_, rfl⟩
  have hH : w2.H = w.H := by rw [e2]
  have hn2 : w2.N = μ₀.length + 1 := by rw [e2]
  have ml : ∀ n, n < μ₀.length → w2.m n = w.m n := fun n hn => by rw [e2]; exact if_neg (Nat.ne_of_lt hn)
  have mt : w2.m μ₀.length = w.m k := by rw [e2]; exact if_pos rfl
  -- each live place of w2 is one of w's
  have old : ∀ n, n < w2.N → ∃ j, j < w.N ∧ w2.m n = w.m j ∧ (n < μ₀.length → j = n) ∧ (n = μ₀.length → j = k) := fun n hn => by
    rw [hn2] at hn
    by_cases q : n = μ₀.length
    · exact ⟨k, hkN, by rw [q, mt], fun z => by omega, fun _ => rfl⟩
    · have q3 : n < μ₀.length := by omega
      exact ⟨n, Nat.lt_of_lt_of_le q3 hle, ml n q3, fun _ => rfl, fun z => absurd z q⟩
  have off : ∀ a, w.off a → w2.off a := fun a f n hn => by
    obtain ⟨j, hj, ej, _⟩ := old n hn
    rw [ej]
    exact f j hj
  have E2 : Ext w₀ w2 := by
    refine ⟨by rw [hn2, hN]; exact Nat.le_succ _, fun n hn => ?_, fun a o q f => ⟨by rw [hH]; exact (E.keep a o q f).1, off a (E.keep a o q f).2⟩⟩
    rw [ml n (by rw [← hN]; exact hn)]
    exact E.ms n hn
  have L2 : Live G w2 (μ.take μ₀.length ++ [.l xs]) := by
    refine ⟨by rw [List.length_append, List.length_take, L.len, hn2, Nat.min_eq_left hle]; rfl, fun i j hi hj q => ?_, fun i u q => ?_⟩
    · obtain ⟨i', hi', ei, i1, i2⟩ := old i hi
      obtain ⟨j', hj', ej, j1, j2⟩ := old j hj
      have q2 := L.inj i' j' hi' hj' (by rw [← ei, ← ej]; exact q)
      rw [hn2] at hi hj
      by_cases ci : i < μ₀.length
      · by_cases cj : j < μ₀.length
        · rw [← i1 ci, ← j1 cj]; exact q2
        · have e1 := i1 ci
          have e2 := j2 (by omega)
          omega
      · by_cases cj : j < μ₀.length
        · have e1 := i2 (by omega)
          have e2 := j1 cj
          omega
        · omega
    · have tl : (μ.take μ₀.length).length = μ₀.length := by rw [List.length_take, L.len, Nat.min_eq_left hle]
      by_cases ci : i < μ₀.length
      · rw [List.getElem?_append_left (by rw [tl]; exact ci), List.getElem?_take, if_pos ci] at q
        obtain ⟨o', z', r'⟩ := L.at_ i u q
        exact ⟨o', by rw [hH, ml i ci]; exact z', Holds.re hH off r'⟩
      · rw [List.getElem?_append_right (by rw [tl]; omega), tl] at q
        have ei : i = μ₀.length := by
          have := (List.getElem?_eq_some_iff.mp q).1
          simp at this
          omega
        subst ei
        simp at q
        subst q
        exact ⟨ho, by rw [hH, mt]; exact z, Holds.re hH off hh⟩
  have fin := h v w2 E2 L2 (by rw [RelD]; exact ⟨by rw [hn2]; exact Nat.lt_succ_self _, by rw [mt]; exact r⟩)
  rw [hH] at fin
  exact fin
theorem gc_ok {W : WX} {σ : L2.St} {live : Bool} {x : D} {v : V} {Q : VK} (L0 : Live G w₀ μ₀) (L : Live G w μ) (E : Ext w₀ w) (r : RelD G w x v) (h : Pst G W σ (RelD G) Q w₀ (gc live μ₀.length x μ)) : Q v w.H := by
  have hle := take_len L0 L E
  have hN : w₀.N ≤ μ₀.length := Nat.le_of_eq L0.len.symm
  have LC := L.cut hle
  have EC := E.cut hN hle
  cases x with
  | t p =>
    rw [RelD] at r
    exact h v (w.cut μ₀.length) EC LC (RelD.t (Rel.cut hle _ _ r))
  | lst k =>
    simp only [gc] at h
    rw [RelD] at r
    split at h
    · rename_i hk
      exact h v (w.cut μ₀.length) EC LC (by rw [RelD]; exact ⟨hk, r.2⟩)
    · rename_i hk
      split at h
      · rename_i xs e
        split at h
        · exact keep_one L0 L E hk e r.2 h
        · exact h v (w.cut μ₀.length) EC LC (RelD.t (by rw [r.2]; exact own_list L0 L E hk e))
      · exact h.elim
  | tupR xs =>
    simp only [gc] at h
    split at h
    · rename_i ps e
      rw [RelD] at r
      obtain ⟨a, vs, rfl, s1, z, l⟩ := r
      obtain ⟨q1, q2⟩ := thawL_ok L0 L E e l
      refine h (.ref a) (w.cut μ₀.length) EC LC (RelD.t ?_)
      rw [Rel]
      exact ⟨a, vs, rfl, s1, by rw [q2]; exact z, q1⟩
    · exact h.elim
  | fz _ => exact h.elim
  | ref _ => exact h.elim
  | ty _ => exact h.elim
  | glo _ => exact h.elim
end
end TV

/-! TV, sixth part: statements, loops, comprehensions. -/
namespace TV
open PySem PySem.Spec PyProof.Rows L2

section
variable {α β γ ε : Type} {G : Gd} {W : WX} {σ : L2.St} {rel : Wd → α → β → Prop} {w w' : Wd} {μ : Mu} {δ : Sl} {Dn : Ends}
def PstS (G : Gd) (W : WX) (Dn : Ends) (w : Wd) : RS → Prop
  | .nx δ μ => ∀ σ' w', Ext w w' → Live G w' μ → Slots G w' δ σ' → Dn.nx σ' w'.H
  | .bk δ μ => ∀ σ' w', Ext w w' → Live G w' μ → Slots G w' δ σ' → Dn.bk σ' w'.H
  | .ct δ μ => ∀ σ' w', Ext w w' → Live G w' μ → Slots G w' δ σ' → Dn.ct σ' w'.H
  | .rt x μ => ∀ v w', Ext w w' → Live G w' μ → RelD G w' x v → Dn.rt v w'.H
  | .ex c p δ μ => ∀ C d σ' w', G.mg c = some (.ref C) → Ext w w' → Live G w' μ → Slots G w' δ σ' → XRel G w' p d → W (.ref C) d σ' w'.H
  | .bad => False
theorem PstS.ext {r : RS} (E : Ext w w') (h : PstS G W Dn w r) : PstS G W Dn w' r := by
  cases r with
  | nx δ μ => exact fun σ' w2 E2 => h σ' w2 (E.trans E2)
  | bk δ μ => exact fun σ' w2 E2 => h σ' w2 (E.trans E2)
  | ct δ μ => exact fun σ' w2 E2 => h σ' w2 (E.trans E2)
  | rt x μ => exact fun σ' w2 E2 => h σ' w2 (E.trans E2)
  | ex c p δ μ => exact fun C d σ' w2 g E2 => h C d σ' w2 g (E.trans E2)
  | bad => exact h
theorem PstS.bind {P : β → Hp → Prop} {r : R α} {k : α → Mu → RS} {μ₀ : Mu} (L : Live G w μ₀) (S : Slots G w δ σ) (h : PstS G W Dn w (r.toS δ k))
    (hk : ∀ x v w' μ', Ext w w' → Live G w' μ' → rel w' x v → PstS G W Dn w' (k x μ') → P v w'.H) : Pst G W σ rel P w r := by
  cases r with
  | ok x μ' => exact fun v w2 E2 L2 r2 => hk x v w2 μ' E2 L2 r2 (PstS.ext E2 h)
  | ex c p μ' => exact fun C d w2 g E2 L2 x2 => h C d σ w2 g E2 L2 (S.ext L E2) x2
  | bad => exact h
def liftS (G : Gd) (W : WX) (s : DS) : TS := fun Dn σ H => ∃ w δ μ, w.H = H ∧ Live G w μ ∧ Slots G w δ σ ∧ PstS G W Dn w (s δ μ)
end
theorem _root_.L2.PS.imp {X : Cx} {e : Stmt} {t t' : TS} (h : PS X e t) (f : ∀ D σ H, t' D σ H → t D σ H) : PS X e t' := ⟨fun pins s σ H D I q => h.run pins s σ H D I (f _ _ _ q)⟩
theorem _root_.L2.PSs.imp {X : Cx} {e : List Stmt} {t t' : TS} (h : PSs X e t) (f : ∀ D σ H, t' D σ H → t D σ H) : PSs X e t' := ⟨fun pins s σ H D I q => h.run pins s σ H D I (f _ _ _ q)⟩
theorem _root_.L2.PG.imp {X : Cx} {e : Expr} {t t' : TG} (h : PG X e t) (f : ∀ v σ H Q, t' v σ H Q → t v σ H Q) : PG X e t' := ⟨fun pins s σ H v u Q I r q => h.run pins s σ H v u Q I r (f _ _ _ _ q)⟩
theorem _root_.L2.PI.imp {X : Cx} {tg e : Expr} {t t' : TI} (h : PI X tg e t) (f : ∀ σ H R, t' σ H R → t σ H R) : PI X tg e t' := ⟨fun pins s σ H R I q => h.run pins s σ H R I (f _ _ _ q)⟩
abbrev LS (X : Cx) (W : WX) (st : Stmt) (s : DS) : Prop := PS X st (liftS (gx X) W s)
abbrev LSs (X : Cx) (W : WX) (st : List Stmt) (s : DS) : Prop := PSs X st (liftS (gx X) W s)

/-! ## plain statements -/
def sSkip : DS := fun δ μ => .nx δ μ
def sSeq (a b : DS) : DS := fun δ μ => (a δ μ).seq b
def sExpr (d : DE) : DS := fun δ μ => (d δ μ).toS δ fun _ μ => .nx δ μ
def sRet (d : DE) : DS := fun δ μ => (d δ μ).toS δ fun x μ => .rt x μ
def sRetN : DS := fun _ μ => .rt (.t .none) μ
def sIf (c : DT) (a b : DS) : DS := fun δ μ => (c δ μ).toS δ fun k μ => if k then a δ μ else b δ μ
def sBreak : DS := fun δ μ => .bk δ μ
def sCont : DS := fun δ μ => .ct δ μ
section
variable {X : Cx} {W : WX} {e c : Expr} {d : DE} {t : DT} {s s' : DS} {st : Stmt} {rest body orelse : List Stmt} {pos : Pos}
theorem lss_nil : LSs X W [] sSkip := pss_nil.imp fun D σ H ⟨w, δ, μ, e, L, S, h⟩ => by
  subst e
  exact h σ w (Ext.refl w) L S
theorem lss_cons (h1 : LS X W st s) (h2 : LSs X W rest s') : LSs X W (st :: rest) (sSeq s s') := by
  refine (pss_cons h1 h2).imp fun Dn σ H ⟨w, δ, μ, e, L, S, h⟩ => ?_
  refine ⟨w, δ, μ, e, L, S, ?_⟩
  unfold sSeq at h
  cases q : s δ μ with
  | nx δ' μ' =>
    rw [q] at h
    exact fun σ' w' E L' S' => ⟨w', δ', μ', rfl, L', S', PstS.ext E h⟩
  | bk δ' μ' => rw [q] at h; exact h
  | ct δ' μ' => rw [q] at h; exact h
  | rt x μ' => rw [q] at h; exact h
  | ex c p δ' μ' => rw [q] at h; exact h
  | bad => rw [q] at h; exact h
theorem lss_one (h1 : LS X W st s) : LSs X W [st] s := pss_one h1
theorem ls_pass : LS X W (.Pass pos) sSkip := ps_pass.imp fun D σ H ⟨w, δ, μ, e, L, S, h⟩ => by
  subst e
  exact h σ w (Ext.refl w) L S
theorem ls_break : LS X W (.Break pos) sBreak := ps_break.imp fun D σ H ⟨w, δ, μ, e, L, S, h⟩ => by
  subst e
  exact h σ w (Ext.refl w) L S
theorem ls_cont : LS X W (.Continue pos) sCont := ps_continue.imp fun D σ H ⟨w, δ, μ, e, L, S, h⟩ => by
  subst e
  exact h σ w (Ext.refl w) L S
theorem ls_expr (he : LE X W e d) (hs : swapsWith e none pos.line X.env = pure false := by rfl) : LS X W (.Expr e pos) (sExpr d) := by
  refine (ps_expr he hs).imp fun Dn σ H ⟨w, δ, μ, e, L, S, h⟩ => ?_
  refine ⟨w, δ, μ, e, L, S, PstS.bind L S h fun x v w' μ' E L' r h' => ?_⟩
  exact h' σ w' (Ext.refl w') L' (S.ext L E)
theorem ls_ret (he : LE X W e d) : LS X W (.Return (some e) pos) (sRet d) := by
  refine (ps_ret he).imp fun Dn σ H ⟨w, δ, μ, e, L, S, h⟩ => ?_
  refine ⟨w, δ, μ, e, L, S, PstS.bind L S h fun x v w' μ' E L' r h' => ?_⟩
  exact h' v w' (Ext.refl w') L' r
theorem ls_retN : LS X W (.Return none pos) sRetN := ps_retN.imp fun D σ H ⟨w, δ, μ, e, L, S, h⟩ => by
  subst e
  exact h .non w (Ext.refl w) L (RelD.t Rel.nil_)
theorem ls_if (hc : LT X W c t) (ha : LSs X W body s) (hb : LSs X W orelse s') : LS X W (.If c body orelse pos) (sIf t s s') := by
  refine (ps_if hc ha hb).imp fun Dn σ H ⟨w, δ, μ, e, L, S, h⟩ => ?_
  refine ⟨w, δ, μ, e, L, S, PstS.bind L S h fun x v w' μ' E L' r h' => ?_⟩
  subst r
  cases v with
  | true => exact ⟨w', δ, μ', rfl, L', S.ext L E, h'⟩
  | false => exact ⟨w', δ, μ', rfl, L', S.ext L E, h'⟩
end

/-! ## targets -/
abbrev DG := D → Sl → Mu → RS
/-- what is stored changes the slots ws alone -/
def PstG (G : Gd) (W : WX) (σ : L2.St) (ws : List Nat) (Q : L2.St → Hp → Prop) (w : Wd) : RS → Prop
  | .nx δ μ => ∀ σ' w', σ'.length = σ.length → (∀ j, j ∉ ws → σ'[j]? = σ[j]?) → Ext w w' → Live G w' μ → Slots G w' δ σ' → Q σ' w'.H
  | .ex c p δ μ => ∀ C d σ' w', G.mg c = some (.ref C) → Ext w w' → Live G w' μ → Slots G w' δ σ' → XRel G w' p d → W (.ref C) d σ' w'.H
  | _ => False
def liftG (G : Gd) (W : WX) (ws : List Nat) (g : DG) : TG := fun v σ H Q => ∃ w δ μ x, w.H = H ∧ Live G w μ ∧ Slots G w δ σ ∧ RelD G w x v ∧ PstG G W σ ws Q w (g x δ μ)
abbrev LG (X : Cx) (W : WX) (tg : Expr) (ws : List Nat) (g : DG) : Prop := PG X tg (liftG (gx X) W ws g)
def gN (i : Nat) : DG := fun x δ μ => .nx (δ.set i (some x)) μ
/-- several targets, one after another -/
def gAll : List DG → List D → Sl → Mu → RS
  | [], [], δ, μ => .nx δ μ
  | g :: gs, x :: xs, δ, μ => match g x δ μ with
    | .nx δ' μ' => gAll gs xs δ' μ'
    | .ex c p δ' μ' => .ex c p δ' μ'
    | _ => .bad
  | _, _, _, _ => .bad
def tupItems : D → Option (List D)
  | .t (.tuple xs) => some (xs.map .t)
  | .tupR xs => some xs
  | _ => none
def gT (gs : List DG) : DG := fun x δ μ => match tupItems x with
  | some xs => if xs.length = gs.length then gAll gs xs δ μ else .bad
  | none => .bad
def sAsg (d : DE) (g : DG) : DS := fun δ μ => (d δ μ).toS δ fun x μ => g x δ μ
theorem Slots.set {G : Gd} {w : Wd} {δ : Sl} {σ : L2.St} {x : D} {v : V} (S : Slots G w δ σ) (r : RelD G w x v) (i : Nat) : Slots G w (δ.set i (some x)) (σ.set i (some v)) := by
  refine ⟨by rw [List.length_set, List.length_set]; exact S.1, fun j d e => ?_⟩
  by_cases h : i = j
  · subst h
    by_cases hl : i < δ.length
    · rw [List.getElem?_set_self hl] at e
      cases e
      exact ⟨v, List.getElem?_set_self (by rw [← S.1]; exact hl), r⟩
    · rw [List.getElem?_eq_none (by rw [List.length_set]; omega)] at e
      cases e
  · rw [List.getElem?_set_ne h] at e
    obtain ⟨u, q, r'⟩ := S.2 j d e
    exact ⟨u, by rw [List.getElem?_set_ne h]; exact q, r'⟩
section
variable {X : Cx} {W : WX} {e : Expr} {d : DE} {pos : Pos}
theorem lg_name (i : Nat) {x : Str} (hN : X.N.Nodup) (hi : X.N[i]? = some x) (hx : Loc X.env.scope x) (hf : X.fn x = true ∨ X.env.scope.names.lookup x = some .local := by first | exact .inl rfl | exact .inr rfl | assumption) : LG X W (.Name x pos) [i] (gN i) := by
  refine (pg_name hN hi hx hf).imp fun v σ H Q ⟨w, δ, μ, x, e, L, S, r, h⟩ => ?_
  subst e
  refine h (σ.set i (some v)) w (List.length_set ..) (fun j hj => ?_) (Ext.refl w) L (S.set r i)
  rw [List.getElem?_set_ne]
  intro z
  exact hj (by rw [z]; exact List.mem_singleton.mpr rfl)
/-- several -/
def LGs (X : Cx) (W : WX) (ts : List Expr) (ws : List Nat) (gs : List DG) : Prop :=
  PGs X ts (fun vs σ H Q => ∃ w δ μ xs, w.H = H ∧ Live (gx X) w μ ∧ Slots (gx X) w δ σ ∧ RelDL (gx X) w xs vs ∧ PstG (gx X) W σ ws Q w (gAll gs xs δ μ))
theorem _root_.L2.PGs.imp {X : Cx} {e : List Expr} {t t' : TGs} (h : PGs X e t) (f : ∀ v σ H Q, t' v σ H Q → t v σ H Q) : PGs X e t' := ⟨fun pins s σ H v u Q I r q => h.run pins s σ H v u Q I r (f _ _ _ _ q)⟩
theorem lgs_nil : LGs X W [] [] [] := by
  refine pgs_nil.imp fun vs σ H Q ⟨w, δ, μ, xs, e, L, S, r, h⟩ => ?_
  subst e
  cases xs with
  | nil =>
    rw [RelDL] at r
    subst r
    exact ⟨rfl, h σ w rfl (fun _ _ => rfl) (Ext.refl w) L S⟩
  | cons x xs => exact h.elim
theorem lgs_cons {t : Expr} {ts : List Expr} {ws ws' : List Nat} {g : DG} {gs : List DG} (h1 : LG X W t ws g) (h2 : LGs X W ts ws' gs)
    (hs : (assignEach (t :: ts) X.env).map (·.2) = assign t X.env :: (assignEach ts X.env).map (·.2) := by rfl) : LGs X W (t :: ts) (ws ++ ws') (g :: gs) := by
  refine (pgs_cons h1 h2 hs).imp fun vs σ H Q ⟨w, δ, μ, xs, e, L, S, r, h⟩ => ?_
  cases xs with
  | nil => exact h.elim
  | cons x xs =>
    rw [RelDL] at r
    obtain ⟨v, vr, rfl, r1, r2⟩ := r
    refine ⟨v, vr, rfl, w, δ, μ, x, e, L, S, r1, ?_⟩
    rw [gAll] at h
    cases q : g x δ μ with
    | nx δ' μ' =>
      rw [q] at h
      intro σ' w' hl hj E L' S'
      refine ⟨w', δ', μ', xs, rfl, L', S', RelDL.ext L E _ _ r2, ?_⟩
      have h : PstG (gx X) W σ (ws ++ ws') Q w (gAll gs xs δ' μ') := h
      cases q2 : gAll gs xs δ' μ' with
      | nx δ2 μ2 =>
        rw [q2] at h
        intro σ2 w2 hl2 hj2 E2 L2 S2
        refine h σ2 w2 (hl2.trans hl) (fun j hm => ?_) (E.trans E2) L2 S2
        rw [List.mem_append, not_or] at hm
        exact (hj2 j hm.2).trans (hj j hm.1)
      | ex c p δ2 μ2 =>
        rw [q2] at h
        exact fun C d σ2 w2 g2 E2 => h C d σ2 w2 g2 (E.trans E2)
      | bk _ _ => rw [q2] at h; exact h
      | ct _ _ => rw [q2] at h; exact h
      | rt _ _ => rw [q2] at h; exact h
      | bad => rw [q2] at h; exact h
    | ex c p δ' μ' => rw [q] at h; exact h
    | bk _ _ => rw [q] at h; exact h
    | ct _ _ => rw [q] at h; exact h
    | rt _ _ => rw [q] at h; exact h
    | bad => rw [q] at h; exact h
theorem lg_tup {es : List Expr} {k : Nat} {ws : List Nat} {gs : List DG} (hc : X.calm = true) (h : LGs X W es ws gs)
    (hn : (assignEach es X.env).length = gs.length := by rfl) (hst : (assignEach es X.env).findIdx? (·.1) = none := by rfl) : LG X W (.Tuple es k pos) ws (gT gs) := by
  refine (pg_tup hc h hn hst).imp fun v σ H Q ⟨w, δ, μ, x, e, L, S, r, h⟩ => ?_
  unfold gT at h
  split at h
  · rename_i xs e1
    split at h
    · rename_i hl
      have key : ∃ a vs, v = .ref a ∧ SqT X.K w.H a vs ∧ RelDL (gx X) w xs vs := by
        cases x with
        | t y =>
          cases y with
          | tuple ys =>
            cases e1
            rw [RelD] at r
            obtain ⟨a, vs, rfl, s1, _, l⟩ := Now.tup r
            exact ⟨a, vs, rfl, s1, RelDL.map l⟩
          | _ => cases e1
        | tupR ys =>
          cases e1
          rw [RelD] at r
          obtain ⟨a, vs, rfl, s1, _, l⟩ := r
          exact ⟨a, vs, rfl, s1, l⟩
        | _ => cases e1
      obtain ⟨a, vs, rfl, s1, l⟩ := key
      subst e
      exact ⟨a, vs, rfl, s1, by rw [← l.length]; exact hl, w, δ, μ, xs, rfl, L, S, l, h⟩
    · exact h.elim
  · exact h.elim
/-- target = value -/
theorem asg_ok {G : Gd} {Dn : Ends} {ws : List Nat} {σ : L2.St} {w : Wd} {r : RS} (h : PstS G W Dn w r) (hr : ∀ δ μ, r ≠ .bk δ μ) (hr2 : ∀ δ μ, r ≠ .ct δ μ) (hr3 : ∀ x μ, r ≠ .rt x μ) : PstG G W σ ws Dn.nx w r := by
  cases r with
  | nx δ μ => exact fun σ' w' _ _ E L S => h σ' w' E L S
  | ex c p δ μ => exact h
  | bk δ μ => exact absurd rfl (hr δ μ)
  | ct δ μ => exact absurd rfl (hr2 δ μ)
  | rt x μ => exact absurd rfl (hr3 x μ)
  | bad => exact h
/-- a store's answers alone -/
def onlyG (r : RS) : RS := match r with
  | .nx δ μ => .nx δ μ
  | .ex c p δ μ => .ex c p δ μ
  | _ => .bad
theorem onlyG_ok {G : Gd} {Dn : Ends} {ws : List Nat} {σ : L2.St} {w : Wd} {r : RS} (h : PstS G W Dn w (onlyG r)) : PstG G W σ ws Dn.nx w r := by
  cases r with
  | nx δ μ => exact fun σ' w' _ _ E L S => h σ' w' E L S
  | ex c p δ μ => exact h
  | bk δ μ => exact h
  | ct δ μ => exact h
  | rt x μ => exact h
  | bad => exact h
theorem ls_asg {tg : Expr} {ws : List Nat} {g : DG} (he : LE X W e d) (hg : LG X W tg ws g) (hs : swapsWithSole [tg] e pos.line X.env = pure false := by rfl) (hw : swappedStores [tg] e X.env = pure none := by rfl)
    (h1 : (assignEach [tg] X.env).map (·.2) = [assign tg X.env] := by rfl) : LS X W (.Assign [tg] e pos) (sAsg d fun x δ μ => onlyG (g x δ μ)) := by
  refine (ps_asg he hg hs hw h1).imp fun Dn σ H ⟨w, δ, μ, e, L, S, h⟩ => ?_
  refine ⟨w, δ, μ, e, L, S, PstS.bind L S h fun x v w' μ' E L' r h' => ?_⟩
  exact ⟨w', δ, μ', x, rfl, L', S.ext L E, r, onlyG_ok h'⟩
def sSet (i : Nat) (d : DE) : DS := fun δ μ => (d δ μ).toS δ fun x μ => .nx (δ.set i (some x)) μ
theorem ls_set {i : Nat} {x : Str} {pos' : Pos} (hN : X.N.Nodup) (hi : X.N[i]? = some x) (hx : Loc X.env.scope x) (he : LE X W e d) (hs : swapsWith e (some (.Name x pos')) pos.line X.env = pure false := by rfl)
    (hf : X.fn x = true ∨ X.env.scope.names.lookup x = some .local := by first | exact .inl rfl | exact .inr rfl | assumption) : LS X W (.Assign [.Name x pos'] e pos) (sSet i d) := by
  refine (ps_set hN hi hx he hs hf).imp fun Dn σ H ⟨w, δ, μ, e, L, S, h⟩ => ?_
  refine ⟨w, δ, μ, e, L, S, PstS.bind L S h fun x v w' μ' E L' r h' => ?_⟩
  exact h' _ w' (Ext.refl w') L' ((S.ext L E).set r i)
/-- a, b = x, y -/
def sPar (i j : Nat) (as : DA) : DS := fun δ μ => (as δ μ).toS δ fun xs μ => match xs with
  | [x, y] => .nx ((δ.set i (some x)).set j (some y)) μ
  | _ => .bad
theorem ls_par {i j : Nat} {x y : Str} {a b : Expr} {as : DA} {px py pt : Pos} {kt k2 : Nat} {pt2 : Pos} (hc : X.calm = true) (hN : X.N.Nodup) (hi : X.N[i]? = some x) (hj : X.N[j]? = some y) (hij : i ≠ j)
    (hx : X.env.scope.names.lookup x = some .local) (hy : X.env.scope.names.lookup y = some .local) (ha : LA X W [a, b] as)
    (hw : swappedStores [.Tuple [.Name x px, .Name y py] kt pt] (.Tuple [a, b] k2 pt2) X.env = pure (some [x, y]) := by rfl)
    (hs : swapsWithSole [.Tuple [.Name x px, .Name y py] kt pt] (.Tuple [a, b] k2 pt2) pos.line X.env = pure false := by rfl) :
    LS X W (.Assign [.Tuple [.Name x px, .Name y py] kt pt] (.Tuple [a, b] k2 pt2) pos) (sPar i j as) := by
  refine (ps_par hc hN hi hj hij hx hy ha hw hs).imp fun Dn σ H ⟨w, δ, μ, e, L, S, h⟩ => ?_
  refine ⟨w, δ, μ, e, L, S, PstS.bind L S h fun xs vs w' μ' E L' r h' => ?_⟩
  split at h'
  · rename_i p q
    rw [RelDL] at r
    obtain ⟨v1, r1, rfl, q1, r⟩ := r
    rw [RelDL] at r
    obtain ⟨v2, r2, rfl, q2, r⟩ := r
    rw [RelDL] at r
    subst r
    exact ⟨v1, v2, rfl, h' _ w' (Ext.refl w') L' (((S.ext L E).set q1 i).set q2 j)⟩
  · exact h'.elim
/-- name op= e -/
def sAug (i : Nat) (f : PyData → PyData → Option PyData) (d : DE) : DS := fun δ μ => match δ[i]? with
  | some (some x) => (d δ μ).toS δ fun y μ => (ap2 f x y μ).toS δ fun z μ => .nx (δ.set i (some z)) μ
  | _ => .bad
theorem ls_aug {i : Nat} {x : Str} {op : Operator} {pos' : Pos} {f : PyData → PyData → Option PyData} (hN : X.N.Nodup) (hi : X.N[i]? = some x) (hx : Loc X.env.scope x) (he : LE X W e d) (ho : Op2 X (inplaceOp op) f)
    (hf : X.fn x = true ∨ X.env.scope.names.lookup x = some .local := by first | exact .inl rfl | exact .inr rfl | assumption) : LS X W (.AugAssign (.Name x pos') op e pos) (sAug i f d) := by
  obtain ⟨r, o, k⟩ := ho
  refine (ps_aug hN hi hx he (ti := r) (fun pins s σ H x y v u Q I r1 r2 h => o pins s σ H x y v u Q I r1 r2 h) hf).imp fun Dn σ H ⟨w, δ, μ, e, L, S, h⟩ => ?_
  unfold sAug at h
  split at h
  · rename_i x0 ex
    obtain ⟨v0, q0, r0⟩ := S.2 i x0 ex
    refine ⟨v0, q0, w, δ, μ, e, L, S, PstS.bind L S h fun y u w' μ' E L' ry h' => ?_⟩
    have h2 := PstS.bind (rel := RelD (gx X)) (P := fun z H2 => Dn.nx (σ.set i (some z)) H2) L' (S.ext L E) h' fun z v w2 μ2 E2 L2 rz h2 => h2 _ w2 (Ext.refl w2) L2 (((S.ext L E).ext L' E2).set rz i)
    obtain ⟨p, q, dd, e1, n1, n2, hQ⟩ := ap2_ok (g := inplaceOp op) L' (RelD.ext L E _ _ r0) ry h2
    exact k w' μ' p q dd v0 u _ L' e1 n1 n2 hQ
  · exact h.elim
def fAddI : PyData → PyData → Option PyData
  | .int i, .int j => some (.int (i + j))
  | _, _ => none
theorem io_add : Op2 X (inplaceOp .Add) fAddI := by
  refine ⟨_, iop_add, fun w μ p q d x y Q L e hp hq hQ => ?_⟩
  unfold fAddI at e
  split at e
  · cases e
    exact ⟨_, _, hp.int, hq.int, hQ _ w (Ext.refl w) L (Rel.int _)⟩
  · cases e
theorem io_sub : Op2 X (inplaceOp .Sub) fSub := by
  refine ⟨_, iop_sub, fun w μ p q d x y Q L e hp hq hQ => ?_⟩
  unfold fSub at e
  split at e
  · cases e
    exact ⟨_, _, hp.int, hq.int, hQ _ w (Ext.refl w) L (Rel.int _)⟩
  · cases e
/-- o[i] = e, o a live list -/
def gSub (a b : DE) : DG := fun x δ μ => (a δ μ).toS δ fun o μ => (b δ μ).toS δ fun i μ => match o, i, x with
  | .lst n, .t (.int k), .t p => match μ[n]? with
    | some (.l xs) => match ixN xs.length k with
      | some j => .nx δ (μ.set n (.l (xs.set j p)))
      | none => .bad
    | _ => .bad
  | _, _, _ => .bad
theorem toG_ok {α β : Type} {rel : Wd → α → β → Prop} {G : Gd} {σ : L2.St} {ws : List Nat} {Q : L2.St → Hp → Prop} {P : β → Hp → Prop} {w : Wd} {r : R α} {k : α → Mu → RS} {μ₀ : Mu} {δ : Sl} (L : Live G w μ₀) (S : Slots G w δ σ) (h : PstG G W σ ws Q w (r.toS δ k))
    (hk : ∀ x v w' μ', Ext w w' → Live G w' μ' → rel w' x v → PstG G W σ ws Q w' (k x μ') → P v w'.H) : Pst G W σ rel P w r := by
  cases r with
  | ok x μ' =>
    refine fun v w2 E2 L2 r2 => hk x v w2 μ' E2 L2 r2 ?_
    have h : PstG G W σ ws Q w (k x μ') := h
    cases q : k x μ' with
    | nx δ' μ2 => rw [q] at h; exact fun σ' w' a b E => h σ' w' a b (E2.trans E)
    | ex c p δ' μ2 => rw [q] at h; exact fun C d σ' w' g E => h C d σ' w' g (E2.trans E)
    | bk _ _ => rw [q] at h; exact h
    | ct _ _ => rw [q] at h; exact h
    | rt _ _ => rw [q] at h; exact h
    | bad => rw [q] at h; exact h
  | ex c p μ' => exact fun C d w2 g E2 L2 x2 => h C d σ w2 g E2 L2 (S.ext L E2) x2
  | bad => exact h
theorem lg_sub {o i : Expr} {da db : DE} (ho : LE X W o da) (hi : LE X W i db)
    (ha : ∀ v, assign (.Subscript o i pos) X.env v = (do
      let ov ← holding [v] (eval o X.env)
      let iv ← holding [v, ov] (eval i X.env)
      standAt pos
      holding [v, ov, iv] (setItem ov iv v)
      release [v, ov, iv] []) := by intro _; rfl) : LG X W (.Subscript o i pos) [] (gSub da db) := by
  refine (pg_sub ho hi set_list ha).imp fun v σ H Q ⟨w, δ, μ, x, e, L, S, r, h⟩ => ?_
  refine ⟨w, δ, μ, e, L, S, toG_ok L S h fun o' ov w1 μ1 E1 L1 r1 h1 => ?_⟩
  refine ⟨w1, δ, μ1, rfl, L1, S.ext L E1, toG_ok L1 (S.ext L E1) h1 fun i' iv w2 μ2 E2 L2 r2 h2 => ?_⟩
  split at h2
  · rename_i n k p
    split at h2
    · rename_i xs ex
      split at h2
      · rename_i j ej
        obtain ⟨ho', z, hh⟩ := L2.at_ n _ ex
        have r1' := RelD.ext L1 E2 _ _ r1
        rw [RelD] at r1'
        rw [RelD] at r2
        rw [Rel] at r2
        have rx := RelD.ext L1 E2 _ _ (RelD.ext L E1 _ _ r)
        rw [RelD] at rx
        cases ho' with
        | lst vs =>
          refine ⟨_, vs, k, j, r1'.2, r2, z, by rw [← hh.2.length]; exact ej, ?_⟩
          exact h2 σ ⟨upd w2.H (w2.m n) (.lst (vs.set j v)), w2.m, w2.N⟩ rfl (fun _ _ => rfl) (Ext.set L2 _ r1'.1) (Live.set L2 r1'.1 (q := .l (xs.set j p)) ⟨by rw [List.length_set]; exact hh.1, hh.2.set rx j⟩)
            (((S.ext L E1).ext L1 E2).ext L2 (Ext.set L2 _ r1'.1))
        | _ => exact hh.elim
      · exact h2.elim
    · exact h2.elim
  · exact h2.elim
end
end TV

/-! TV, seventh part: what is walked; for, while; list comprehensions. -/
namespace TV
open PySem PySem.Spec PyProof.Rows L2

/-! ## equality of data, decided -/
mutual
def beqP : PyData → PyData → Bool
  | .none, .none => true
  | .bool a, .bool b => a == b
  | .int a, .int b => a == b
  | .str a, .str b => a == b
  | .list a, .list b => beqL a b
  | .tuple a, .tuple b => beqL a b
  | _, _ => false
def beqL : List PyData → List PyData → Bool
  | [], [] => true
  | x :: xs, y :: ys => beqP x y && beqL xs ys
  | _, _ => false
end
mutual
theorem beqP_eq : ∀ {a b : PyData}, beqP a b = true → a = b
  | .none, b, h => by cases b <;> simp [beqP] at h <;> rfl
  | .bool x, b, h => by cases b <;> simp [beqP] at h; rw [h]
  | .int x, b, h => by cases b <;> simp [beqP] at h; rw [h]
  | .str x, b, h => by cases b <;> simp [beqP] at h; rw [h]
  | .list x, b, h => by cases b <;> simp [beqP] at h; rw [beqL_eq h]
  | .tuple x, b, h => by cases b <;> simp [beqP] at h; rw [beqL_eq h]
  | .dict x, b, h => by cases b <;> simp [beqP] at h
theorem beqL_eq : ∀ {a b : List PyData}, beqL a b = true → a = b
  | [], b, h => by cases b <;> simp [beqL] at h <;> rfl
  | x :: xs, b, h => by
    cases b with
    | nil => simp [beqL] at h
    | cons y ys =>
      simp only [beqL, Bool.and_eq_true] at h
      rw [beqP_eq h.1, beqL_eq h.2]
end

/-! ## what is walked -/
/-- the items; the live list that they stand in, which must stay so -/
abbrev It' := List PyData × Option Nat
def chk (p : It') (μ : Mu) : Bool := match p.2 with
  | none => true
  | some n => match μ[n]? with
    | some (.l ys) => beqL ys p.1
    | _ => false
structure ItOk (G : Gd) (p : It') (w₀ : Wd) (J : It) : Prop where
  few : p.1.length ≤ sizeLine
  go : ∀ i w μ, Ext w₀ w → Live G w μ → chk p μ = true → i < p.1.length → J.go i w.H
  yld : ∀ i w μ v H', Ext w₀ w → Live G w μ → chk p μ = true → i < p.1.length → J.yld i w.H v H' → ∃ w', w'.H = H' ∧ Ext w w' ∧ Live G w' μ ∧ ∃ d, p.1[i]? = some d ∧ Rel G w' d v
  stop : ∀ w μ, Ext w₀ w → Live G w μ → chk p μ = true → J.stop p.1.length w.H
abbrev DI := Sl → Mu → R It'
def relI (G : Gd) : Wd → It' → It → Prop := fun w p J => ItOk G p w J
abbrev LI (X : Cx) (W : WX) (tg iter : Expr) (d : DI) : Prop := PI X tg iter (lift (gx X) W (relI (gx X)) d)
/-- a text's signs -/
def signsOf (x : Str) : List PyData := x.cps.toList.map fun c => .str ⟨#[c]⟩
/-- a list or a tuple -/
def apI (x : D) (μ : Mu) : R It' := match x with
  | .t (.list xs) => .ok (xs, none) μ
  | .t (.tuple xs) => .ok (xs, none) μ
  | .fz xs => .ok (xs, none) μ
  | .t (.str x) => .ok (signsOf x, none) μ
  | .lst n => match μ[n]? with
    | some (.l xs) => .ok (xs, some n) μ
    | _ => .bad
  | _ => .bad
def dSeqI (a : DE) : DI := fun δ μ => (a δ μ).bind apI
def intsFrom (lo : Int) : Nat → List PyData
  | 0 => []
  | n + 1 => .int lo :: intsFrom (lo + 1) n
def apR2 (lo hi : Int) (μ : Mu) : R It' := if -(2 ^ 62) ≤ lo ∧ lo < 2 ^ 62 ∧ -(2 ^ 62) ≤ hi ∧ hi < 2 ^ 62 ∧ (hi - lo).toNat ≤ 1000000 then .ok (intsFrom lo (hi - lo).toNat, none) μ else .bad
def apR1D (x : D) (μ : Mu) : R It' := match x with
  | .t (.int j) => apR2 0 j μ
  | _ => .bad
def apR2D (x y : D) (μ : Mu) : R It' := match x, y with
  | .t (.int i), .t (.int j) => apR2 i j μ
  | _, _ => .bad
def dRange1 (a : DE) : DI := fun δ μ => (a δ μ).bind fun x μ => apR1D x μ
def dRange2 (a b : DE) : DI := fun δ μ => (a δ μ).bind fun x μ1 => (b δ μ1).bind fun y μ2 => apR2D x y μ2
theorem intsFrom_length : ∀ (n : Nat) (lo : Int), (intsFrom lo n).length = n
  | 0, _ => rfl
  | n + 1, lo => by rw [intsFrom, List.length_cons, intsFrom_length n]
theorem intsFrom_get : ∀ (n : Nat) (lo : Int) (i : Nat), i < n → (intsFrom lo n)[i]? = some (.int (lo + i))
  | 0, _, _, h => absurd h (Nat.not_lt_zero _)
  | n + 1, lo, 0, _ => by simp [intsFrom]
  | n + 1, lo, i + 1, h => by
    rw [intsFrom, List.getElem?_cons_succ, intsFrom_get n (lo + 1) i (by omega)]
    have : lo + 1 + (i : Int) = lo + ((i + 1 : Nat) : Int) := by omega
    rw [this]
theorem small_line {n : Nat} (h : n ≤ 1000000) : n ≤ sizeLine := by
  rw [sizeLine_eq]
  omega
section
variable {X : Cx} {W : WX} {tg e a b : Expr} {d da db : DE} {G : Gd} {w w' : Wd} {μ : Mu}
theorem itok_range {lo : Int} {n : Nat} (hn : n ≤ 1000000) : ItOk G (intsFrom lo n, none) w (Itr lo n) where
  few := by rw [intsFrom_length]; exact small_line hn
  go := fun i w' μ _ _ _ h => by
    have h : i < (intsFrom lo n).length := h
    rw [intsFrom_length] at h; exact h
  yld := fun i w' μ v H' _ L _ h y => by
    have h : i < (intsFrom lo n).length := h
    rw [intsFrom_length] at h
    obtain ⟨e1, e2⟩ := y
    exact ⟨w', e1.symm, Ext.refl _, L, _, intsFrom_get n lo i h, by rw [e2]; exact Rel.int _⟩
  stop := fun w' μ _ _ _ => by
    show n ≤ (intsFrom lo n).length
    rw [intsFrom_length]; exact Nat.le_refl _
theorem sqT_ext (L : Live G w μ) (E : Ext w w') {a : Addr} {vs : List V} (h : SqT G.K w.H a vs) : SqT G.K w'.H a vs := SqT.ext L E h
/-- a list that is not live -/
theorem itok_list {xs : List PyData} {a : Addr} {vs : List V} (L : Live G w μ) (hz : xs.length ≤ sizeLine) (l : RelL G w xs vs) (s : ∀ w', Ext w w' → SqL G.K w'.H a vs) : ItOk G (xs, none) w (Itl G.K a) where
  few := hz
  go := fun i w' μ' E _ _ h => by
    obtain ⟨v, hv, _⟩ := l.get (List.getElem?_eq_getElem h)
    exact ⟨vs, v, s w' E, hv⟩
  yld := fun i w' μ' v H' E L' _ h y => by
    obtain ⟨e1, e2⟩ := y
    obtain ⟨u, hu, r⟩ := l.get (List.getElem?_eq_getElem h)
    have q := e2 vs (s w' E)
    rw [hu] at q
    cases q
    exact ⟨w', e1.symm, Ext.refl _, L', _, List.getElem?_eq_getElem h, Rel.ext L E _ _ r⟩
  stop := fun w' μ' E _ _ => ⟨vs, s w' E, Nat.le_of_eq l.length.symm⟩
theorem itok_tup {xs : List PyData} {a : Addr} {vs : List V} (L : Live G w μ) (hz : xs.length ≤ sizeLine) (l : RelL G w xs vs) (s : SqT G.K w.H a vs) : ItOk G (xs, none) w (Itt G.K a) where
  few := hz
  go := fun i w' μ' E _ _ h => by
    obtain ⟨v, hv, _⟩ := l.get (List.getElem?_eq_getElem h)
    exact ⟨vs, v, SqT.ext L E s, hv⟩
  yld := fun i w' μ' v H' E L' _ h y => by
    obtain ⟨e1, e2⟩ := y
    obtain ⟨u, hu, r⟩ := l.get (List.getElem?_eq_getElem h)
    have q := e2 vs (SqT.ext L E s)
    rw [hu] at q
    cases q
    exact ⟨w', e1.symm, Ext.refl _, L', _, List.getElem?_eq_getElem h, Rel.ext L E _ _ r⟩
  stop := fun w' μ' E _ _ => ⟨vs, SqT.ext L E s, Nat.le_of_eq l.length.symm⟩
/-- a live list that stays as it is -/
theorem itok_live {xs : List PyData} {n : Nat} (L : Live G w μ) (e : μ[n]? = some (.l xs)) : ItOk G (xs, some n) w (Itl G.K (w.m n)) := by
  have hn : n < w.N := by have := (List.getElem?_eq_some_iff.mp e).1; rw [L.len] at this; exact this
  have now : ∀ w' μ', Ext w w' → Live G w' μ' → chk (xs, some n) μ' = true → ∃ vs, w'.H (w.m n) = some (.lst vs) ∧ xs.length ≤ sizeLine ∧ RelL G w' xs vs := fun w' μ' E L' c => by
    unfold chk at c
    simp only at c
    split at c
    · rename_i ys e'
      have q := beqL_eq c
      subst q
      obtain ⟨ho, z, hh⟩ := L'.at_ n _ e'
      cases ho with
      | lst vs => exact ⟨vs, by rw [← E.ms n hn]; exact z, hh.1, hh.2⟩
      | _ => exact hh.elim
    · cases c
  have sq : ∀ {w' : Wd} {vs : List V}, w'.H (w.m n) = some (.lst vs) → SqL G.K w'.H (w.m n) vs := fun h => .inl (.inl h)
  have few : xs.length ≤ sizeLine := by
    obtain ⟨ho, z, hh⟩ := L.at_ n _ e
    cases ho with
    | lst vs => exact hh.1
    | _ => exact hh.elim
  refine ⟨few, fun i w' μ' E L' c h => ?_, fun i w' μ' v H' E L' c h y => ?_, fun w' μ' E L' c => ?_⟩
  · obtain ⟨vs, h1, _, l⟩ := now w' μ' E L' c
    obtain ⟨v, hv, _⟩ := l.get (List.getElem?_eq_getElem h)
    exact ⟨vs, v, sq h1, hv⟩
  · obtain ⟨vs, h1, _, l⟩ := now w' μ' E L' c
    obtain ⟨e1, e2⟩ := y
    obtain ⟨u, hu, r⟩ := l.get (List.getElem?_eq_getElem h)
    have q := e2 vs (sq h1)
    rw [hu] at q
    cases q
    exact ⟨w', e1.symm, Ext.refl _, L', _, List.getElem?_eq_getElem h, r⟩
  · obtain ⟨vs, h1, _, l⟩ := now w' μ' E L' c
    exact ⟨vs, sq h1, Nat.le_of_eq l.length.symm⟩
theorem signsOf_length (x : Str) : (signsOf x).length = x.cps.size := by unfold signsOf; rw [List.length_map]; exact Array.length_toList
theorem signsOf_get {x : Str} {i : Nat} {c : Nat} (h : x.cps[i]? = some c) : (signsOf x)[i]? = some (.str ⟨#[c]⟩) := by
  unfold signsOf
  rw [List.getElem?_map, Array.getElem?_toList, h]
  rfl
theorem itok_str {x : Str} (hz : x.length ≤ sizeLine) : ItOk G (signsOf x, none) w (Its x) where
  few := by rw [signsOf_length]; exact hz
  go := fun i w' μ _ _ _ h => by
    have h : i < (signsOf x).length := h
    rw [signsOf_length] at h; exact h
  yld := fun i w' μ v H' _ L _ h y => by
    obtain ⟨e1, c, e2, e3⟩ := y
    exact ⟨w', e1.symm, Ext.refl _, L, _, signsOf_get e2, by rw [e3]; exact Rel.str (one_sign c)⟩
  stop := fun w' μ _ _ _ => by
    show x.cps.size ≤ (signsOf x).length
    rw [signsOf_length]; exact Nat.le_refl _
theorem li_seq (he : LE X W e d) : LI X W tg e (dSeqI d) := by
  have hl := pi_list (tg := tg) he
  have ht := pi_tup (tg := tg) he
  have hx := pi_str (tg := tg) he
  refine ⟨fun pins s σ H R I ⟨w, δ, μ, eH, L, S, h⟩ => ?_⟩
  -- which of both it is, is known ahead
  unfold dSeqI at h
  have listy : (∀ x μ', d δ μ = .ok x μ' → (¬ ∃ xs, x = .t (.tuple xs)) ∧ ¬ ∃ xs, x = .t (.str xs)) → wpAny (model X.prog X.w) X.A (eval e X.env) (fun v s1 => wpAny (model X.prog X.w) X.A (pyIter v) (PIE X pins σ tg R) X.xe s1) X.xe s := fun hn => by
    refine hl.run pins s σ H R I ⟨w, δ, μ, eH, L, S, ?_⟩
    cases q : d δ μ with
    | ok x μ' =>
      rw [q] at h
      have hn := hn x μ' q
      intro v w1 E1 L1 r1
      have h := Pst.ext E1 h
      cases x with
      | t y =>
        cases y with
        | list xs =>
          rw [RelD, Rel] at r1
          obtain ⟨a, vs, rfl, s1, f, z, l⟩ := r1
          exact ⟨a, rfl, ⟨vs, .inl (.inl s1)⟩, here_ok h L1 (itok_list L1 z l fun w' E => .inl (.inl (E.keep _ _ s1 f).1))⟩
        | tuple xs => exact absurd ⟨xs, rfl⟩ hn.1
        | str xs => exact absurd ⟨xs, rfl⟩ hn.2
        | _ => exact h.elim
      | fz xs =>
        rw [RelD] at r1
        obtain ⟨a, vs, rfl, s1, z, l⟩ := r1
        have sq : ∀ w', Ext w1 w' → SqL X.K w'.H a vs := fun w' E => by
          rcases s1 with ⟨o, s1⟩ | s1
          · exact .inl (.inr ⟨o, (E.keep _ _ s1 (L1.off_of s1 (by intro o; cases o <;> exact id))).1⟩)
          · exact s1 _
        exact ⟨a, rfl, ⟨vs, sq w1 (Ext.refl _)⟩, here_ok h L1 (itok_list L1 z l sq)⟩
      | lst n =>
        have h : Pst (gx X) W σ (relI (gx X)) R w1 (apI (.lst n) μ') := h
        simp only [apI] at h
        split at h
        · rename_i xs ex
          rw [RelD] at r1
          rw [r1.2]
          obtain ⟨ho, z, hh⟩ := L1.at_ n _ ex
          cases ho with
          | lst vs => exact ⟨_, rfl, ⟨vs, .inl (.inl z)⟩, here_ok h L1 (itok_live L1 ex)⟩
          | _ => exact hh.elim
        · exact h.elim
      | _ => exact h.elim
    | ex c p μ' => rw [q] at h; exact h
    | bad => rw [q] at h; exact h
  cases q : d δ μ with
  | ok x μ' =>
    cases x with
    | t y =>
      cases y with
      | tuple xs =>
        refine ht.run pins s σ H R I ⟨w, δ, μ, eH, L, S, ?_⟩
        rw [q] at h ⊢
        intro v w1 E1 L1 r1
        rw [RelD] at r1
        obtain ⟨a, vs, rfl, s1, z, l⟩ := Now.tup r1
        exact ⟨a, rfl, ⟨vs, s1⟩, here_ok (Pst.ext E1 h) L1 (itok_tup L1 z l s1)⟩
      | none => exact listy fun x μ2 e2 => by rw [q] at e2; cases e2; exact ⟨(by rintro ⟨xs, z⟩; cases z), (by rintro ⟨xs, z⟩; cases z)⟩
      | bool _ => exact listy fun x μ2 e2 => by rw [q] at e2; cases e2; exact ⟨(by rintro ⟨xs, z⟩; cases z), (by rintro ⟨xs, z⟩; cases z)⟩
      | int _ => exact listy fun x μ2 e2 => by rw [q] at e2; cases e2; exact ⟨(by rintro ⟨xs, z⟩; cases z), (by rintro ⟨xs, z⟩; cases z)⟩
      | str xs =>
        refine hx.run pins s σ H R I ⟨w, δ, μ, eH, L, S, ?_⟩
        rw [q] at h ⊢
        intro v w1 E1 L1 r1
        rw [RelD] at r1
        obtain ⟨rfl, z⟩ := Now.str (G := gx X) (w := w1) r1
        exact ⟨xs, rfl, here_ok (Pst.ext E1 h) L1 (itok_str z)⟩
      | list _ => exact listy fun x μ2 e2 => by rw [q] at e2; cases e2; exact ⟨(by rintro ⟨xs, z⟩; cases z), (by rintro ⟨xs, z⟩; cases z)⟩
      | dict _ => exact listy fun x μ2 e2 => by rw [q] at e2; cases e2; exact ⟨(by rintro ⟨xs, z⟩; cases z), (by rintro ⟨xs, z⟩; cases z)⟩
    | fz _ => exact listy fun x μ2 e2 => by rw [q] at e2; cases e2; exact ⟨(by rintro ⟨xs, z⟩; cases z), (by rintro ⟨xs, z⟩; cases z)⟩
    | lst _ => exact listy fun x μ2 e2 => by rw [q] at e2; cases e2; exact ⟨(by rintro ⟨xs, z⟩; cases z), (by rintro ⟨xs, z⟩; cases z)⟩
    | tupR _ => exact listy fun x μ2 e2 => by rw [q] at e2; cases e2; exact ⟨(by rintro ⟨xs, z⟩; cases z), (by rintro ⟨xs, z⟩; cases z)⟩
    | ref _ => exact listy fun x μ2 e2 => by rw [q] at e2; cases e2; exact ⟨(by rintro ⟨xs, z⟩; cases z), (by rintro ⟨xs, z⟩; cases z)⟩
    | ty _ => exact listy fun x μ2 e2 => by rw [q] at e2; cases e2; exact ⟨(by rintro ⟨xs, z⟩; cases z), (by rintro ⟨xs, z⟩; cases z)⟩
    | glo _ => exact listy fun x μ2 e2 => by rw [q] at e2; cases e2; exact ⟨(by rintro ⟨xs, z⟩; cases z), (by rintro ⟨xs, z⟩; cases z)⟩
  | ex c p μ' => exact listy fun x μ2 e2 => by rw [q] at e2; cases e2
  | bad => exact listy fun x μ2 e2 => by rw [q] at e2; cases e2
theorem li_range1 {p pos : Pos} (hg : Gl X "range") (hm : X.mg "range" = none) (ha : LE X W a da) (hs : starEach [a] X.env = [(false, eval a X.env)] := by rfl) : LI X W tg (.Call (.Name "range" p) [a] [] pos) (dRange1 da) := by
  refine (pi_range1 hg hm (pa_cons ha pa_nil hs) hs).imp fun σ H R ⟨w, δ, μ, e, L, S, h⟩ => ?_
  refine ⟨w, δ, μ, e, L, S, Pst.bind h fun x v w1 μ1 E1 L1 r1 h1 => ?_⟩
  unfold apR1D at h1
  split at h1
  · rename_i j
    rw [RelD] at r1
    rw [Rel] at r1
    subst r1
    unfold apR2 at h1
    split at h1
    · rename_i c
      rw [Int.sub_zero] at h1
      exact ⟨j, rfl, c.2.2.1, c.2.2.2.1, here_ok h1 L1 (itok_range (by have := c.2.2.2.2; rw [Int.sub_zero] at this; exact this))⟩
    · exact h1.elim
  · exact h1.elim
theorem li_range2 {p pos : Pos} (hg : Gl X "range") (hm : X.mg "range" = none) (ha : LE X W a da) (hb : LE X W b db) (hs : starEach [a, b] X.env = [(false, eval a X.env), (false, eval b X.env)] := by rfl) (hs2 : starEach [b] X.env = [(false, eval b X.env)] := by rfl) : LI X W tg (.Call (.Name "range" p) [a, b] [] pos) (dRange2 da db) := by
  refine (pi_range2 hg hm (pa_cons ha (pa_cons hb pa_nil hs2) (by rw [hs, hs2])) hs hs2).imp fun σ H R h => ?_
  refine two (P := fun x y H1 => ∃ i j : Int, [x, y] = [.int i, .int j] ∧ (-(2 ^ 62) ≤ i ∧ i < 2 ^ 62 ∧ -(2 ^ 62) ≤ j ∧ j < 2 ^ 62) ∧ R (Itr i (j - i).toNat) H1) h fun w μ x y v u L r1 r2 h1 => ?_
  unfold apR2D at h1
  split at h1
  · rename_i i j
    rw [RelD] at r1
    rw [Rel] at r1
    rw [RelD] at r2
    rw [Rel] at r2
    subst r1
    subst r2
    unfold apR2 at h1
    split at h1
    · rename_i c
      exact ⟨i, j, rfl, ⟨c.1, c.2.1, c.2.2.1, c.2.2.2.1⟩, here_ok h1 L (itok_range c.2.2.2.2)⟩
    · exact h1.elim
  · exact h1.elim
end

/-! ## for -/
def forL (ok : Mu → Bool) (g : DG) (s : DS) : List PyData → DS
  | [], δ, μ => if ok μ then .nx δ μ else .bad
  | x :: xs, δ, μ => if ok μ then (match g (.t x) δ μ with
    | .nx δ1 μ1 => (match s δ1 μ1 with
      | .nx δ2 μ2 => forL ok g s xs δ2 μ2
      | .ct δ2 μ2 => forL ok g s xs δ2 μ2
      | .bk δ2 μ2 => .nx δ2 μ2
      | r => r)
    | .ex c p δ1 μ1 => .ex c p δ1 μ1
    | _ => .bad) else .bad
def sFor (i : DI) (g : DG) (s : DS) : DS := fun δ μ => (i δ μ).toS δ fun p μ => forL (chk p) g s p.1 δ μ
section
variable {X : Cx} {W : WX} {tg iter : Expr} {body : List Stmt} {di : DI} {g : DG} {s : DS} {ws : List Nat} {pos : Pos}
theorem ls_for (hp : PassesOwn (model X.prog X.w) X.A X.env X.xe) (hc : X.calm = true) (hi : LI X W tg iter di) (hg : LG X W tg ws g) (hb : LSs X W body s)
    (hs : ∀ x, foldedSetIterable iter X.env x = pure x := by intro _; rfl) : LS X W (.For tg iter body [] pos) (sFor di g s) := by
  refine (ps_for hp hc hi hg hb hs).imp fun Dn σ H ⟨w, δ, μ, e, L, S, h⟩ => ?_
  refine ⟨w, δ, μ, e, L, S, PstS.bind L S h fun p J w1 μ1 E1 L1 I1 h1 => ?_⟩
  obtain ⟨xs, o⟩ := p
  have S1 := S.ext L E1
  refine ⟨fun i m σ H => ∃ w δ μ, w.H = H ∧ Ext w1 w ∧ Live (gx X) w μ ∧ Slots (gx X) w δ σ ∧ m = xs.length - i ∧ i ≤ xs.length ∧ PstS (gx X) W Dn w (forL (chk (xs, o)) g s (xs.drop i) δ μ),
    ⟨xs.length, w1, δ, μ1, rfl, Ext.refl _, L1, S1, rfl, Nat.zero_le _, h1⟩, ?_⟩
  rintro i m σ H ⟨w2, δ2, μ2, rfl, E2, L2, S2, rfl, hi, h2⟩
  by_cases hlt : i < xs.length
  · right
    rw [List.drop_eq_getElem_cons hlt] at h2
    rw [forL] at h2
    split at h2
    · rename_i ck
      refine ⟨I1.go i w2 μ2 E2 L2 ck hlt, fun σ H => ∃ w δ μ, w.H = H ∧ Ext w1 w ∧ Live (gx X) w μ ∧ Slots (gx X) w δ σ ∧ PstS (gx X) W Dn w (forL (chk (xs, o)) g s (xs.drop (i + 1)) δ μ), ?_, fun v H' y => ?_⟩
      · rintro σ' H' ⟨w3, δ3, μ3, rfl, E3, L3, S3, h3⟩
        exact ⟨xs.length - (i + 1), by omega, w3, δ3, μ3, rfl, E3, L3, S3, rfl, hlt, h3⟩
      · obtain ⟨w3, rfl, E3, L3, d, ed, r3⟩ := I1.yld i w2 μ2 v H' E2 L2 ck hlt y
        have ed' : d = xs[i] := Option.some.inj (ed.symm.trans (List.getElem?_eq_getElem hlt))
        subst ed'
        refine ⟨w3, δ2, μ2, .t xs[i], rfl, L3, S2.ext L2 E3, RelD.t r3, ?_⟩
        have h2 := PstS.ext E3 h2
        cases q : g (.t xs[i]) δ2 μ2 with
        | nx δ4 μ4 =>
          rw [q] at h2
          intro σ4 w4 _ _ E4 L4 S4
          refine ⟨w4, δ4, μ4, rfl, L4, S4, ?_⟩
          have h2 := PstS.ext E4 h2
          have EE : Ext w1 w4 := (E2.trans E3).trans E4
          dsimp only at h2
          cases q2 : s δ4 μ4 with
          | nx δ5 μ5 => rw [q2] at h2; exact fun σ5 w5 E5 L5 S5 => ⟨w5, δ5, μ5, rfl, EE.trans E5, L5, S5, PstS.ext E5 h2⟩
          | ct δ5 μ5 => rw [q2] at h2; exact fun σ5 w5 E5 L5 S5 => ⟨w5, δ5, μ5, rfl, EE.trans E5, L5, S5, PstS.ext E5 h2⟩
          | bk δ5 μ5 => rw [q2] at h2; exact h2
          | rt x μ5 => rw [q2] at h2; exact h2
          | ex c p δ5 μ5 => rw [q2] at h2; exact h2
          | bad => rw [q2] at h2; exact h2
        | ex c p δ4 μ4 => rw [q] at h2; exact h2
        | bk _ _ => rw [q] at h2; exact h2
        | ct _ _ => rw [q] at h2; exact h2
        | rt _ _ => rw [q] at h2; exact h2
        | bad => rw [q] at h2; exact h2
    · exact h2.elim
  · left
    have ei : i = xs.length := by omega
    subst ei
    rw [List.drop_length, forL] at h2
    split at h2
    · rename_i ck
      exact ⟨I1.stop w2 μ2 E2 L2 ck, h2 σ w2 (Ext.refl _) L2 S2⟩
    · exact h2.elim
end

/-! ## while: at most n turns -/
def whileN (c : DT) (s : DS) : Nat → DS
  | 0, _, _ => .bad
  | n + 1, δ, μ => (c δ μ).toS δ fun k μ => if k then (match s δ μ with
    | .nx δ2 μ2 => whileN c s n δ2 μ2
    | .ct δ2 μ2 => whileN c s n δ2 μ2
    | .bk δ2 μ2 => .nx δ2 μ2
    | r => r) else .nx δ μ
section
variable {X : Cx} {W : WX} {c : Expr} {body : List Stmt} {dc : DT} {s : DS} {pos : Pos}
theorem ls_while (n : Nat) (hp : PassesOwn (model X.prog X.w) X.A X.env X.xe) (hc : LT X W c dc) (hb : LSs X W body s) : LS X W (.While c body [] pos) (whileN dc s n) := by
  refine (ps_while hp hc hb).imp fun Dn σ H ⟨w, δ, μ, e, L, S, h⟩ => ?_
  refine ⟨fun m σ H => ∃ w δ μ, w.H = H ∧ Live (gx X) w μ ∧ Slots (gx X) w δ σ ∧ PstS (gx X) W Dn w (whileN dc s m δ μ), ⟨n, w, δ, μ, e, L, S, h⟩, ?_⟩
  rintro m σ H ⟨w1, δ1, μ1, rfl, L1, S1, h1⟩
  cases m with
  | zero => exact h1.elim
  | succ m =>
    rw [whileN] at h1
    refine ⟨w1, δ1, μ1, rfl, L1, S1, PstS.bind L1 S1 h1 fun k b w2 μ2 E2 L2 e2 h2 => ?_⟩
    subst e2
    have S2 := S1.ext L1 E2
    cases b with
    | true =>
      refine ⟨fun σ H => ∃ w δ μ, w.H = H ∧ Live (gx X) w μ ∧ Slots (gx X) w δ σ ∧ PstS (gx X) W Dn w (whileN dc s m δ μ), ?_, w2, δ1, μ2, rfl, L2, S2, ?_⟩
      · rintro σ' H' ⟨w3, δ3, μ3, rfl, L3, S3, h3⟩
        exact ⟨m, Nat.lt_succ_self m, w3, δ3, μ3, rfl, L3, S3, h3⟩
      · simp only [if_true] at h2
        cases q2 : s δ1 μ2 with
        | nx δ5 μ5 => rw [q2] at h2; exact fun σ5 w5 E5 L5 S5 => ⟨w5, δ5, μ5, rfl, L5, S5, PstS.ext E5 h2⟩
        | ct δ5 μ5 => rw [q2] at h2; exact fun σ5 w5 E5 L5 S5 => ⟨w5, δ5, μ5, rfl, L5, S5, PstS.ext E5 h2⟩
        | bk δ5 μ5 => rw [q2] at h2; exact h2
        | rt x μ5 => rw [q2] at h2; exact h2
        | ex c p δ5 μ5 => rw [q2] at h2; exact h2
        | bad => rw [q2] at h2; exact h2
    | false => exact h2 σ w2 (Ext.refl _) L2 S2
end
end TV

/-! TV, eighth part: list comprehensions. -/
namespace TV
open PySem PySem.Spec PyProof.Rows L2

/-- no error may leave it -/
def nox {α : Type} (r : R α) : R α := match r with
  | .ok a μ => .ok a μ
  | _ => .bad
def wipeD (δ : Sl) : List Nat → Sl
  | [] => δ
  | v :: vs => (wipeD δ vs).set v none
def pushAt (k : Nat) (y : D) (μ : Mu) : Option Mu := match y, μ[k]? with
  | .t q, some (.l acc) => if acc.length < sizeLine then some (μ.set k (.l (acc ++ [q]))) else none
  | _, _ => none
/-- the turns of a comprehension whose list is the live one at k -/
def lcL (p : It') (g : DG) (dt : DT) (de : DE) (δ0 : Sl) (k : Nat) : List PyData → Mu → R Unit
  | [], μ => if chk p μ then .ok () μ else .bad
  | x :: xs, μ => if chk p μ then (match g (.t x) δ0 μ with
    | .nx δ1 μ1 => (nox (dt δ1 μ1)).bind fun b μ2 => if b then (nox (de δ1 μ2)).bind fun y μ3 => (match pushAt k y μ3 with
        | some μ4 => lcL p g dt de δ0 k xs μ4
        | none => .bad) else lcL p g dt de δ0 k xs μ2
    | _ => .bad) else .bad
def lcEnd (live : Bool) (k : Nat) (μ : Mu) : R D := match μ[k]? with
  | some (.l acc) => if live then .ok (.lst k) (μ.take (k + 1)) else .ok (.t (.list acc)) (μ.take k)
  | _ => .bad
def dLc (live : Bool) (vs : List Nat) (di : DI) (g : DG) (dt : DT) (de : DE) : DE := fun δ μ => (di δ μ).bind fun p μ =>
  (lcL p g dt de (wipeD δ vs) μ.length p.1 (μ ++ [.l []])).bind fun _ μ' => lcEnd live μ.length μ'
def dYes : DT := fun _ μ => .ok true μ
abbrev W0 : WX := fun _ _ _ _ => False
abbrev LTs (X : Cx) (W : WX) (es : List Expr) (d : DT) : Prop := PTs X es (lift (gx X) W sameR d)
theorem _root_.L2.PTs.imp {X : Cx} {e : List Expr} {t t' : TT} (h : PTs X e t) (f : ∀ σ H Q, t' σ H Q → t σ H Q) : PTs X e t' := ⟨fun pins s σ H Q I q => h.run pins s σ H Q I (f _ _ _ q)⟩
section
variable {G : Gd} {w : Wd}
theorem wipeD_length (δ : Sl) : ∀ vs : List Nat, (wipeD δ vs).length = δ.length
  | [] => rfl
  | v :: vs => by rw [wipeD, List.length_set, wipeD_length δ vs]
theorem wipeD_some {δ : Sl} {i : Nat} {x : D} : ∀ {vs : List Nat}, (wipeD δ vs)[i]? = some (some x) → δ[i]? = some (some x) ∧ i ∉ vs
  | [], h => ⟨h, by simp⟩
  | v :: vs, h => by
    rw [wipeD] at h
    by_cases hi : v = i
    · subst hi
      by_cases hv : v < (wipeD δ vs).length
      · rw [List.getElem?_set_self hv] at h; cases h
      · rw [List.getElem?_eq_none (by rw [List.length_set]; omega)] at h; cases h
    · rw [List.getElem?_set_ne hi] at h
      obtain ⟨h1, h2⟩ := wipeD_some h
      exact ⟨h1, by simp only [List.mem_cons, not_or]; exact ⟨fun e => hi e.symm, h2⟩⟩
theorem wipe_keeps {σ : L2.St} {i : Nat} : ∀ {vs : List Nat}, i ∉ vs → (wipe σ vs)[i]? = σ[i]?
  | [], _ => rfl
  | v :: vs, h => by
    simp only [List.mem_cons, not_or] at h
    unfold wipe
    rw [List.getElem?_set_ne (fun e => h.1 e.symm), wipe_keeps h.2]
theorem wipe_at {σ : L2.St} {i : Nat} (hi : i < σ.length) : ∀ {vs : List Nat}, i ∈ vs → (wipe σ vs)[i]? = some none
  | [], h => by simp at h
  | v :: vs, h => by
    unfold wipe
    by_cases e : v = i
    · subst e
      rw [List.getElem?_set_self (by rw [wipe_length]; exact hi)]
    · rw [List.getElem?_set_ne e]
      refine wipe_at hi ?_
      rcases List.mem_cons.mp h with z | z
      · exact absurd z.symm e
      · exact z
theorem wipe_same {σ σ2 : L2.St} {vs : List Nat} (hl : σ2.length = (wipe σ vs).length) (hj : ∀ j, j ∉ vs → σ2[j]? = (wipe σ vs)[j]?) : wipe σ2 vs = wipe σ vs := by
  rw [wipe_length] at hl
  apply List.ext_getElem?
  intro i
  by_cases hi : i ∈ vs
  · by_cases hlt : i < σ.length
    · rw [wipe_at (by rw [hl]; exact hlt) hi, wipe_at hlt hi]
    · rw [List.getElem?_eq_none (by rw [wipe_length, hl]; omega), List.getElem?_eq_none (by rw [wipe_length]; omega)]
  · rw [wipe_keeps hi, hj i hi]
theorem Slots.wipe {δ : Sl} {σ : L2.St} (S : Slots G w δ σ) (vs : List Nat) : Slots G w (wipeD δ vs) (L2.wipe σ vs) := by
  refine ⟨by rw [wipeD_length, wipe_length]; exact S.1, fun i d e => ?_⟩
  obtain ⟨h1, h2⟩ := wipeD_some e
  obtain ⟨v, h3, h4⟩ := S.2 i d h1
  exact ⟨v, by rw [wipe_keeps h2]; exact h3, h4⟩
end
section
variable {X : Cx} {W : WX} {elt tg iter : Expr} {ifs : List Expr} {scope : Scope} {own : List (Str × Nat)} {pos : Pos} {di : DI} {g : DG} {ws : List Nat} {dt : DT} {de : DE}
theorem lts_nil : LTs X W [] dYes := pts_nil.imp fun σ H Q ⟨w, δ, μ, e, L, S, h⟩ => by
  subst e
  exact here_ok h L rfl
theorem lts_one {c : Expr} {d : DT} (h : LT X W c d) : LTs X W [c] d := pts_one h
/-- what the turns are -/
theorem lc_read {G : Gd} {live : Bool} {σ : L2.St} {H : Hp} {Q : VK} {vs : List Nat} (hws : ∀ j ∈ ws, j ∈ vs)
    (h : lift G W (RelD G) (dLc live vs di g dt de) σ H Q) : tLc (lift G W (relI G) di) (liftG G W0 ws g) (lift G W0 sameR dt) (lift G W0 (RelD G) de) vs σ H Q := by
  obtain ⟨w, δ, μ, e, L, S, h⟩ := h
  refine ⟨w, δ, μ, e, L, S, Pst.bind h fun p J w1 μ1 E1 L1 I1 h1 => ?_⟩
  obtain ⟨xs, o⟩ := p
  intro D hD
  have S1 := S.ext L E1
  have EA := Ext.add (a := D) (o := .lst []) L1 hD
  have LA' : Live G (w1.add D (.lst [])) (μ1 ++ [.l []]) := Live.add L1 hD ⟨Nat.zero_le _, RelL.nil⟩
  have hk : μ1.length = w1.N := L1.len
  refine ⟨fun i m H => ∃ w μ, w.H = H ∧ Ext (w1.add D (.lst [])) w ∧ Live G w μ ∧ m = xs.length - i ∧ i ≤ xs.length ∧
      Pst G W σ (RelD G) Q w1 ((lcL (xs, o) g dt de (wipeD δ vs) μ1.length (xs.drop i) μ).bind fun _ μ' => lcEnd live μ1.length μ'),
    ⟨xs.length, _, _, rfl, Ext.refl _, LA', rfl, Nat.zero_le _, h1⟩, ?_⟩
  rintro i m H ⟨w2, μ2, rfl, E2, L2, rfl, hi, h2⟩
  have E12 : Ext w1 w2 := EA.trans E2
  have mk : ∀ w', Ext (w1.add D (.lst [])) w' → w'.m μ1.length = D := fun w' E => by
    rw [hk, E.ms w1.N (Nat.lt_succ_self _), Wd.add_at]
  by_cases hlt : i < xs.length
  · right
    rw [List.drop_eq_getElem_cons hlt, lcL] at h2
    split at h2
    · rename_i ck
      refine ⟨I1.go i w2 μ2 E12 L2 ck hlt, fun H => ∃ w μ, w.H = H ∧ Ext (w1.add D (.lst [])) w ∧ Live G w μ ∧
        Pst G W σ (RelD G) Q w1 ((lcL (xs, o) g dt de (wipeD δ vs) μ1.length (xs.drop (i + 1)) μ).bind fun _ μ' => lcEnd live μ1.length μ'), ?_, fun v H' y => ?_⟩
      · rintro H' ⟨w3, μ3, rfl, E3, L3, h3⟩
        exact ⟨xs.length - (i + 1), by omega, w3, μ3, rfl, E3, L3, rfl, hlt, h3⟩
      · obtain ⟨w3, rfl, E3, L3, d, ed, r3⟩ := I1.yld i w2 μ2 v H' E12 L2 ck hlt y
        have ed' : d = xs[i] := Option.some.inj (ed.symm.trans (List.getElem?_eq_getElem hlt))
        subst ed'
        have S3 := ((S1.ext L1 E12).ext L2 E3).wipe vs
        refine ⟨w3, wipeD δ vs, μ2, .t xs[i], rfl, L3, S3, RelD.t r3, ?_⟩
        cases q : g (.t xs[i]) (wipeD δ vs) μ2 with
        | nx δ4 μ4 =>
          rw [q] at h2
          dsimp only at h2
          intro σ4 w4 hl4 hj4 E4 L4 S4
          have E24 : Ext (w1.add D (.lst [])) w4 := (E2.trans E3).trans E4
          refine ⟨wipe_same hl4 fun j hj => hj4 j fun z => hj (hws j z), w4, δ4, μ4, rfl, L4, S4, ?_⟩
          cases q4 : dt δ4 μ4 with
          | ok b μ5 =>
            rw [q4] at h2
            intro b' w5 E5 L5 eb
            subst eb
            have E25 := E24.trans E5
            cases b' with
            | true =>
              have h2 : Pst G W σ (RelD G) Q w1 (((nox (de δ4 μ5)).bind fun y μ3 => (match pushAt μ1.length y μ3 with
                | some μ4 => lcL (xs, o) g dt de (wipeD δ vs) μ1.length (xs.drop (i + 1)) μ4
                | none => .bad)).bind fun _ μ' => lcEnd live μ1.length μ') := h2
              refine iteT ⟨w5, δ4, μ5, rfl, L5, S4.ext L4 E5, ?_⟩
              cases q5 : de δ4 μ5 with
              | ok y μ6 =>
                rw [q5] at h2
                intro u w6 E6 L6 r6
                have h2 : Pst G W σ (RelD G) Q w1 ((match pushAt μ1.length y μ6 with
                  | some μ4 => lcL (xs, o) g dt de (wipeD δ vs) μ1.length (xs.drop (i + 1)) μ4
                  | none => .bad).bind fun _ μ' => lcEnd live μ1.length μ') := h2
                have E26 := E25.trans E6
                cases y with
                | t z =>
                  cases e6 : μ6[μ1.length]? with
                  | some ob =>
                    cases ob with
                    | l acc6 =>
                      by_cases hz : acc6.length < sizeLine
                      case neg =>
                        have ep : pushAt μ1.length (.t z) μ6 = none := by unfold pushAt; rw [e6]; exact if_neg hz
                        rw [ep] at h2
                        exact h2.elim
                      have ep : pushAt μ1.length (.t z) μ6 = some (μ6.set μ1.length (.l (acc6 ++ [z]))) := by unfold pushAt; rw [e6]; exact if_pos hz
                      rw [ep] at h2
                      dsimp only at h2
                      obtain ⟨ho, hz6, hh⟩ := L6.at_ _ _ e6
                      have hk6 : μ1.length < w6.N := by have := (List.getElem?_eq_some_iff.mp e6).1; rw [L6.len] at this; exact this
                      cases ho with
                      | lst us =>
                        rw [RelD] at r6
                        refine ⟨us, by rw [← mk w6 E26]; exact hz6, by rw [← hh.2.length]; exact hz, ?_⟩
                        have LS' := Live.set (q := .l (acc6 ++ [z])) (o := .lst (us ++ [u])) L6 hk6 ⟨by rw [List.length_append]; exact hz, hh.2.append (RelL.one r6)⟩
                        have ES' := Ext.set (o := .lst (us ++ [u])) L6 hk6
                        exact ⟨⟨upd w6.H (w6.m μ1.length) (.lst (us ++ [u])), w6.m, w6.N⟩, _, by show upd w6.H (w6.m μ1.length) _ = _; rw [mk w6 E26], E26.trans ES', LS', h2⟩
                      | _ => exact hh.elim
                    | ins _ _ =>
                      have ep : pushAt μ1.length (.t z) μ6 = none := by unfold pushAt; rw [e6]
                      rw [ep] at h2
                      exact h2.elim
                  | none =>
                    have ep : pushAt μ1.length (.t z) μ6 = none := by unfold pushAt; rw [e6]
                    rw [ep] at h2
                    exact h2.elim
                | _ => exact h2.elim
              | ex c p μ6 => rw [q5] at h2; exact h2.elim
              | bad => rw [q5] at h2; exact h2.elim
            | false =>
              have h2 : Pst G W σ (RelD G) Q w1 ((lcL (xs, o) g dt de (wipeD δ vs) μ1.length (xs.drop (i + 1)) μ5).bind fun _ μ' => lcEnd live μ1.length μ') := h2
              exact iteF ⟨w5, μ5, rfl, E25, L5, h2⟩
          | ex c p μ5 => rw [q4] at h2; exact h2.elim
          | bad => rw [q4] at h2; exact h2.elim
        | ex c p δ4 μ4 => rw [q] at h2; exact h2.elim
        | bk _ _ => rw [q] at h2; exact h2
        | ct _ _ => rw [q] at h2; exact h2
        | rt _ _ => rw [q] at h2; exact h2
        | bad => rw [q] at h2; exact h2
    · exact h2.elim
  · left
    have ei : i = xs.length := by omega
    subst ei
    rw [List.drop_length, lcL] at h2
    split at h2
    · rename_i ck
      refine ⟨I1.stop w2 μ2 E12 L2 ck, ?_⟩
      have h2 : Pst G W σ (RelD G) Q w1 (lcEnd live μ1.length μ2) := h2
      unfold lcEnd at h2
      split at h2
      · rename_i acc e6
        obtain ⟨ho, hz6, hh⟩ := L2.at_ _ _ e6
        have hk6 : μ1.length < w2.N := by have := (List.getElem?_eq_some_iff.mp e6).1; rw [L2.len] at this; exact this
        cases ho with
        | lst us =>
          split at h2
          · have LC := L2.cut (n := μ1.length + 1) hk6
            have EC := E12.cut (n := μ1.length + 1) (by rw [hk]; exact Nat.le_succ _) hk6
            exact h2 (.ref D) (w2.cut (μ1.length + 1)) EC LC (by rw [RelD]; exact ⟨Nat.lt_succ_self _, by show _ = V.ref (w2.m μ1.length); rw [mk w2 E2]⟩)
          · have LC := L2.cut (n := μ1.length) (Nat.le_of_lt hk6)
            have EC := E12.cut (n := μ1.length) (Nat.le_of_eq hk.symm) (Nat.le_of_lt hk6)
            refine h2 (.ref D) (w2.cut μ1.length) EC LC (RelD.t ?_)
            rw [Rel]
            refine ⟨D, us, rfl, by rw [← mk w2 E2]; exact hz6, fun n hn q => ?_, hh.1, RelL.cut (Nat.le_of_lt hk6) _ _ hh.2⟩
            have hn : n < μ1.length := hn
            have q : w2.m n = w2.m μ1.length := by rw [mk w2 E2]; exact q
            have := L2.inj n μ1.length (Nat.lt_trans hn hk6) hk6 q
            omega
        | _ => exact hh.elim
      · exact h2.elim
    · exact h2.elim
theorem le_lc (live : Bool) (hc : X.calm = true) (hN : X.N.Nodup) (hi : LI X W tg iter di) (ok : BlkOk X.N X.env.scope scope own)
    (hg : ∀ (s : Shared) (H : Hp) (C : Addr) (cl : List (Str × Addr)) (fp : List Addr), LG (X.blk s H scope (compEnvC scope cl C X.env) fp) W0 tg ws g)
    (ht : ∀ (s : Shared) (H : Hp) (C : Addr) (cl : List (Str × Addr)) (fp : List Addr), LTs (X.blk s H scope (compEnvC scope cl C X.env) fp) W0 ifs dt)
    (he : ∀ (s : Shared) (H : Hp) (C : Addr) (cl : List (Str × Addr)) (fp : List Addr), LE (X.blk s H scope (compEnvC scope cl C X.env) fp) W0 elt de)
    (hws : ∀ j ∈ ws, j ∈ own.map (·.2)) (hs : ∀ x, foldedSetIterable iter X.env x = pure x := by intro _; rfl) : LE X W (.ListComp elt [⟨tg, iter, ifs, 0⟩] scope pos) (dLc live (own.map (·.2)) di g dt de) :=
  (pe_lc hc hN hi ok hg ht he hs).imp fun σ H Q h => lc_read hws h
/-- name = [..] on one line, the name a local -/
theorem ls_setLc (live : Bool) {i : Nat} {y : Str} {py spos : Pos} (hc : X.calm = true) (hN : X.N.Nodup) (hy : X.N[i]? = some y) (hyl : X.env.scope.names.lookup y = some .local)
    (hsw : swapsWith (.ListComp elt [⟨tg, iter, ifs, 0⟩] scope pos) (some (.Name y py)) spos.line X.env = pure true) (hi : LI X W tg iter di) (ok : BlkOk X.N X.env.scope scope own)
    (hg : ∀ (s : Shared) (H : Hp) (C : Addr) (cl : List (Str × Addr)) (fp : List Addr), LG (X.blk s H scope (compEnvC scope cl C X.env) fp) W0 tg ws g)
    (ht : ∀ (s : Shared) (H : Hp) (C : Addr) (cl : List (Str × Addr)) (fp : List Addr), LTs (X.blk s H scope (compEnvC scope cl C X.env) fp) W0 ifs dt)
    (he : ∀ (s : Shared) (H : Hp) (C : Addr) (cl : List (Str × Addr)) (fp : List Addr), LE (X.blk s H scope (compEnvC scope cl C X.env) fp) W0 elt de)
    (hws : ∀ j ∈ ws, j ∈ own.map (·.2)) (hs : ∀ x, foldedSetIterable iter X.env x = pure x := by intro _; rfl) :
    LS X W (.Assign [.Name y py] (.ListComp elt [⟨tg, iter, ifs, 0⟩] scope pos) spos) (sSet i (dLc live (own.map (·.2)) di g dt de)) := by
  refine (ps_setLc (g := liftG (gx X) W0 ws g) (tt := lift (gx X) W0 sameR dt) (te := lift (gx X) W0 (RelD (gx X)) de) hc hN hy hyl hsw hi ok hg ht he hs).imp fun Dn σ H ⟨w, δ, μ, e, L, S, h⟩ => ?_
  refine lc_read (W := W) (G := gx X) (live := live) (Q := fun x H1 => Dn.nx (σ.set i (some x)) H1) hws ⟨w, δ, μ, e, L, S, PstS.bind L S h fun x v w' μ' E L' r h' => ?_⟩
  exact h' _ w' (Ext.refl w') L' ((S.ext L E).set r i)
end
end TV

/-! TV, ninth part: a def keeps its promise; calls; raise; the law's own call. -/
namespace TV
open PySem PySem.Spec PyProof.Rows L2

/-- the def at f does what F says, by at most level k; nothing is being shown around it -/
structure FnG (P : Program) (w : World) (K : PySem.W.Frag) (mg : Str → Option Value) (base : Heap) (k : Nat) (f : Addr) (fd : FuncData) (ps : List Str) (F : DF) : Prop where
  ar : ∀ args μ, args.length ≠ ps.length → F args μ = .bad
  go : ∀ (A : Around) (outer : List Env) (s : Shared) (H : Hp) (args : Args) (us : List Value) (vs : List V) (Q : VK) (E : XK), Room k A → A.guards = some [] →
    Env0 P w K mg base A outer s H → BindsTo s fd args (ps.zip us) → Vals vs us → spL ⟨K, mg⟩ F vs H Q E →
    codeAny (model P w) A (.call (.ref f) args) (CR (L2.CX P w) outer P w H s Q E) s
theorem FnG.mono {P : Program} {w : World} {K : PySem.W.Frag} {mg : Str → Option Value} {base : Heap} {j k : Nat} {f : Addr} {fd : FuncData} {ps : List Str} {F : DF} (h : FnG P w K mg base j f fd ps F) (hjk : j ≤ k) : FnG P w K mg base k f fd ps F :=
  ⟨h.ar, fun A outer s H args us vs Q E hr => h.go A outer s H args us vs Q E (hr.mono hjk)⟩
theorem FnG.len {P : Program} {w : World} {K : PySem.W.Frag} {mg : Str → Option Value} {base : Heap} {k : Nat} {f : Addr} {fd : FuncData} {ps : List Str} {F : DF} (h : FnG P w K mg base k f fd ps F) {G : Gd} {vs : List V} {H : Hp} {Q : VK} {E : XK} (q : spL G F vs H Q E) : vs.length = ps.length := by
  obtain ⟨w, args, μ, _, _, r, p⟩ := q
  by_cases e : args.length = ps.length
  · rw [← r.length]; exact e
  · rw [h.ar args μ e] at p
    exact p.elim
/-- by its name -/
structure Fe (P : Program) (w : World) (K : PySem.W.Frag) (mg : Str → Option Value) (base : Heap) (k : Nat) (x : Str) (F : DF) : Prop where
  ex : ∃ f fd ps, mg x = some (.ref f) ∧ PySem.W.keepIn K (.ref f) = true ∧ Binds K fd ps [] ∧ FnG P w K mg base k f fd ps F
theorem Fe.mono {P : Program} {w : World} {K : PySem.W.Frag} {mg : Str → Option Value} {base : Heap} {j k : Nat} {x : Str} {F : DF} (h : Fe P w K mg base j x F) (hjk : j ≤ k) : Fe P w K mg base k x F := by
  obtain ⟨f, fd, ps, a, b, c, d⟩ := h.ex
  exact ⟨f, fd, ps, a, b, c, d.mono hjk⟩
abbrev FeX (X : Cx) (k : Nat) (x : Str) (F : DF) : Prop := Fe X.prog X.w X.K X.mg X.base k x F
def dCall (F : DF) (as : DA) : DE := fun δ μ => (as δ μ).bind F
section
variable {X : Cx} {W : WX} {k : Nat} {x : Str} {F : DF} {e : Expr} {es : List Expr} {as : DA} {p pos : Pos}
/-- the callee runs -/
theorem runG {pins : List (Addr × Obj)} {σ : L2.St} {H : Hp} {s : Shared} {Q : VK} {us : List Value} {vs : List V} {f : Addr} {fd : FuncData} {ps : List Str} (D : FnG X.prog X.w X.K X.mg X.base k f fd ps F) (room : Room k X.A) (gd : X.A.guards = some []) (bd : Binds X.K fd ps [])
    (tk : Takes X W) (I : Inv X pins σ H s) (rv : Vals vs us) (want : spL ⟨X.K, X.mg⟩ F vs H Q (WE W σ)) : wpAny (model X.prog X.w) X.A (call (.ref f) us) (EP X pins σ Q) X.xe s := by
  have many : us.length = ps.length := rv.length.symm.trans (D.len want)
  have bound : BindsTo s fd ⟨us, []⟩ (ps.zip us) := by
    have z := bd s us I.kIn (by simpa using many)
    simpa using z
  refine wpAny_call (codeAny_mono (D.go X.A X.stack s H ⟨us, []⟩ us vs Q (WE W σ) room gd I.env0 bound rv want) ?_)
  intro res s' got
  match res, got with
  | .error err, got => exact passAt tk σ pins H s err s' I got
  | .ok (.ret u), got => exact I.after got
  | .ok .next, got => exact got.elim
  | .ok .brk, got => exact got.elim
  | .ok .cont, got => exact got.elim
theorem call_lift {σ : L2.St} {H : Hp} {Q : VK} (h : lift (gx X) W (RelD (gx X)) (dCall F as) σ H Q) : lift (gx X) W (RelDL (gx X)) as σ H fun vs H1 => spL ⟨X.K, X.mg⟩ F vs H1 Q (WE W σ) := by
  obtain ⟨w, δ, μ, e, L, S, h⟩ := h
  refine ⟨w, δ, μ, e, L, S, Pst.bind h fun xs vs w1 μ1 E1 L1 r1 h1 => ⟨w1, xs, μ1, rfl, L1, r1, ?_⟩⟩
  cases q : F xs μ1 with
  | ok y μ2 => rw [q] at h1; exact h1
  | ex c p μ2 => rw [q] at h1; exact h1
  | bad => rw [q] at h1; exact h1
theorem le_call (D : FeX X k x F) (room : Room k X.A) (gd : X.A.guards = some []) (tk : Takes X W) (hg : Gl X x) (ha : LA X W (e :: es) as) (hdb : (x == ("__debug__" : Str)) = false := by decide)
    (he : starEach (e :: es) X.env = (false, eval e X.env) :: starEach es X.env := by rfl) (hpl : (backTo pos (starEach es X.env)).any (·.1) = false := by rfl) : LE X W (.Call (.Name x p) (e :: es) [] pos) (dCall F as) := by
  obtain ⟨f, fd, ps, hm, hk, bd, D⟩ := D.ex
  refine ⟨fun pins s σ H Q I h => wpAny_Call_Name_kw (ld_glob I hg hm ?_ hdb)⟩
  have first := ha.run pos pins s σ H _ I (call_lift h)
  exact PySem.W.callWith_K (h₀ := X.base) I.ok.mod.kin hk (thn first fun us s1 ⟨vs, H1, I1, rv, want⟩ => ⟨I1.kIn, runG D room gd bd tk I1 rv want⟩) he hpl
theorem le_call0 (D : FeX X k x F) (room : Room k X.A) (gd : X.A.guards = some []) (tk : Takes X W) (hg : Gl X x) (hdb : (x == ("__debug__" : Str)) = false := by decide) : LE X W (.Call (.Name x p) [] [] pos) (dCall F dNil) := by
  obtain ⟨f, fd, ps, hm, hk, bd, D⟩ := D.ex
  refine ⟨fun pins s σ H Q I h => wpAny_Call_Name_kw (ld_glob I hg hm ?_ hdb)⟩
  obtain ⟨w, δ, μ, e, L, S, h'⟩ := call_lift h
  exact PySem.W.callWith_K0 I.kIn hk (runG (us := []) D room gd bd tk I .nil (by rw [← e]; exact here_ok h' L RelDL.nil))
/-- f(*xs) -/
theorem le_callStar {q : Pos} {da : DE} (D : FeX X k x F) (room : Room k X.A) (gd : X.A.guards = some []) (tk : Takes X W) (hg : Gl X x) (ha : LE X W e da) (hdb : (x == ("__debug__" : Str)) = false := by decide)
    (hst : starEach [.Starred e q] X.env = [(true, eval e X.env)] := by rfl) : LE X W (.Call (.Name x p) [.Starred e q] [] pos) (dCall F (dStar da dNil)) := by
  obtain ⟨f, fd, ps, hm, hk, bd, D⟩ := D.ex
  refine ⟨fun pins s σ H Q I h => wpAny_Call_Name_kw (ld_glob I hg hm ?_ hdb)⟩
  obtain ⟨w, δ, μ, eH, L, S, h⟩ := call_lift h
  have first := ha.run pins s σ H (fun v H1 => ∃ a vs, v = .ref a ∧ (SqT X.K H1 a vs ∨ SqL X.K H1 a vs) ∧ spL ⟨X.K, X.mg⟩ F vs H1 Q (WE W σ)) I ⟨w, δ, μ, eH, L, S, ?_⟩
  · exact PySem.W.callWith_S (h₀ := X.base) I.ok.mod.kin hk (thn first fun v s1 ⟨y, H1, I1, ry, a, vs, ey, hx, want⟩ => by
      subst ey
      cases ry
      exact StX.star_any I1 hx fun us s2 I2 rv => ⟨I2.kIn, runG D room gd bd tk I2 rv want⟩) hst
  · have h : Pst (gx X) W σ (RelDL (gx X)) (fun vs H1 => spL ⟨X.K, X.mg⟩ F vs H1 Q (WE W σ)) w ((da δ μ).bind fun x μ => (apStar x μ).bind fun ys μ => (dNil δ μ).bind fun xs μ => .ok (ys ++ xs) μ) := h
    refine Pst.bind h fun z v w1 μ1 E1 L1 r1 h1 => ?_
    unfold apStar at h1
    split at h1
    · rename_i d ed
      have n := now_of L1 ed r1
      cases d with
      | list xs =>
        obtain ⟨b, vs, rfl, s1, _, l⟩ := n
        refine ⟨b, vs, rfl, .inr s1, ?_⟩
        exact here_ok h1 L1 (by rw [List.append_nil]; exact RelDL.map l)
      | tuple xs =>
        obtain ⟨b, vs, rfl, s1, _, l⟩ := n.tup
        refine ⟨b, vs, rfl, .inl s1, ?_⟩
        exact here_ok h1 L1 (by rw [List.append_nil]; exact RelDL.map l)
      | _ => exact h1.elim
    · exact h1.elim
end

/-! ## a def of the text -/
section
variable {P : Program} {w : World} {K : PySem.W.Frag} {mg : Str → Option Value} {base : Heap} {k : Nat} {f : Addr} {name qual : Str} {params : Arguments} {body : List Stmt} {scope : Scope} {N ps : List Str}
theorem slots_start {G : Gd} {w : Wd} : ∀ {args : List D} {vs : List V} (m : Nat), RelDL G w args vs → Slots G w (args.map some ++ List.replicate m none) (vs.map some ++ List.replicate m none) := by
  intro args vs m r
  refine ⟨by rw [List.length_append, List.length_append, List.length_map, List.length_map, r.length, List.length_replicate, List.length_replicate], fun i d e => ?_⟩
  by_cases hi : i < args.length
  · rw [List.getElem?_append_left (by rw [List.length_map]; exact hi), List.getElem?_map] at e
    cases q : args[i]? with
    | none => rw [q] at e; cases e
    | some x =>
      rw [q] at e
      cases e
      obtain ⟨v, h1, h2⟩ := r.get q
      exact ⟨v, by rw [List.getElem?_append_left (by rw [List.length_map, ← r.length]; exact hi), List.getElem?_map, h1]; rfl, h2⟩
  · rw [List.getElem?_append_right (by rw [List.length_map]; omega), List.getElem?_replicate] at e
    split at e <;> cases e
theorem fnG_of {dV kV doc pm cdv ct oc : Value} {an od : Option Addr} {osl : Array (Option Value)} {live : Bool} {m : Nat} {b : DS}
    (lk : K.lookup f = some ⟨oc, od, .func (PySem.W.fnOf name qual params body scope dV kV doc pm an cdv ct), osl⟩) (hcd : PySem.W.codeIn K cdv qual = true) (sc : FnScope N ps scope) (hm : N.length = ps.length + m)
    (hb : ∀ (A : Around) (outer : List Env) (s : Shared) (H : Hp) (E : XK), Room k (A.deeper (envOfC qual scope s.heap.objs.size f cdv)) → A.guards = some [] →
      LSs (cxOf (L2.CX P w) P w K mg base N qual scope f cdv A outer s H E) (fun c d _ H => E c d H) body b) :
    FnG P w K mg base (k + 1) f (PySem.W.fnOf name qual params body scope dV kV doc pm an cdv ct) ps (mkF ps.length m live b) := by
  have ar : ∀ args μ, args.length ≠ ps.length → mkF ps.length m live b args μ = .bad := fun args μ h => if_neg h
  refine ⟨ar, fun A outer s H args us vs Q E room gd e0 bd rv want => ?_⟩
  obtain ⟨wd, xs, μ, eH, L, rx, post⟩ := want
  have nx : xs.length = ps.length := Decidable.byContradiction fun z => by rw [ar xs μ z] at post; exact post
  have nv : vs.length = ps.length := by rw [← rx.length]; exact nx
  have kin : K.In s.heap := e0.mod.kin.keeps fun b o e => (e0.bs b o e).1
  have lim : s.heap.NoLimit := e0.mod.nolimit.keeps fun b o e => (e0.bs b o e).1
  have visible : ∀ y ∈ ps.zip us, scope.names.lookup y.1 = some .local ∨ (scope.names.lookup y.1 = some .cell ∧ ((cellsFrom (s.heap.objs.size + 1) scope.names []).lookup y.1).isSome = true) := by
    intro y hy
    rcases sc.par y.1 (List.of_mem_zip (a := y.1) (b := y.2) hy).1 with q | q
    · exact .inl q
    · exact .inr ⟨q, PySem.W.cellsFrom_some _ _ _ (.inl q)⟩
  refine codeAny_call_function room.depth (kin _ _ lk) rfl sc.co sc.gen rfl (PySem.W.codeRec_of kin hcd) (bd _ _ _ _ ?_)
  refine wpAny_newFunctionEnv_cells sc.kind visible ?_
  intro env he s1 made
  subst he
  refine ⟨lim.keeps made.toInCall.keep, codeAny_func ?_⟩
  have inv : Inv (cxOf (L2.CX P w) P w K mg base N qual scope f cdv A outer s H E) [] (L2.start N vs) H s1 := inv_start sc room.hd e0 nv rv made
  have st : L2.start N vs = vs.map some ++ List.replicate m none := by unfold L2.start; rw [hm, nv, Nat.add_sub_cancel_left]
  have body_ok := (hb A outer s H E (room.deeper _) gd).run [] s1 (L2.start N vs) H { nx := fun _ H' => Q .non H', rt := Q } inv ?_
  · refine wpAny_mono body_ok (fun fl s' done => ?_) fun _ _ z => z
    have back : ∀ {σ' : L2.St} {H' : Hp} {v : V} {u : Value}, Inv (cxOf (L2.CX P w) P w K mg base N qual scope f cdv A outer s H E) [] σ' H' s' → RelV v u → Q v H' → CE outer P w H s Q u s' := by
      intro σ' H' v u J r q
      exact ⟨v, H', J.os, J.bare, J.base, J.hok, r, q⟩
    match fl, done with
    | .ret u, ⟨v, σ', H', J, r, q⟩ => exact back J r q
    | .next, ⟨σ', H', J, q⟩ => exact back (v := V.non) (u := Value.none) J rfl q
    | .brk, ⟨_, _, _, q⟩ => exact q.elim
    | .cont, ⟨_, _, _, q⟩ => exact q.elim
  · refine ⟨wd, xs.map some ++ List.replicate m none, μ, eH, L, by rw [st]; exact slots_start m rx, ?_⟩
    have post : Pst ⟨K, mg⟩ (fun c d _ H => E c d H) [] (RelD ⟨K, mg⟩) Q wd (match b (xs.map some ++ List.replicate m none) μ with
      | .rt x μ' => gc live μ.length x μ'
      | .nx _ μ' => gc live μ.length (.t .none) μ'
      | .ex c p _ μ' => .ex c p (μ'.take μ.length)
      | _ => .bad) := by
      have z : mkF ps.length m live b xs μ = _ := if_pos nx
      rw [z] at post
      exact post
    cases q : b (xs.map some ++ List.replicate m none) μ with
    | rt x μ' =>
      rw [q] at post
      exact fun v w' E' L' r => gc_ok L L' E' r post
    | nx δ' μ' =>
      rw [q] at post
      exact fun σ' w' E' L' S' => gc_ok (x := .t .none) L L' E' (RelD.t Rel.nil_) post
    | ex c p δ' μ' =>
      rw [q] at post
      intro C d σ' w' g E' L' S' x'
      have hle := take_len L L' E'
      exact post C d (w'.cut μ.length) g (E'.cut (Nat.le_of_eq L.len.symm) hle) (L'.cut hle) (xrel_cut hle x')
    | bk _ _ => rw [q] at post; exact post.elim
    | ct _ _ => rw [q] at post; exact post.elim
    | bad => rw [q] at post; exact post.elim
/-- .. as the head's facts tell it -/
theorem fe_of {x : Str} {sl : List (Str × V)} {fd : FuncData} {live : Bool} {m : Nat} {b : DS} (F : FunD K x x params body scope [] [] f fd) (g : mg x = some (.ref f)) (bd : Binds K fd ps []) (sc : FnScope N ps scope) (hm : N.length = ps.length + m)
    (hb : ∀ (cdv : Value) (A : Around) (outer : List Env) (s : Shared) (H : Hp) (E : XK), Room k (A.deeper (envOfC x scope s.heap.objs.size f cdv)) → A.guards = some [] →
      LSs (cxOf (L2.CX P w) P w K mg base N x scope f cdv A outer s H E) (fun c d _ H => E c d H) body b) : Fe P w K mg base (k + 1) x (mkF ps.length m live b) := by
  obtain ⟨oc, od, dV, kV, doc, pm, an, cdv, ct, osl, rfl, lk, hcd, _, _⟩ := F.ex
  exact ⟨f, _, ps, g, F.kp, bd, fnG_of lk hcd sc hm fun A outer s H E room gd => hb cdv A outer s H E room gd⟩
end
end TV

/-! TV, tenth part: the law's own call. -/
namespace TV
open PySem PySem.Spec PyProof.Rows L2
section
variable {P : Program} {w : World} {K : PySem.W.Frag} {mg mb : Str → Option Value} {k : Nat} {fa a : Addr} {s : Shared} {its : List Value} {ns : List Int} {x : Str} {F : DF}
theorem rel_ints {G : Gd} {wd : Wd} : ∀ ns : List Int, RelL G wd (ns.map PyData.int) (ns.map V.int)
  | [] => RelL.nil
  | n :: ns => RelL.cons (Rel.int n) (rel_ints ns)
/-- from an abstract heap in which nothing but the script stands -/
theorem law_from {H : Hp} (kin : K.In s.heap) (glob : s.heap.Ns mainGlobals mg) (blt : s.heap.Ns builtinsNs mb) (blt2 : ∀ y : Str, y ≠ "__name__" → mb y = bootBuiltins y) (lim : s.heap.NoLimit) (gens : s.gens = #[])
    (obj : s.heap.get? a = some { cls := .type "list", data := .seq its.toArray }) (few : ns.length ≤ sizeLine) (room : Room k callerA) (hm : mg x = some (.ref fa))
    (D : ∀ base : Heap, K.In base → base.Ns mainGlobals mg → Fe P w K mg base k x F) (yes : ∃ μ, F [.fz (ns.map .int)] [] = .ok (.t (.bool true)) μ)
    (only : ∀ b, H b ≠ none → b = a) (frz : H a ≠ none → (∃ o, H a = some (.frz o (.lst (ns.map V.int)))) ∧ K.lookup a = none) (script : (∃ o, H a = some (.frz o (.lst (ns.map V.int)))) ∨ ∀ H, SqL K H a (ns.map V.int)) (hok : HOk P w H s.heap) :
    codeAny (model P w) callerA (.call (.ref fa) ⟨[.ref a], []⟩) (fun r s' => r = .ok (.ret (.bool true)) ∧ OldK s.heap s'.heap ∧ s'.os = s.os ∧ AllBare s'.gens) s := by
  -- what is not the script lies under the base
  have below : ∀ {b : Addr} {o : Obj}, s.heap.get? b = some o → H b = none → (hidT s.heap H).get? b = some o := fun q n => hidT_get q n
  have notDict : ∀ {b : Addr} {o : Obj} {es : Array DictEntry} {ep : Nat}, s.heap.get? b = some o → o.data = .dict es ep → H b = none := by
    intro b o es ep q d
    refine Decidable.byContradiction fun z => ?_
    have e := only b z
    rw [e, obj] at q
    cases q
    cases d
  have nsBelow : ∀ {b : Addr} {m : Str → Option Value}, s.heap.Ns b m → (hidT s.heap H).Ns b m := by
    intro b m h
    obtain ⟨o, es, ep, q, d, r⟩ := h
    exact ⟨o, es, ep, below q (notDict q d), d, r⟩
  have kBelow : K.In (hidT s.heap H) := by
    intro b o q
    refine below (kin b o q) (Decidable.byContradiction fun z => ?_)
    have e := only b z
    rw [e] at z q
    rw [(frz z).2] at q
    cases q
  have lim' : (hidT s.heap H).NoLimit := by
    obtain ⟨mc, h1, h2⟩ := lim
    exact ⟨mc, nsBelow h1, h2⟩
  have e0 : Env0 P w K mg (hidT s.heap H) callerA [] s H :=
    { frames := rfl, mod := ⟨kBelow, nsBelow glob, ⟨mb, nsBelow blt, blt2⟩, lim'⟩, bs := fun b o q => of_hidT q, bsz := Nat.le_of_eq (hidT_size _ _), funs := trivial, frf := fun b hb => (by simp [frs] at hb), hok := hok, bare := .of_eq gens }
  obtain ⟨f, fd, ps, hm', keep, bd, G⟩ := (D _ kBelow (nsBelow glob)).ex
  obtain rfl : fa = f := by rw [hm] at hm'; cases hm'; rfl
  obtain ⟨μ, yes⟩ := yes
  have want : spL ⟨K, mg⟩ F [.ref a] H (fun v _ => v = .bl true) (fun _ _ _ => False) := by
    refine ⟨⟨H, fun _ => 0, 0⟩, [.fz (ns.map .int)], [], rfl, ⟨rfl, fun i j hi => absurd hi (Nat.not_lt_zero _), fun i o q => by simp at q⟩, RelDL.cons ?_ RelDL.nil, ?_⟩
    · rw [RelD]
      exact ⟨a, ns.map V.int, rfl, script, by rw [List.length_map]; exact few, rel_ints ns⟩
    · rw [yes]
      intro v w' _ _ r
      rw [RelD] at r
      rw [Rel] at r
      exact r
  have one : ps.length = 1 := (G.len want).symm
  have bound : BindsTo s fd ⟨[.ref a], []⟩ (ps.zip [.ref a]) := by
    have z := bd s [.ref a] kin (by rw [one]; rfl)
    simpa using z
  refine codeAny_mono (G.go callerA [] s H ⟨[.ref a], []⟩ [.ref a] [.ref a] _ _ room rfl e0 bound (.cons rfl .nil) want) ?_
  intro r s' got
  match r, got with
  | .error e, got => exact (takes_no got).elim
  | .ok .next, got => exact got.elim
  | .ok .brk, got => exact got.elim
  | .ok .cont, got => exact got.elim
  | .ok (.ret u), got =>
    obtain ⟨v, H', os, bare, un, hok', rv, q⟩ := got
    obtain rfl : v = .bl true := q
    obtain rfl : u = Value.bool true := rv
    refine ⟨rfl, OldK.of_keep fun b o hb => ?_, os, bare⟩
    by_cases z : H b = none
    · exact un.keep b o hb z (fun m => by cases m) (by simp)
    · have e := only b z
      rw [e] at z hb ⊢
      obtain ⟨⟨ob, zf⟩, _⟩ := frz z
      obtain ⟨e1, _⟩ := hok a _ zf
      obtain ⟨e2, _⟩ := hok' a _ (un.frzs a ob _ zf)
      rw [hb] at e1
      cases e1
      exact e2
where
  takes_no {outer : List Env} {H : Hp} {s : Shared} {e : Value} {s' : Shared} (h : L2.CX P w outer H s (fun _ _ _ => False) e s') : False := by
    obtain ⟨_, _, _, _, _, _, _, _, _, _, _, _, z⟩ := h
    exact z
/-- the goal that the head leaves -/
theorem walk_fe {l : PySem.W.OpenLaw} {n : Nat} {q : Program} {loose : List Str} {XP : (Str → Option Value) → Heap → Prop} {YP : World → Heap → Prop} {d : DefRec}
    (hn : l.most = some n) (hn2 : n ≤ sizeLine) (hdf : d.params.defaults = []) (room : Room k callerA) (hx : d.name = x)
    (top : ∀ (w : World) (mg : Str → Option Value) (h : Heap), YP w h → h.Ns mainGlobals mg → ∃ K, K.In h ∧ ∀ base : Heap, K.In base → base.Ns mainGlobals mg → Fe l.prog w K mg base k x F)
    (yes : ∀ ns : List Int, ns.length ≤ n → ∃ μ, F [.fz (ns.map .int)] [] = .ok (.t (.bool true)) μ) :
    PySem.W.WalkO q loose XP YP l.row.toRowW d [] (fun f vs => PySem.call f vs) := by
  refine Att.attach_call hn hdf ?_
  intro w s₀ s₁ mg mb fa o pm cd doc a its ns G Y ho hd hcd hmg obj areInts few gens
  obtain ⟨K, kin, D⟩ := top w mg _ Y G.T.g
  have line : ns.length ≤ sizeLine := Nat.le_trans few hn2
  have rv := L2.vals_ints areInts
  rw [hx] at hmg
  cases known : K.lookup a with
  | some ob =>
    have e := kin a ob known
    rw [obj] at e
    cases e
    have lens := areInts.length
    refine law_from (H := fun _ => none) kin G.T.g G.T.b G.T.builtins G.T.nolimit gens obj line room hmg D (yes ns few) (fun b z => absurd rfl z) (fun z => absurd rfl z) (.inr fun H => .inr ⟨_, its.toArray, _, known, rfl, rfl, rfl, ?_, ?_⟩) (fun b u z => by cases z)
    · rw [List.size_toArray, lens]; exact line
    · simpa using rv
  | none =>
    have pick : ∀ b, (if b = a then some (HO.frz { cls := .type "list", data := .seq its.toArray } (.lst (ns.map V.int))) else none) ≠ none → b = a := fun b z => Decidable.byContradiction fun e => z (if_neg e)
    refine law_from (H := fun b => if b = a then some (.frz { cls := .type "list", data := .seq its.toArray } (.lst (ns.map V.int))) else none) kin G.T.g G.T.b G.T.builtins G.T.nolimit gens obj line room hmg D (yes ns few) pick
      (fun _ => ⟨⟨_, if_pos rfl⟩, known⟩) (.inl ⟨_, if_pos rfl⟩) ?_
    intro b u z
    by_cases e : b = a
    · subst e
      have z : some (HO.frz { cls := .type "list", data := .seq its.toArray } (.lst (ns.map V.int))) = some u := (if_pos rfl).symm.trans z
      cases z
      exact ⟨obj, by rw [List.length_map]; exact line, its, _, rv, obj⟩
    · have z : none = some u := (if_neg e).symm.trans z
      cases z
end
end TV

/-! TV, eleventh part: built-in functions and methods. -/
namespace TV
open PySem PySem.Spec PyProof.Rows L2

/-! ## functions -/
def CallOk (X : Cx) (f : Value) (g : DF) : Prop := ∃ r, CallR X f r ∧ ∀ (W : WX) (σ : L2.St) (w : Wd) (μ : Mu) (xs : List D) (vs : List V) (Q : VK), Live (gx X) w μ → RelDL (gx X) w xs vs → Pst (gx X) W σ (RelD (gx X)) Q w (g xs μ) → r vs w.H Q
section
variable {X : Cx} {W : WX} {x : Str} {e : Expr} {es : List Expr} {as : DA} {p pos : Pos} {id T : String} {g : DF}
theorem le_callB (h : CallOk X (.builtin id) g) (hg : Gl X x) (hm : X.mg x = none) (hv : bootBuiltins x = some (.builtin id)) (ha : LA X W (e :: es) as) (hn : x ≠ "__name__" := by decide) (hdb : (x == ("__debug__" : Str)) = false := by decide)
    (he : starEach (e :: es) X.env = (false, eval e X.env) :: starEach es X.env := by rfl) (hpl : (backTo pos (starEach es X.env)).any (·.1) = false := by rfl) : LE X W (.Call (.Name x p) (e :: es) [] pos) (dCall g as) := by
  obtain ⟨r, c, k⟩ := h
  refine (pe_callB c hg hm hv ha hn hdb he hpl).imp fun σ H Q ⟨w, δ, μ, eH, L, S, h⟩ => ?_
  exact ⟨w, δ, μ, eH, L, S, Pst.bind h fun xs vs w1 μ1 E1 L1 r1 h1 => k W σ w1 μ1 xs vs Q L1 r1 h1⟩
theorem le_callTy (h : CallOk X (.type T) g) (hg : Gl X x) (hm : X.mg x = none) (hv : bootBuiltins x = some (.type T)) (ha : LA X W (e :: es) as) (hn : x ≠ "__name__" := by decide) (hdb : (x == ("__debug__" : Str)) = false := by decide)
    (he : starEach (e :: es) X.env = (false, eval e X.env) :: starEach es X.env := by rfl) (hpl : (backTo pos (starEach es X.env)).any (·.1) = false := by rfl) : LE X W (.Call (.Name x p) (e :: es) [] pos) (dCall g as) := by
  obtain ⟨r, c, k⟩ := h
  refine (pe_callTy c hg hm hv ha hn hdb he hpl).imp fun σ H Q ⟨w, δ, μ, eH, L, S, h⟩ => ?_
  exact ⟨w, δ, μ, eH, L, S, Pst.bind h fun xs vs w1 μ1 E1 L1 r1 h1 => k W σ w1 μ1 xs vs Q L1 r1 h1⟩
/-- one argument, read -/
def g1 (f : PyData → Option PyData) : DF := fun xs μ => match xs with
  | [x] => ap1 f x μ
  | _ => .bad
theorem call1 {f : Value} {h : PyData → Option PyData} {r : List V → Hp → VK → Prop} (c : CallR X f r)
    (k : ∀ (w : Wd) (μ : Mu) (q d : PyData) (v : V) (Q : VK), Live (gx X) w μ → h q = some d → Now (gx X) w q v → (∀ v w', Ext w w' → Live (gx X) w' μ → Rel (gx X) w' d v → Q v w'.H) → r [v] w.H Q) : CallOk X f (g1 h) := by
  refine ⟨r, c, fun W σ w μ xs vs Q L rx hp => ?_⟩
  unfold g1 at hp
  split at hp
  · rw [RelDL] at rx
    obtain ⟨v, r', rfl, r1, r2⟩ := rx
    rw [RelDL] at r2
    subst r2
    obtain ⟨q, d, e, n, hQ⟩ := ap1_ok L r1 hp
    exact k w μ q d v Q L e n hQ
  · exact hp.elim
def fLen : PyData → Option PyData
  | .str x => some (.int (x.length : Nat))
  | .list xs => some (.int (xs.length : Nat))
  | .tuple xs => some (.int (xs.length : Nat))
  | _ => none
theorem k_len : CallOk X (.builtin "len") (g1 fLen) := call1 call_len fun w μ q d v Q L e n hQ => by
  unfold fLen at e
  split at e
  · cases e
    exact ⟨v, _, rfl, by rw [n.str.1]; exact ⟨n.str.2, rfl⟩, hQ _ w (Ext.refl w) L (Rel.int _)⟩
  · cases e
    obtain ⟨a, vs, rfl, s, _, l⟩ := n
    exact ⟨_, _, rfl, .inl ⟨vs, s, l.length⟩, hQ _ w (Ext.refl w) L (Rel.int _)⟩
  · cases e
    obtain ⟨a, vs, rfl, s, _, l⟩ := n.tup
    exact ⟨_, _, rfl, .inr ⟨vs, s, l.length⟩, hQ _ w (Ext.refl w) L (Rel.int _)⟩
  · cases e
def fAbs : PyData → Option PyData
  | .int i => some (.int (if i < 0 then -i else i))
  | _ => none
theorem k_abs : CallOk X (.builtin "abs") (g1 fAbs) := call1 call_abs fun w μ q d v Q L e n hQ => by
  unfold fAbs at e
  split at e
  · cases e
    exact ⟨_, by rw [n.int], hQ _ w (Ext.refl w) L (Rel.int _)⟩
  · cases e
def fInt : PyData → Option PyData
  | .int i => some (.int i)
  | .bool b => some (.int (if b then 1 else 0))
  | .str x => if x.length ≤ 640 then (PySem.intText? x).map .int else none
  | _ => none
theorem k_int : CallOk X (.type "int") (g1 fInt) := call1 (call_int1.or call_int_str) fun w μ q d v Q L e n hQ => by
  unfold fInt at e
  split at e
  · cases e
    exact .inl (.inl ⟨_, by rw [n.int], hQ _ w (Ext.refl w) L (Rel.int _)⟩)
  · cases e
    exact .inl (.inr ⟨_, by rw [n.bool], hQ _ w (Ext.refl w) L (Rel.int _)⟩)
  · split at e
    · rename_i z
      obtain ⟨i, e1, rfl⟩ := Option.map_eq_some_iff.mp e
      exact .inr ⟨_, i, by rw [n.str.1], e1, z, hQ _ w (Ext.refl w) L (Rel.int _)⟩
    · cases e
  · cases e
def fStr : PyData → Option PyData
  | .int i => if i.natAbs.log2 < 1920 then some (.str (toString i)) else none
  | .str x => some (.str x)
  | _ => none
theorem k_str : CallOk X (.type "str") (g1 fStr) := call1 (call_str_int.or SkE.call_str_str) fun w μ q d v Q L e n hQ => by
  unfold fStr at e
  split at e
  · split at e
    · rename_i z
      cases e
      exact .inl ⟨_, by rw [n.int], z, hQ _ w (Ext.refl w) L (Rel.str (int_text_fits z))⟩
    · cases e
  · cases e
    exact .inr ⟨_, by rw [n.str.1], hQ _ w (Ext.refl w) L (Rel.str n.str.2)⟩
  · cases e
/-- tuple(x) -/
def fTuple : PyData → Option PyData
  | .list xs => some (.tuple xs)
  | .tuple xs => some (.tuple xs)
  | _ => none
theorem k_tuple : CallOk X (.type "tuple") (g1 fTuple) := call1 call_tuple_of fun w μ q d v Q L e n hQ => by
  unfold fTuple at e
  split at e
  · cases e
    obtain ⟨a, vs, rfl, s, z, l⟩ := n
    exact ⟨a, vs, rfl, .inl ⟨s, fun p hp => hQ _ (w.put p (.tup vs)) (Ext.new L hp) (Live.new L hp) (Rel.newT L l z hp)⟩⟩
  · cases e
    obtain ⟨a, vs, rfl, s, z, l⟩ := n.tup
    exact ⟨a, vs, rfl, .inr ⟨s, hQ _ w (Ext.refl w) L n⟩⟩
  · cases e
/-- list(x): a new one -/
def gList (live : Bool) : DF := fun xs μ => match xs with
  | [x] => match (rd μ x).bind itemsOf with
    | some ys => newL live ys μ
    | none => .bad
  | _ => .bad
theorem k_list (live : Bool) : CallOk X (.type "list") (gList live) := by
  refine ⟨_, call_list_of, fun W σ w μ xs vs Q L rx hp => ?_⟩
  unfold gList at hp
  split at hp
  · rw [RelDL] at rx
    obtain ⟨v, r', rfl, r1, r2⟩ := rx
    rw [RelDL] at r2
    subst r2
    split at hp
    · rename_i ys e
      obtain ⟨d, e1, e2⟩ := Option.bind_eq_some_iff.mp e
      have n := now_of L e1 r1
      cases d with
      | list zs =>
        cases e2
        obtain ⟨a, vs, rfl, s, z, l⟩ := n
        exact ⟨a, vs, rfl, .inl s, fun p hp' => newL_ok hp L l z hp'⟩
      | tuple zs =>
        cases e2
        obtain ⟨a, vs, rfl, s, z, l⟩ := n.tup
        exact ⟨a, vs, rfl, .inr s, fun p hp' => newL_ok hp L l z hp'⟩
      | _ => cases e2
    · exact hp.elim
  · exact hp.elim
/-! ### repr -/
def repOk (d : PyData) : Bool := d.showable && d.leavesShort 2000 && decide (d.bulk ≤ 8000) && decide (d.depth ≤ 50)
def fRepr (d : PyData) : Option PyData := if repOk d then some (.str d.shown) else none
mutual
theorem noDict_rel {G : Gd} {w : Wd} : ∀ (d : PyData) (v : V), Rel G w d v → d.hasDict = false
  | .none, _, _ => by simp [PyData.hasDict]
  | .bool _, _, _ => by simp [PyData.hasDict]
  | .int _, _, _ => by simp [PyData.hasDict]
  | .str _, _, _ => by simp [PyData.hasDict]
  | .dict _, _, h => by simp [Rel] at h
  | .list xs, v, h => by
    rw [Rel] at h
    obtain ⟨a, vs, _, _, _, _, l⟩ := h
    rw [PyData.hasDict]
    exact noDict_relL xs vs l
  | .tuple xs, v, h => by
    rw [Rel] at h
    obtain ⟨a, vs, _, _, _, l⟩ := h
    rw [PyData.hasDict]
    exact noDict_relL xs vs l
theorem noDict_relL {G : Gd} {w : Wd} : ∀ (ds : List PyData) (vs : List V), RelL G w ds vs → PyData.hasDictAll ds = false
  | [], _, _ => by simp [PyData.hasDictAll]
  | d :: ds, vs, h => by
    rw [RelL] at h
    obtain ⟨v, r, _, h1, h2⟩ := h
    rw [PyData.hasDictAll, noDict_rel d v h1, noDict_relL ds r h2]
    rfl
end
theorem noDict_now {G : Gd} {w : Wd} {d : PyData} {v : V} (h : Now G w d v) : d.hasDict = false := by
  cases d with
  | list xs =>
    obtain ⟨a, vs, _, _, _, l⟩ := h
    rw [PyData.hasDict]
    exact noDict_relL xs vs l
  | none => exact noDict_rel (G := G) (w := w) _ v h
  | bool b => exact noDict_rel (G := G) (w := w) _ v h
  | int i => exact noDict_rel (G := G) (w := w) _ v h
  | str x => exact noDict_rel (G := G) (w := w) _ v h
  | tuple xs => exact noDict_rel (G := G) (w := w) _ v h
  | dict kvs => exact noDict_rel (G := G) (w := w) _ v h
theorem shown_len {d : PyData} (h : repOk d = true) : d.shown.length ≤ sizeLine := by
  unfold repOk at h
  simp only [Bool.and_eq_true, decide_eq_true_eq] at h
  have := PyData.shown_le_bulk 2000 (by decide) d h.1.1.2
  rw [sizeLine_eq]
  have h2 := h.1.2
  omega
theorem call_reprD (gd : X.A.guards = some []) (hu : X.A.units + 64 < cLine) : CallR X (.builtin "repr") (fun xs H Q => ∃ v d, xs = [v] ∧ Dp X.K H v d ∧ repOk d = true ∧ d.hasDict = false ∧ Q (.str d.shown) H) := by
  intro pins s σ H xs us Q I r h
  obtain ⟨v, d, rfl, dp, ok, nd, q⟩ := h
  obtain ⟨u, rfl, rv⟩ := vals1 r
  have len := shown_len ok
  have ok' := ok
  unfold repOk at ok'
  simp only [Bool.and_eq_true, decide_eq_true_eq] at ok'
  have fin : ∀ h' tk u' , (∀ b o, s.heap.get? b = some o → h'.get? b = some o) → EP X pins σ Q (.str d.shown u') { s with heap := h', toks := tk } := fun h' tk u' k => ⟨.str d.shown, H, I.kept k, ⟨_, rfl⟩, q⟩
  obtain ⟨as, rds⟩ := Dp.reads I d v u dp rv
  cases rds with
  | none => exact PySem.P.repr_of_none (fin s.heap _ _ fun _ _ z => z)
  | bool b => 
    refine PySem.P.repr_of_bool ?_
    have := fin s.heap (s.toks + 1) s.toks fun _ _ z => z
    rw [PyData.shown] at this
    cases b <;> exact this
  | int i t => exact PySem.P.repr_of_int (by simpa [PyData.showable] using ok'.1.1.1) (fin s.heap _ _ fun _ _ z => z)
  | str y t => exact PySem.P.repr_of_str (fin s.heap _ _ fun _ _ z => z) (by rw [PyData.shown] at len; exact len)
  | list h1 h2 h3 h4 => exact repr_of_reads' (.list h1 h2 h3 h4) ok'.1.1.1 (PyData.noDict_hsm nd) gd (by have := ok'.2; omega) (fun _ _ z => z) (fun h' u' tk k => fin h' tk u' k) len
  | tuple h1 h2 h3 h4 => exact repr_of_reads' (.tuple h1 h2 h3 h4) ok'.1.1.1 (PyData.noDict_hsm nd) gd (by have := ok'.2; omega) (fun _ _ z => z) (fun h' u' tk k => fin h' tk u' k) len
  | dict _ _ _ _ _ => simp [PyData.hasDict] at nd
theorem k_repr (gd : X.A.guards = some []) (hu : X.A.units + 64 < cLine) : CallOk X (.builtin "repr") (g1 fRepr) := call1 (call_reprD gd hu) fun w μ q d v Q L e n hQ => by
  unfold fRepr at e
  split at e
  · rename_i ok
    cases e
    exact ⟨v, q, rfl, n.dp, ok, noDict_now n, hQ _ w (Ext.refl w) L (Rel.str (shown_len ok))⟩
  · cases e
end
end TV

/-! TV, twelfth part: isinstance, any, all; methods; lists added; raise. -/
namespace TV
open PySem PySem.Spec PyProof.Rows L2

/-! ## isinstance -/
def dK (x : D) : DE := fun _ μ => .ok x μ
def tyName : PyData → String
  | .none => "NoneType"
  | .bool _ => "bool"
  | .int _ => "int"
  | .str _ => "str"
  | .list _ => "list"
  | .tuple _ => "tuple"
  | .dict _ => "dict"
def isInt : PyData → Bool
  | .int _ => true
  | .bool _ => true
  | _ => false
def isBl : PyData → Bool
  | .bool _ => true
  | _ => false
def isS : PyData → Bool
  | .str _ => true
  | _ => false
def isL : PyData → Bool
  | .list _ => true
  | _ => false
def isT : PyData → Bool
  | .tuple _ => true
  | _ => false
def isB (n : String) (d : PyData) : Option Bool := if n = "int" then some (isInt d) else if n = "tuple" then some (isT d) else if n = "str" then some (isS d) else if n = "list" then some (isL d) else if n = "bool" then some (isBl d) else none
def gIsi : DF := fun xs μ => match xs with
  | [x, .ty n] => match rd μ x with
    | some d => match isB n d with
      | some b => .ok (.t (.bool b)) μ
      | none => .bad
    | none => .bad
  | _ => .bad
theorem sqL_ty {K : PySem.W.Frag} {H : Hp} {a : Addr} {xs : List V} (h : SqL K H a xs) : TyX K H (.ref a) (.type "list") := by
  rcases h with (h | ⟨o, h⟩) | ⟨o, its, n, h, c, _⟩
  · exact .base (.lst h)
  · exact .base (.frz h)
  · exact .kList h c
theorem sqT_ty {K : PySem.W.Frag} {H : Hp} {a : Addr} {xs : List V} (h : SqT K H a xs) : TyX K H (.ref a) (.type "tuple") := by
  rcases h with (h | ⟨o, h⟩) | ⟨o, its, n, h, c, _⟩
  · exact .base (.tup h)
  · exact .fTuple h
  · exact .kTuple h c
theorem tyx_now {G : Gd} {w : Wd} {d : PyData} {v : V} (h : Now G w d v) : TyX G.K w.H v (.type (tyName d)) := by
  cases d with
  | none => rw [h.none]; exact .base .non
  | bool b => rw [h.bool]; exact .base (.bl b)
  | int i => rw [h.int]; exact .base (.int i)
  | str x => rw [h.str.1]; exact .base (.str x)
  | list xs =>
    obtain ⟨a, vs, rfl, s, _⟩ := h
    exact sqL_ty s
  | tuple xs =>
    obtain ⟨a, vs, rfl, s, _⟩ := h.tup
    exact sqT_ty s
  | dict xs => exact absurd (noDict_now h) (by simp [PyData.hasDict])
theorem isB_kit {n : String} {d : PyData} {b : Bool} (hd : d.hasDict = false) (h : isB n d = some b) : kitB (tyName d) n = some b := by
  unfold isB at h
  split at h
  · subst n; cases h
    cases d with
    | none => exact (show kitB "NoneType" "int" = some false by decide +kernel)
    | bool _ => exact (show kitB "bool" "int" = some true by decide +kernel)
    | int _ => exact (show kitB "int" "int" = some true by decide +kernel)
    | str _ => exact (show kitB "str" "int" = some false by decide +kernel)
    | list _ => exact (show kitB "list" "int" = some false by decide +kernel)
    | tuple _ => exact (show kitB "tuple" "int" = some false by decide +kernel)
    | dict _ => simp [PyData.hasDict] at hd
  split at h
  · subst n; cases h
    cases d with
    | none => exact (show kitB "NoneType" "tuple" = some false by decide +kernel)
    | bool _ => exact (show kitB "bool" "tuple" = some false by decide +kernel)
    | int _ => exact (show kitB "int" "tuple" = some false by decide +kernel)
    | str _ => exact (show kitB "str" "tuple" = some false by decide +kernel)
    | list _ => exact (show kitB "list" "tuple" = some false by decide +kernel)
    | tuple _ => exact (show kitB "tuple" "tuple" = some true by decide +kernel)
    | dict _ => simp [PyData.hasDict] at hd
  split at h
  · subst n; cases h
    cases d with
    | none => exact (show kitB "NoneType" "str" = some false by decide +kernel)
    | bool _ => exact (show kitB "bool" "str" = some false by decide +kernel)
    | int _ => exact (show kitB "int" "str" = some false by decide +kernel)
    | str _ => exact (show kitB "str" "str" = some true by decide +kernel)
    | list _ => exact (show kitB "list" "str" = some false by decide +kernel)
    | tuple _ => exact (show kitB "tuple" "str" = some false by decide +kernel)
    | dict _ => simp [PyData.hasDict] at hd
  split at h
  · subst n; cases h
    cases d with
    | none => exact (show kitB "NoneType" "list" = some false by decide +kernel)
    | bool _ => exact (show kitB "bool" "list" = some false by decide +kernel)
    | int _ => exact (show kitB "int" "list" = some false by decide +kernel)
    | str _ => exact (show kitB "str" "list" = some false by decide +kernel)
    | list _ => exact (show kitB "list" "list" = some true by decide +kernel)
    | tuple _ => exact (show kitB "tuple" "list" = some false by decide +kernel)
    | dict _ => simp [PyData.hasDict] at hd
  split at h
  · subst n; cases h
    cases d with
    | none => exact (show kitB "NoneType" "bool" = some false by decide +kernel)
    | bool _ => exact (show kitB "bool" "bool" = some true by decide +kernel)
    | int _ => exact (show kitB "int" "bool" = some false by decide +kernel)
    | str _ => exact (show kitB "str" "bool" = some false by decide +kernel)
    | list _ => exact (show kitB "list" "bool" = some false by decide +kernel)
    | tuple _ => exact (show kitB "tuple" "bool" = some false by decide +kernel)
    | dict _ => simp [PyData.hasDict] at hd
  cases h
section
variable {X : Cx} {W : WX} {x : Str} {e o : Expr} {es : List Expr} {d : DE} {as : DA} {p pos apos cpos : Pos} {id T : String} {name : Str}
theorem le_K {y : D} {v : V} (he : PE X e (tC v)) (r : ∀ w, RelD (gx X) w y v) : LE X W e (dK y) := he.imp fun σ H Q ⟨w, δ, μ, e, L, S, h⟩ => by
  subst e
  exact here_ok h L (r w)
theorem le_ty (hg : Gl X x) (hm : X.mg x = none) (hv : bootBuiltins x = some (.type T)) (hn : x ≠ "__name__" := by decide) (hd : (x == ("__debug__" : Str)) = false := by decide) : LE X W (.Name x pos) (dK (.ty T)) :=
  le_K (v := .ty T) (pe_bltn hg hm hv rfl hn hd) fun w => by rw [RelD]
theorem k_isi : CallOk X (.builtin "isinstance") gIsi := by
  refine ⟨_, call_isi, fun W σ w μ xs vs Q L rx hp => ?_⟩
  unfold gIsi at hp
  split at hp
  · rw [RelDL] at rx
    obtain ⟨v, r', rfl, r1, r2⟩ := rx
    rw [RelDL] at r2
    obtain ⟨v2, r', rfl, r2, r3⟩ := r2
    rw [RelDL] at r3
    subst r3
    rw [RelD] at r2
    subst r2
    split at hp
    · rename_i q e
      split at hp
      · rename_i b e2
        have n := now_of L e r1
        exact ⟨v, _, _, _, b, rfl, .ty _, tyx_now n, kit_ty (isB_kit (noDict_now n) e2), here_ok hp L (RelD.t (Rel.bool b))⟩
      · exact hp.elim
    · exact hp.elim
  · exact hp.elim

/-! ## any, all -/
def blsOf : List PyData → Option (List Bool)
  | [] => some []
  | .bool b :: r => (blsOf r).map (b :: ·)
  | _ => none
theorem blsOf_eq : ∀ {xs : List PyData} {bs : List Bool}, blsOf xs = some bs → xs = bs.map .bool
  | [], bs, h => by cases h; rfl
  | .bool b :: r, bs, h => by
    rw [blsOf] at h
    obtain ⟨cs, h1, rfl⟩ := Option.map_eq_some_iff.mp h
    rw [blsOf_eq h1]; rfl
  | .none :: _, _, h => by simp [blsOf] at h
  | .int _ :: _, _, h => by simp [blsOf] at h
  | .str _ :: _, _, h => by simp [blsOf] at h
  | .list _ :: _, _, h => by simp [blsOf] at h
  | .tuple _ :: _, _, h => by simp [blsOf] at h
  | .dict _ :: _, _, h => by simp [blsOf] at h
theorem rel_bls {G : Gd} {w : Wd} : ∀ {bs : List Bool} {vs : List V}, RelL G w (bs.map .bool) vs → vs = bs.map .bl
  | [], vs, h => by rw [List.map_nil, RelL] at h; exact h
  | b :: bs, vs, h => by
    rw [List.map_cons, RelL] at h
    obtain ⟨v, r, rfl, h1, h2⟩ := h
    rw [Rel] at h1
    rw [h1, rel_bls h2]; rfl
def fAny : PyData → Option PyData
  | .list xs => (blsOf xs).map fun bs => .bool (bs.any fun b => b)
  | _ => none
def fAll : PyData → Option PyData
  | .list xs => (blsOf xs).map fun bs => .bool (bs.all fun b => b)
  | _ => none
theorem k_any (hc : X.calm = true) : CallOk X (.builtin "any") (g1 fAny) := call1 (cr_any hc) fun w μ q d v Q L e n hQ => by
  unfold fAny at e
  split at e
  · obtain ⟨bs, e1, rfl⟩ := Option.map_eq_some_iff.mp e
    rw [blsOf_eq e1] at n
    obtain ⟨a, vs, rfl, s, _, l⟩ := n
    rw [rel_bls l] at s
    exact ⟨a, bs, rfl, s, hQ _ w (Ext.refl w) L (Rel.bool _)⟩
  · cases e
theorem k_all (hc : X.calm = true) : CallOk X (.builtin "all") (g1 fAll) := call1 (cr_all hc) fun w μ q d v Q L e n hQ => by
  unfold fAll at e
  split at e
  · obtain ⟨bs, e1, rfl⟩ := Option.map_eq_some_iff.mp e
    rw [blsOf_eq e1] at n
    obtain ⟨a, vs, rfl, s, _, l⟩ := n
    rw [rel_bls l] at s
    exact ⟨a, bs, rfl, s, hQ _ w (Ext.refl w) L (Rel.bool _)⟩
  · cases e

/-! ## methods -/
abbrev DM := D → List D → Mu → R D
def rdIs (c : PyData → Bool) (μ : Mu) (x : D) : Bool := match rd μ x with
  | some p => c p
  | none => false
def dMeth (c : PyData → Bool) (g : DM) (a : DE) (as : DA) : DE := fun δ μ => (a δ μ).bind fun x μ1 => if rdIs c μ1 x then (as δ μ1).bind fun xs μ2 => g x xs μ2 else .bad
def MthOk (X : Cx) (id : String) (g : DM) : Prop := ∃ r, MtR X id r ∧ ∀ (W : WX) (σ : L2.St) (w : Wd) (μ : Mu) (x : D) (xs : List D) (v : V) (vs : List V) (Q : VK),
  Live (gx X) w μ → RelD (gx X) w x v → RelDL (gx X) w xs vs → Pst (gx X) W σ (RelD (gx X)) Q w (g x xs μ) → r v vs w.H Q
def TyC (X : Cx) (T : String) (c : PyData → Bool) : Prop := ∀ (w : Wd) (p : PyData) (v : V), c p = true → Now (gx X) w p v → tyV X.K T v w.H
theorem tyC_list : TyC X "list" isL := fun w p v h n => by
  unfold isL at h
  split at h
  · obtain ⟨a, vs, rfl, s, _⟩ := n
    exact .inl ⟨rfl, _, s⟩
  · cases h
theorem tyC_str : TyC X "str" isS := fun w p v h n => by
  unfold isS at h
  split at h
  · rw [n.str.1]; rfl
  · cases h
theorem Pst.imp {α β : Type} {G : Gd} {W : WX} {σ : L2.St} {rel : Wd → α → β → Prop} {Q Q' : β → Hp → Prop} {w : Wd} {r : R α} (f : ∀ v H, Q v H → Q' v H) (h : Pst G W σ rel Q w r) : Pst G W σ rel Q' w r := by
  cases r with
  | ok x μ => exact fun v w' E L r => f _ _ (h v w' E L r)
  | ex c p μ => exact h
  | bad => exact h
theorem meth_read {c : PyData → Bool} {g : DM} {r : V → List V → Hp → VK → Prop} {W : WX} {σ : L2.St} {H : Hp} {Q : VK} (ty : TyC X T c)
    (k : ∀ (w : Wd) (μ : Mu) (x : D) (xs : List D) (v : V) (vs : List V), Live (gx X) w μ → RelD (gx X) w x v → RelDL (gx X) w xs vs → Pst (gx X) W σ (RelD (gx X)) Q w (g x xs μ) → r v vs w.H Q)
    (h : lift (gx X) W (RelD (gx X)) (dMeth c g d as) σ H Q) :
    lift (gx X) W (RelD (gx X)) d σ H fun x H1 => tyV X.K T x H1 ∧ lift (gx X) W (RelDL (gx X)) as σ H1 fun xs H2 => r x xs H2 Q := by
  obtain ⟨w, δ, μ, e, L, S, h⟩ := h
  refine ⟨w, δ, μ, e, L, S, Pst.bind h fun x v w1 μ1 E1 L1 r1 h1 => ?_⟩
  split at h1
  · rename_i ht
    unfold rdIs at ht
    split at ht
    · rename_i p ep
      refine ⟨ty w1 p v ht (now_of L1 ep r1), w1, δ, μ1, rfl, L1, S.ext L E1, Pst.bind h1 fun xs vs w2 μ2 E2 L2 r2 h2 => ?_⟩
      exact k w2 μ2 x xs v vs L2 (RelD.ext L1 E2 _ _ r1) r2 h2
    · cases ht
  · exact h1.elim
theorem le_meth {c : PyData → Bool} {g : DM} (pa : PlainAttrs T) (slot : Slot T name id) (hty : typeOf (.builtin id) = pure (.type "method_descriptor")) (hm : MthOk X id g) (ty : TyC X T c) (ho : LE X W o d) (ha : LA X W (e :: es) as)
    (hbase : attributeBase o name X.env (eval o X.env) = eval o X.env := by rfl)
    (hfew : ((backTo cpos (starEach (e :: es) X.env)).all (fun x => !x.1) && (backToKw cpos (keywordEach [] X.env)).all (fun x => x.1.isSome)
      && decide ((e :: es).length + ([] : List Keyword).length + (if ([] : List Keyword).isEmpty then 0 else 1) < 30)) = true := by rfl)
    (hline : (apos.endLine == cpos.line) = true := by rfl) (hs : starEach (e :: es) X.env = (false, eval e X.env) :: starEach es X.env := by rfl) (hplain : (backTo cpos (starEach es X.env)).any (·.1) = false := by rfl) :
    LE X W (.Call (.Attribute o name apos) (e :: es) [] cpos) (dMeth c g d as) := by
  obtain ⟨r, m, k⟩ := hm
  exact (pe_bm pa slot hty m ho ha hbase hfew hline hs hplain).imp fun σ H Q h => meth_read ty (fun w μ x xs v vs L r1 r2 h2 => k W σ w μ x xs v vs Q L r1 r2 h2) h
theorem le_meth0 {c : PyData → Bool} {g : DM} (pa : PlainAttrs T) (slot : Slot T name id) (hty : typeOf (.builtin id) = pure (.type "method_descriptor")) (hm : MthOk X id g) (ty : TyC X T c) (ho : LE X W o d)
    (hbase : attributeBase o name X.env (eval o X.env) = eval o X.env := by rfl) (hline : (apos.endLine == cpos.line) = true := by rfl) : LE X W (.Call (.Attribute o name apos) [] [] cpos) (dMeth c g d dNil) := by
  obtain ⟨r, m, k⟩ := hm
  refine (pe_bm0 pa slot hty m ho hbase hline).imp fun σ H Q h => ?_
  obtain ⟨w, δ, μ, e, L, S, h⟩ := meth_read ty (fun w μ x xs v vs L r1 r2 h2 => k W σ w μ x xs v vs Q L r1 r2 h2) h
  refine ⟨w, δ, μ, e, L, S, ?_⟩
  refine Pst.imp (fun v H1 z => ?_) h
  obtain ⟨h1, w1, δ1, μ1, e1, L1, S1, h2⟩ := z
  subst e1
  exact ⟨h1, here_ok h2 L1 RelDL.nil⟩

/-! ### of live lists -/
/-- the live list is now ys -/
theorem set_ok {G : Gd} {W : WX} {σ : L2.St} {w : Wd} {μ : Mu} {Q : VK} {n : Nat} {y : D} {v : V} {ys : List PyData} {vs : List V} (h : Pst G W σ (RelD G) Q w (.ok y (μ.set n (.l ys)))) (L : Live G w μ) (hn : n < w.N) (r : RelL G w ys vs) (z : ys.length ≤ sizeLine)
    (rv : ∀ w', Ext w w' → RelD G w' y v) : Q v (upd w.H (w.m n) (.lst vs)) :=
  h v ⟨upd w.H (w.m n) (.lst vs), w.m, w.N⟩ (Ext.set L _ hn) (Live.set L hn ⟨z, r⟩) (rv _ (Ext.set L _ hn))
theorem lst_at {G : Gd} {w : Wd} {μ : Mu} {n : Nat} {xs : List PyData} (L : Live G w μ) (e : μ[n]? = some (.l xs)) : n < w.N ∧ ∃ vs, w.H (w.m n) = some (.lst vs) ∧ xs.length ≤ sizeLine ∧ RelL G w xs vs := by
  have hn : n < w.N := by have := (List.getElem?_eq_some_iff.mp e).1; rw [L.len] at this; exact this
  obtain ⟨ho, z, hh⟩ := L.at_ n _ e
  cases ho with
  | lst vs => exact ⟨hn, vs, z, hh.1, hh.2⟩
  | _ => exact hh.elim
def gAppend : DM := fun x xs μ => match x, xs with
  | .lst n, [.t q] => match μ[n]? with
    | some (.l ys) => if ys.length < sizeLine then .ok (.t .none) (μ.set n (.l (ys ++ [q]))) else .bad
    | _ => .bad
  | _, _ => .bad
theorem m_append : MthOk X "list.append" gAppend := by
  refine ⟨_, mt_append, fun W σ w μ x xs v vs Q L r1 r2 h => ?_⟩
  unfold gAppend at h
  split at h
  · rename_i n q
    split at h
    · rename_i ys e
      split at h
      · rename_i hz
        rw [RelDL] at r2
        obtain ⟨u, r', rfl, r2, r3⟩ := r2
        rw [RelDL] at r3
        subst r3
        rw [RelD] at r1
        rw [RelD] at r2
        obtain ⟨hn, us, z, _, l⟩ := lst_at L e
        refine ⟨_, us, u, r1.2, rfl, z, by rw [← l.length]; exact hz, set_ok h L hn (l.append (RelL.one r2)) (by rw [List.length_append, List.length_singleton]; omega) fun w' _ => RelD.t Rel.nil_⟩
      · exact h.elim
    · exact h.elim
  · exact h.elim
/-- a list as it stands, not a locked one -/
def lstOf (μ : Mu) : D → Option (List PyData)
  | .t (.list xs) => some xs
  | .lst n => match μ[n]? with
    | some (.l xs) => some xs
    | _ => none
  | _ => none
theorem lstOf_ok {G : Gd} {w : Wd} {μ : Mu} {x : D} {v : V} {xs : List PyData} (L : Live G w μ) (r : RelD G w x v) (e : lstOf μ x = some xs) : ∃ a vs, v = .ref a ∧ w.H a = some (.lst vs) ∧ xs.length ≤ sizeLine ∧ RelL G w xs vs := by
  unfold lstOf at e
  split at e
  · cases e
    rw [RelD, Rel] at r
    obtain ⟨a, vs, rfl, h, _, z, l⟩ := r
    exact ⟨a, vs, rfl, h, z, l⟩
  · split at e
    · rename_i n ys e1
      cases e
      rw [RelD] at r
      obtain ⟨_, vs, h, z, l⟩ := lst_at L e1
      exact ⟨_, vs, r.2, h, z, l⟩
    · cases e
  · cases e
def gExtend : DM := fun x xs μ => match x, xs with
  | .lst n, [y] => match μ[n]?, lstOf μ y with
    | some (.l ys), some zs => if ys.length + zs.length ≤ sizeLine then .ok (.t .none) (μ.set n (.l (ys ++ zs))) else .bad
    | _, _ => .bad
  | _, _ => .bad
theorem m_extend : MthOk X "list.extend" gExtend := by
  refine ⟨_, mt_extend, fun W σ w μ x xs v vs Q L r1 r2 h => ?_⟩
  unfold gExtend at h
  split at h
  · rename_i n y
    split at h
    · rename_i ys zs e e2
      split at h
      · rename_i hz
        rw [RelDL] at r2
        obtain ⟨u, r', rfl, r2, r3⟩ := r2
        rw [RelDL] at r3
        subst r3
        obtain ⟨b, bs, rfl, hb, _, lb⟩ := lstOf_ok L r2 e2
        rw [RelD] at r1
        obtain ⟨hn, us, z, _, l⟩ := lst_at L e
        refine ⟨_, b, us, bs, r1.2, rfl, z, hb, by rw [← l.length, ← lb.length]; exact hz, set_ok h L hn (l.append lb) (by rw [List.length_append]; exact hz) fun w' _ => RelD.t Rel.nil_⟩
      · exact h.elim
    · exact h.elim
  · exact h.elim
theorem RelL.dropLast {G : Gd} {w : Wd} {ds : List PyData} {vs : List V} (h : RelL G w ds vs) : RelL G w ds.dropLast vs.dropLast := by
  rw [List.dropLast_eq_take, List.dropLast_eq_take, ← h.length]
  exact h.take _
def gPop : DM := fun x xs μ => match x, xs with
  | .lst n, [] => match μ[n]? with
    | some (.l ys) => match ys[ys.length - 1]? with
      | some y => .ok (.t y) (μ.set n (.l ys.dropLast))
      | none => .bad
    | _ => .bad
  | _, _ => .bad
theorem m_pop : MthOk X "list.pop" gPop := by
  refine ⟨_, mt_pop, fun W σ w μ x xs v vs Q L r1 r2 h => ?_⟩
  unfold gPop at h
  split at h
  · rename_i n
    split at h
    · rename_i ys e
      split at h
      · rename_i y ey
        rw [RelDL] at r2
        subst r2
        rw [RelD] at r1
        obtain ⟨hn, us, z, hz, l⟩ := lst_at L e
        obtain ⟨u, hu, ru⟩ := l.get ey
        refine ⟨_, us, u, r1.2, rfl, z, by rw [← l.length]; exact hu, set_ok h L hn l.dropLast (by rw [List.length_dropLast]; omega) fun w' E => RelD.t (Rel.ext L E _ _ ru)⟩
      · exact h.elim
    · exact h.elim
  · exact h.elim
def gReverse : DM := fun x xs μ => match x, xs with
  | .lst n, [] => match μ[n]? with
    | some (.l ys) => .ok (.t .none) (μ.set n (.l ys.reverse))
    | _ => .bad
  | _, _ => .bad
theorem m_reverse : MthOk X "list.reverse" gReverse := by
  refine ⟨_, mt_reverse, fun W σ w μ x xs v vs Q L r1 r2 h => ?_⟩
  unfold gReverse at h
  split at h
  · rename_i n
    split at h
    · rename_i ys e
      rw [RelDL] at r2
      subst r2
      rw [RelD] at r1
      obtain ⟨hn, us, z, hz, l⟩ := lst_at L e
      refine ⟨_, us, r1.2, rfl, z, set_ok h L hn l.reverse (by rw [List.length_reverse]; exact hz) fun w' E => RelD.t Rel.nil_⟩
    · exact h.elim
  · exact h.elim

/-! ### read only -/
/-- a method of one argument, both read -/
def gM1 (f : PyData → PyData → Option PyData) : DM := fun x xs μ => match xs with
  | [y] => ap2 f x y μ
  | _ => .bad
def gM0 (f : PyData → Option PyData) : DM := fun x xs μ => match xs with
  | [] => ap1 f x μ
  | _ => .bad
theorem meth1 {f : PyData → PyData → Option PyData} {r : V → List V → Hp → VK → Prop} (m : MtR X id r)
    (k : ∀ (w : Wd) (μ : Mu) (p q d : PyData) (x y : V) (Q : VK), Live (gx X) w μ → f p q = some d → Now (gx X) w p x → Now (gx X) w q y → (∀ v w', Ext w w' → Live (gx X) w' μ → Rel (gx X) w' d v → Q v w'.H) → r x [y] w.H Q) : MthOk X id (gM1 f) := by
  refine ⟨r, m, fun W σ w μ x xs v vs Q L r1 r2 h => ?_⟩
  unfold gM1 at h
  split at h
  · rw [RelDL] at r2
    obtain ⟨u, r', rfl, r2, r3⟩ := r2
    rw [RelDL] at r3
    subst r3
    obtain ⟨p, q, d, e, n1, n2, hQ⟩ := ap2_ok (g := binaryOp .Add) L r1 r2 h
    exact k w μ p q d v u Q L e n1 n2 hQ
  · exact h.elim
def strL (xs : List Str) : PyData := .list (xs.map .str)
theorem rel_strs {G : Gd} {w : Wd} : ∀ {xs : List Str}, (∀ x ∈ xs, x.length ≤ sizeLine) → RelL G w (xs.map .str) (xs.map V.str)
  | [], _ => RelL.nil
  | x :: xs, h => RelL.cons (Rel.str (h x (by simp))) (rel_strs fun y hy => h y (by simp [hy]))
/-- a.split(b) -/
def fSplit : PyData → PyData → Option PyData
  | .str a, .str b => if b.length != 0 && decide (a.length + 2 ≤ sizeLine) && (Txt.split a b).all (fun x => decide (x.length ≤ sizeLine)) then some (strL (Txt.split a b)) else none
  | _, _ => none
theorem m_split : MthOk X "str.split" (gM1 fSplit) := meth1 mt_split fun w μ p q d x y Q L e hp hq hQ => by
  unfold fSplit at e
  split at e
  · split at e
    · rename_i a b hz
      cases e
      simp only [Bool.and_eq_true, decide_eq_true_eq, bne_iff_ne, ne_eq, List.all_eq_true] at hz
      obtain ⟨⟨h1, h2⟩, h3⟩ := hz
      refine ⟨a, b, hp.str.1, by rw [hq.str.1], beq_false_of_ne h1, h2, fun p' hp' => ?_⟩
      refine hQ _ (w.put p' _) (Ext.new L hp') (Live.new L hp') (Rel.newF L (rel_strs h3) ?_ hp')
      rw [List.length_map]
      exact Nat.le_trans (PyProof.Rows.split_le a b) h2
    · cases e
  · cases e
def strsOf : List PyData → Option (List Str)
  | [] => some []
  | .str b :: r => (strsOf r).map (b :: ·)
  | _ => none
theorem strsOf_eq : ∀ {xs : List PyData} {bs : List Str}, strsOf xs = some bs → xs = bs.map .str
  | [], bs, h => by cases h; rfl
  | .str b :: r, bs, h => by
    rw [strsOf] at h
    obtain ⟨cs, h1, rfl⟩ := Option.map_eq_some_iff.mp h
    rw [strsOf_eq h1]; rfl
  | .none :: _, _, h => by simp [strsOf] at h
  | .int _ :: _, _, h => by simp [strsOf] at h
  | .bool _ :: _, _, h => by simp [strsOf] at h
  | .list _ :: _, _, h => by simp [strsOf] at h
  | .tuple _ :: _, _, h => by simp [strsOf] at h
  | .dict _ :: _, _, h => by simp [strsOf] at h
theorem rel_strs' {G : Gd} {w : Wd} : ∀ {bs : List Str} {vs : List V}, RelL G w (bs.map .str) vs → vs = bs.map .str
  | [], vs, h => by rw [List.map_nil, RelL] at h; exact h
  | b :: bs, vs, h => by
    rw [List.map_cons, RelL] at h
    obtain ⟨v, r, rfl, h1, h2⟩ := h
    rw [Rel] at h1
    rw [h1.1, rel_strs' h2]; rfl
/-- a.join(xs) -/
def fJoin : PyData → PyData → Option PyData
  | .str a, y => match (itemsOf y).bind strsOf with
    | some ys => if decide ((ys.map (·.length)).sum + ys.length * a.length ≤ 16777216) && decide ((Txt.join a ys).length ≤ sizeLine) then some (.str (Txt.join a ys)) else none
    | none => none
  | _, _ => none
theorem m_join : MthOk X "str.join" (gM1 fJoin) := meth1 mt_join fun w μ p q d x y Q L e hp hq hQ => by
  unfold fJoin at e
  split at e
  · rename_i a
    split at e
    · rename_i ys e1
      split at e
      · rename_i hz
        cases e
        simp only [Bool.and_eq_true, decide_eq_true_eq] at hz
        obtain ⟨its, e2, e3⟩ := Option.bind_eq_some_iff.mp e1
        have e4 := strsOf_eq e3
        subst e4
        cases q with
        | list zs =>
          cases e2
          obtain ⟨b, vs, rfl, s, _, l⟩ := hq
          rw [rel_strs' l] at s
          exact ⟨a, b, ys, hp.str.1, rfl, .inl s, hz.1, hQ _ w (Ext.refl w) L (Rel.str hz.2)⟩
        | tuple zs =>
          cases e2
          obtain ⟨b, vs, rfl, s, _, l⟩ := hq.tup
          rw [rel_strs' l] at s
          exact ⟨a, b, ys, hp.str.1, rfl, .inr s, hz.1, hQ _ w (Ext.refl w) L (Rel.str hz.2)⟩
        | _ => cases e2
      · cases e
    · cases e
  · cases e
/-- xs.index(y) -/
def posOf (d : PyData) : List PyData → Option Nat
  | [] => none
  | x :: r => if PyData.eqv x d then some 0 else (posOf d r).map (· + 1)
theorem posOf_ok {d : PyData} : ∀ {xs : List PyData} {j : Nat}, posOf d xs = some j → (∃ z, xs[j]? = some z ∧ PyData.eqv z d = true) ∧ ∀ (m : Nat) (z' : PyData), m < j → xs[m]? = some z' → PyData.eqv z' d = false
  | [], j, h => by cases h
  | x :: r, j, h => by
    rw [posOf] at h
    split at h
    · rename_i hx
      cases h
      exact ⟨⟨x, rfl, hx⟩, fun m z' hm => absurd hm (Nat.not_lt_zero _)⟩
    · rename_i hx
      obtain ⟨i, h1, rfl⟩ := Option.map_eq_some_iff.mp h
      obtain ⟨⟨z, a1, a2⟩, a3⟩ := posOf_ok h1
      refine ⟨⟨z, by rw [List.getElem?_cons_succ]; exact a1, a2⟩, fun m z' hm hz => ?_⟩
      cases m with
      | zero =>
        cases hz
        exact Bool.eq_false_iff.mpr hx
      | succ m => exact a3 m z' (by omega) (by rw [List.getElem?_cons_succ] at hz; exact hz)
def fIndex (n : Nat) : PyData → PyData → Option PyData
  | .list xs, d => if shpL n xs && shp n d then (posOf d xs).map fun j => .int (j : Nat) else none
  | _, _ => none
theorem m_index (n : Nat) (hu : X.A.units + 65 < cLine) (hn : n + 1 ≤ 64 := by decide) : MthOk X "list.index" (gM1 (fIndex n)) := meth1 (mt_indexD hu) fun w μ p q d x y Q L e hp hq hQ => by
  unfold fIndex at e
  split at e
  · split at e
    · rename_i xs hz
      simp only [Bool.and_eq_true] at hz
      obtain ⟨j, e1, rfl⟩ := Option.map_eq_some_iff.mp e
      obtain ⟨⟨z, a1, a2⟩, a3⟩ := posOf_ok e1
      have dp := hp.dp
      obtain ⟨a, vs, rfl, _⟩ := hp
      exact ⟨a, y, q, xs, j, z, rfl, rfl, dp, hq.dp, shaped_of (n := n + 1) (by rw [shp]; exact hz.1) hn, shaped_of hz.2 (by omega), a1, a2, a3, hQ _ w (Ext.refl w) L (Rel.int _)⟩
    · cases e
  · cases e
def rCountD (K : PySem.W.Frag) : V → List V → Hp → VK → Prop := fun x xs H Q => ∃ (a : Addr) (y : V) (d : PyData) (ds : List PyData), x = V.ref a ∧ xs = [y] ∧ Dp K H (V.ref a) (.list ds) ∧ Dp K H y d ∧
  SeqAt.shaped (.list ds) = true ∧ SeqAt.shaped d = true ∧ Q (.int ((ds.countP fun z => PyData.eqv z d : Nat))) H
theorem mt_countD (hu : X.A.units + 65 < cLine) : MtR X "list.count" (rCountD X.K) := by
  intro pins s σ H x xs v us Q I rx rxs h
  obtain ⟨a, y, d, ds, rfl, rfl, hl, hy, sl, sd, q⟩ := h
  cases rx
  cases rxs with
  | cons ry rt =>
    rename_i uy ut
    cases rt
    obtain ⟨bs, r1⟩ := Dp.reads I d y uy hy ry
    have hxs : PyData.canLayAll0 ds = true := SeqAt.canLay_of_shaped sl
    have hroom : X.A.units + 1 + min (PyData.depthAll ds) d.depth < cLine := room_in_shaped sd hu
    cases hl with
    | lst hs ha =>
      obtain ⟨its, rv, ⟨⟨cls, dd, data, sls⟩, n, ho, hc, hdn, hdt⟩, hlen⟩ := I.list hs
      simp only at hc hdt
      subst hc hdt
      obtain ⟨as, h4⟩ := Dp.readsAll I ds _ its ha rv
      have hmap : its.map (SeqAt.readOf s.heap) = ds := SeqAt.readsAll_map ds its as hxs h4
      refine call_meets PySem.F.slot_list_count ⟨_, ho, rfl⟩ PySem.F.entry_list_count (PySem.F.args_list_count_2 _ _)
        (SeqAt.list_countAt a its.toArray n dd sls uy (fun u => PyData.eqv (SeqAt.readOf s.heap u) d)) ⟨ho, SeqAt.items_eqAt (vs := its.toArray) (show ReadsAll s.heap its.toArray.toList ds as from h4) r1 hxs (SeqAt.canLay_of_shaped sd) hroom, ?_⟩
      have e2 : its.toArray.toList.countP (fun u => PyData.eqv (SeqAt.readOf s.heap u) d) = ds.countP fun z => PyData.eqv z d := by
        rw [List.toList_toArray, ← hmap, List.countP_map]
        rfl
      exact ⟨.int _, H, I.tok _, ⟨s.toks, congrArg (fun z : Nat => Value.int (z : Int) s.toks) e2⟩, q⟩
def fCount (n : Nat) : PyData → PyData → Option PyData
  | .list xs, d => if shpL n xs && shp n d then some (.int (xs.countP fun z => PyData.eqv z d : Nat)) else none
  | _, _ => none
theorem m_count (n : Nat) (hu : X.A.units + 65 < cLine) (hn : n + 1 ≤ 64 := by decide) : MthOk X "list.count" (gM1 (fCount n)) := meth1 (mt_countD hu) fun w μ p q d x y Q L e hp hq hQ => by
  unfold fCount at e
  split at e
  · split at e
    · rename_i xs hz
      simp only [Bool.and_eq_true] at hz
      cases e
      have dp := hp.dp
      obtain ⟨a, vs, rfl, _⟩ := hp
      exact ⟨a, y, q, xs, rfl, rfl, dp, hq.dp, shaped_of (n := n + 1) (by rw [shp]; exact hz.1) hn, shaped_of hz.2 (by omega), hQ _ w (Ext.refl w) L (Rel.int _)⟩
    · cases e
  · cases e

/-! ## + and * of lists too -/
variable {a b : Expr} {da db : DE}
def apAdd (live : Bool) (x y : D) (μ : Mu) : R D := match lstOf μ x, lstOf μ y with
  | some xs, some ys => if xs.length + ys.length ≤ sizeLine then newL live (xs ++ ys) μ else .bad
  | _, _ => ap2 fAdd x y μ
def dAdd (live : Bool) (a b : DE) : DE := fun δ μ => (a δ μ).bind fun x μ1 => (b δ μ1).bind fun y μ2 => apAdd live x y μ2
theorem le_add (live : Bool) (ha : LE X W a da) (hb : LE X W b db) : LE X W (.BinOp a .Add b pos) (dAdd live da db) := by
  obtain ⟨r, o, k⟩ := o_add (X := X)
  refine (pe_op (o.or op_cat) ha hb).imp fun σ H Q h => ?_
  refine two h fun w μ x y v u L r1 r2 h2 => ?_
  unfold apAdd at h2
  split at h2
  · rename_i xs ys e1 e2
    split at h2
    · rename_i hz
      obtain ⟨p, vs, rfl, hp, _, lp⟩ := lstOf_ok L r1 e1
      obtain ⟨q, us, rfl, hq, _, lq⟩ := lstOf_ok L r2 e2
      refine .inr ⟨p, q, vs, us, rfl, rfl, hp, hq, by rw [← lp.length, ← lq.length]; exact hz, fun n hn => newL_ok h2 L (lp.append lq) (by rw [List.length_append]; exact hz) hn⟩
    · exact h2.elim
  · obtain ⟨p, q, d, e, n1, n2, hQ⟩ := ap2_ok (g := binaryOp .Add) L r1 r2 h2
    exact .inl (k w μ p q d v u Q L e n1 n2 hQ)
def apMul (live : Bool) (x y : D) (μ : Mu) : R D := match lstOf μ x, y with
  | some xs, .t (.int k) => if decide (-(2 ^ 63) ≤ k) && decide (k < 2 ^ 63) && decide (xs.length * k.toNat ≤ sizeLine) then newL live (List.replicate k.toNat xs).flatten μ else .bad
  | _, _ => ap2 fMul x y μ
def dMul (live : Bool) (a b : DE) : DE := fun δ μ => (a δ μ).bind fun x μ1 => (b δ μ1).bind fun y μ2 => apMul live x y μ2
theorem le_mul (live : Bool) (ha : LE X W a da) (hb : LE X W b db) : LE X W (.BinOp a .Mult b pos) (dMul live da db) := by
  obtain ⟨r, o, k⟩ := o_mul (X := X)
  refine (pe_op (o.or op_rep) ha hb).imp fun σ H Q h => ?_
  refine two h fun w μ x y v u L r1 r2 h2 => ?_
  unfold apMul at h2
  split at h2
  · rename_i xs i e1
    split at h2
    · rename_i hz
      simp only [Bool.and_eq_true, decide_eq_true_eq] at hz
      obtain ⟨p, vs, rfl, hp, _, lp⟩ := lstOf_ok L r1 e1
      have r2 : RelD (gx X) w (.t (.int i)) u := r2
      rw [RelD, Rel] at r2
      refine .inr ⟨p, i, vs, rfl, r2, hp, hz.1.1, hz.1.2, by rw [← lp.length]; exact hz.2, fun n hn => newL_ok h2 L (lp.rep _) (by rw [len_rep, Nat.mul_comm]; exact hz.2) hn⟩
    · exact h2.elim
  · obtain ⟨p, q, d, e, n1, n2, hQ⟩ := ap2_ok (g := binaryOp .Mult) L r1 r2 h2
    exact .inl (k w μ p q d v u Q L e n1 n2 hQ)

/-! ## raise X('m') -/
def sRaise (c : Str) : DS := fun δ μ => .ex c none δ μ
structure ExcF (K : PySem.W.Frag) (mg : Str → Option Value) (x : Str) : Prop where
  ex : ∃ C, mg x = some (.ref C) ∧ PySem.W.excIn K C He.veBase "ValueError.__new__" = true ∧ PySem.W.keepIn K (.ref C) = true ∧ PySem.W.subIn K (.ref C) (.type "BaseException") = some true ∧ PySem.W.typeIn K (.ref C) = some (.type "type")
theorem ls_raise {m : Str} {j : Nat} {p2 pos' : Pos} (hc : X.calm = true) (tk : Takes X W) (F : ExcF X.K X.mg x) (hg : Gl X x) (hdb : (x == ("__debug__" : Str)) = false := by decide) :
    LS X W (.Raise (some (.Call (.Name x p) [.Constant (.str m) j p2] [] pos)) none pos') (sRaise x) := by
  obtain ⟨C, gC, q, kC, s1, s2⟩ := F.ex
  refine (ps_raise hc tk (pmk_own PySem.F.excBase_ValueError q gC kC (raises_own s1 s2) hg hdb)).imp fun Dn σ H ⟨w, δ, μ, e, L, S, h⟩ => ?_
  subst e
  exact h C none σ w gC (Ext.refl w) L S trivial
end
end TV

/-! TV, thirteenth part: caught exceptions, told by a def; tables of defs. -/
namespace TV
open PySem PySem.Spec PyProof.Rows L2

/-! ## isinstance of the exception that is handled -/
/-- the exception at a is of the class c -/
structure IsEx (X : Cx) (a : Addr) (c : Str) (C : Addr) : Prop where
  pin : ∃ p : Addr × Obj, p ∈ X.pn ∧ p.1 = a ∧ Zc (.ref C) none p.2 ∧ ∃ vs, p.2.data = .fields vs
  mg : X.mg c = some (.ref C)
  cls : ExcC X.K C
theorem call_isX {X : Cx} {a C : Addr} {c : Str} (E : IsEx X a c C) : CallR X (.builtin "isinstance") (rIsE X.K C a) := by
  intro pins s σ H xs us Q I r h
  obtain ⟨k, kv, b, rfl, hkv, e, q⟩ := h
  obtain ⟨u1, u2, rfl, r1, r2⟩ := vals2 r
  cases r1
  have ek := hkv _ r2
  subst ek
  obtain ⟨⟨x, ob⟩, hp, rfl, hz, vs, hv⟩ := E.pin
  obtain ⟨hget, _⟩ := I.pin (x, ob) (List.mem_append_left _ hp)
  have J : PySem.W.InstAt s.heap x ob C none := by
    obtain ⟨k1, k2, k3, k4⟩ := ob
    obtain ⟨h1, h2⟩ := hz
    dsimp only at h1 h2 hv
    subst h1 h2 hv
    exact ⟨hget, rfl, rfl, trivial⟩
  have kx := PySem.W.handS_kitx_exc (x := x) (ox := ob) E.cls.hg E.cls.hk E.cls.hs E.cls.hd E.cls.ha E.cls.hn E.cls.ht E.cls.hm
  exact PySem.W.kia_one kx I.kIn J e (fun z => nomatch z) fun tk => ⟨.bl b, H, I.tok tk, rfl, q⟩
def dIsE (i : Nat) (a : Addr) (b : Bool) : DE := fun δ μ => match δ[i]? with
  | some (some (.ref a')) => if a' = a then .ok (.t (.bool b)) μ else .bad
  | _ => .bad
theorem kit_of_exm {K : PySem.W.Frag} {C D : Addr} {b : Bool} (h : PySem.W.exmOne K (.ref C) (.ref D) = some b) (hb : C = D → b = true) : PySem.W.kitOne K (.ref C) (.ref D) = some b := by
  unfold PySem.W.kitOne
  by_cases e : C = D
  · subst e
    rw [if_pos (beq_self_eq_true _), hb rfl]
  · rw [if_neg (fun z => e (Value.ref.inj (beq_iff_eq.mp z)))]
    unfold PySem.W.exmOne at h
    split at h
    · exact h
    · cases h
section
variable {X : Cx} {W : WX} {er y : Str} {c : Str} {C a : Addr} {p p1 p2 pos : Pos}
theorem le_isE {i : Nat} {b : Bool} {D : Addr} (E : IsEx X a c C) (hg : Gl X "isinstance") (hm : X.mg "isinstance" = none) (hN : X.N[i]? = some er) (hv : Vis X.env.scope er) (gy : Gl X y) (my : X.mg y = some (.ref D)) (ex : PySem.W.exmOne X.K (.ref C) (.ref D) = some b) (hb : C = D → b = true)
    (h1 : (er == ("__debug__" : Str)) = false := by decide) (h2 : (er == ("__classdict__" : Str)) = false := by decide) (h3 : (y == ("__debug__" : Str)) = false := by decide) :
    LE X W (.Call (.Name "isinstance" p) [.Name er p1, .Name y p2] [] pos) (dIsE i a b) := by
  have args : PA X [.Name er p1, .Name y p2] (tCons _ (tCons _ tNil)) := pa_cons (pe_var (pos := p1) hN hv h1 h2) (pa_cons (pe_glob (pos := p2) (v := .ref D) gy my rfl h3) pa_nil)
  refine (pe_callB (call_isX E) hg hm boot_isinstance args).imp fun σ H Q ⟨w, δ, μ, e, L, S, h⟩ => ?_
  unfold dIsE at h
  split at h
  · rename_i a' q
    split at h
    · rename_i ea
      subst ea
      obtain ⟨v, q2, r⟩ := S.2 i _ q
      rw [RelD] at r
      subst r
      subst e
      refine ⟨.ref a', q2, .ref D, .ref D, b, rfl, fun u ru => ru, kit_of_exm ex hb, here_ok h L (RelD.t (Rel.bool b))⟩
    · exact h.elim
  · exact h.elim
end

/-! ## a def that tells the exception's kind -/
/-- within an except suite the def at f answers with kind of the class's name -/
structure FnK (P : Program) (w : World) (K : PySem.W.Frag) (mg : Str → Option Value) (base : Heap) (k : Nat) (f : Addr) (fd : FuncData) (ps : List Str) (kind : Str → Option Str) : Prop where
  one : ps.length = 1
  go : ∀ (A : Around) (outer : List Env) (s : Shared) (H : Hp) (args : Args) (us : List Value) (p : Addr × Obj) (c z : Str) (C : Addr) (wd : Wd) (μ : Mu) (Q : VK) (E : XK), L2H.RoomH k A → L2H.PinOk outer H s p →
    Zc (.ref C) none p.2 → (∃ vs, p.2.data = .fields vs) → mg c = some (.ref C) → kind c = some z → Env0 P w K mg base A outer s H → BindsTo s fd args (ps.zip us) → Vals [.ref p.1] us →
    wd.H = H → Live ⟨K, mg⟩ wd μ → (∀ v w', Ext wd w' → Live ⟨K, mg⟩ w' μ → Rel ⟨K, mg⟩ w' (.str z) v → Q v w'.H) → codeAny (model P w) A (.call (.ref f) args) (CR (L2.CX P w) outer P w H s Q E) s
structure FeK (P : Program) (w : World) (K : PySem.W.Frag) (mg : Str → Option Value) (base : Heap) (k : Nat) (x : Str) (kind : Str → Option Str) : Prop where
  ex : ∃ f fd ps, mg x = some (.ref f) ∧ PySem.W.keepIn K (.ref f) = true ∧ Binds K fd ps [] ∧ FnK P w K mg base k f fd ps kind
theorem FnK.mono {P : Program} {w : World} {K : PySem.W.Frag} {mg : Str → Option Value} {base : Heap} {j k : Nat} {f : Addr} {fd : FuncData} {ps : List Str} {kind : Str → Option Str} (h : FnK P w K mg base j f fd ps kind) (q : j ≤ k) : FnK P w K mg base k f fd ps kind :=
  ⟨h.one, fun A outer s H args us p c z C wd μ Q E room => h.go A outer s H args us p c z C wd μ Q E (room.mono q)⟩
theorem FeK.mono {P : Program} {w : World} {K : PySem.W.Frag} {mg : Str → Option Value} {base : Heap} {j k : Nat} {x : Str} {kind : Str → Option Str} (h : FeK P w K mg base j x kind) (q : j ≤ k) : FeK P w K mg base k x kind := by
  obtain ⟨f, fd, ps, a, b, c, d⟩ := h.ex
  exact ⟨f, fd, ps, a, b, c, d.mono q⟩
abbrev FeKX (X : Cx) (k : Nat) (x : Str) (kind : Str → Option Str) : Prop := FeK X.prog X.w X.K X.mg X.base k x kind
section
variable {P : Program} {w : World} {K : PySem.W.Frag} {mg : Str → Option Value} {base : Heap} {k : Nat} {f : Addr} {name qual : Str} {params : Arguments} {body : List Stmt} {scope : Scope} {N ps : List Str}
theorem fnK_of {dV kV doc pm cdv ct oc : Value} {an od : Option Addr} {osl : Array (Option Value)} {m : Nat} {b : Addr → Str → DS} {kind : Str → Option Str}
    (lk : K.lookup f = some ⟨oc, od, .func (PySem.W.fnOf name qual params body scope dV kV doc pm an cdv ct), osl⟩) (hcd : PySem.W.codeIn K cdv qual = true) (sc : FnScope N ps scope) (hm : N.length = 1 + m) (hps : ps.length = 1)
    (told : ∀ a c z μ, kind c = some z → mkF 1 m false (b a c) [.ref a] μ = .ok (.t (.str z)) μ) (exc : ∀ c z C, kind c = some z → mg c = some (.ref C) → ExcC K C)
    (hb : ∀ (A : Around) (outer : List Env) (s : Shared) (H : Hp) (E : XK) (p : Addr × Obj) (c z : Str) (C : Addr), L2H.RoomH k (A.deeper (envOfC qual scope s.heap.objs.size f cdv)) → kind c = some z →
      IsEx (L2H.cxH (L2.CX P w) P w K mg base N qual scope f cdv A outer s H E p) p.1 c C → LSs (L2H.cxH (L2.CX P w) P w K mg base N qual scope f cdv A outer s H E p) (fun _ _ _ _ => False) body (b p.1 c)) :
    FnK P w K mg base (k + 1) f (PySem.W.fnOf name qual params body scope dV kV doc pm an cdv ct) ps kind := by
  refine ⟨hps, fun A outer s H args us p c z C wd μ Q E room pin zc hv mc hk e0 bd rv eH L post => ?_⟩
  have kin : K.In s.heap := e0.mod.kin.keeps fun b o e => (e0.bs b o e).1
  have lim : s.heap.NoLimit := e0.mod.nolimit.keeps fun b o e => (e0.bs b o e).1
  have visible : ∀ y ∈ ps.zip us, scope.names.lookup y.1 = some .local ∨ (scope.names.lookup y.1 = some .cell ∧ ((cellsFrom (s.heap.objs.size + 1) scope.names []).lookup y.1).isSome = true) := by
    intro y hy
    rcases sc.par y.1 (List.of_mem_zip (a := y.1) (b := y.2) hy).1 with q | q
    · exact .inl q
    · exact .inr ⟨q, PySem.W.cellsFrom_some _ _ _ (.inl q)⟩
  refine codeAny_call_function room.depth (kin _ _ lk) rfl sc.co sc.gen rfl (PySem.W.codeRec_of kin hcd) (bd _ _ _ _ ?_)
  refine wpAny_newFunctionEnv_cells sc.kind visible ?_
  intro env he s1 made
  subst he
  refine ⟨lim.keeps made.toInCall.keep, codeAny_func ?_⟩
  have inv := L2H.inv_startH (CX := L2.CX P w) (E := E) (cd := cdv) (qual := qual) sc pin e0 (vs := [.ref p.1]) (by rw [hps]; rfl) rv made
  have st : L2.start N [V.ref p.1] = [some (V.ref p.1)] ++ List.replicate m none := by unfold L2.start; rw [hm]; simp
  have isx : IsEx (L2H.cxH (L2.CX P w) P w K mg base N qual scope f cdv A outer s H E p) p.1 c C := ⟨⟨p, List.mem_singleton.mpr rfl, rfl, zc, hv⟩, mc, exc c z C hk mc⟩
  have ran := (hb A outer s H E p c z C (room.deeper _) hk isx).run [] s1 (L2.start N [V.ref p.1]) H { nx := fun _ H' => Q .non H', rt := Q } inv ?_
  · refine wpAny_mono ran (fun fl s' done => ?_) fun _ _ x => x
    · have back : ∀ {σ' : L2.St} {H' : Hp} {v : V} {u : Value}, Inv (L2H.cxH (L2.CX P w) P w K mg base N qual scope f cdv A outer s H E p) [] σ' H' s' → RelV v u → Q v H' → CE outer P w H s Q u s' := by
        intro σ' H' v u J r q
        exact ⟨v, H', J.os, J.bare, J.base, J.hok, r, q⟩
      match fl, done with
      | .ret u, ⟨v, σ', H', J, r, q⟩ => exact back J r q
      | .next, ⟨σ', H', J, q⟩ => exact back (v := V.non) (u := Value.none) J rfl q
      | .brk, ⟨_, _, _, q⟩ => exact q.elim
      | .cont, ⟨_, _, _, q⟩ => exact q.elim
  · have rx : RelDL ⟨K, mg⟩ wd [.ref p.1] [V.ref p.1] := RelDL.cons (by rw [RelD]) RelDL.nil
    refine ⟨wd, [some (.ref p.1)] ++ List.replicate m none, μ, eH, L, by rw [st]; exact slots_start m rx, ?_⟩
    have t := told p.1 c z μ hk
    have t : (match b p.1 c ([some (.ref p.1)] ++ List.replicate m none) μ with
      | .rt x μ' => gc false μ.length x μ'
      | .nx _ μ' => gc false μ.length (.t .none) μ'
      | .ex c p _ μ' => .ex c p (μ'.take μ.length)
      | _ => .bad) = R.ok (.t (.str z)) μ := by
      have y : mkF 1 m false (b p.1 c) [.ref p.1] μ = _ := if_pos rfl
      rw [t] at y
      exact y.symm
    have post' : Pst ⟨K, mg⟩ (fun _ _ _ _ => False) [] (RelD ⟨K, mg⟩) Q wd (R.ok (.t (.str z)) μ) := fun v w' E' L' r => post v w' E' L' (by rw [RelD] at r; exact r)
    cases q : b p.1 c ([some (.ref p.1)] ++ List.replicate m none) μ with
    | rt x μ' =>
      rw [q] at t
      rw [← t] at post'
      exact fun v w' E' L' r => gc_ok L L' E' r post'
    | nx δ' μ' =>
      rw [q] at t
      rw [← t] at post'
      exact fun σ' w' E' L' S' => gc_ok (x := .t .none) L L' E' (RelD.t Rel.nil_) post'
    | ex c p δ' μ' => rw [q] at t; cases t
    | bk _ _ => rw [q] at t; cases t
    | ct _ _ => rw [q] at t; cases t
    | bad => rw [q] at t; cases t
theorem feK_of {x : Str} {sl : List (Str × V)} {fd : FuncData} {m : Nat} {b : Addr → Str → DS} {kind : Str → Option Str} (F : FunD K x x params body scope [] [] f fd) (g : mg x = some (.ref f)) (bd : Binds K fd ps []) (sc : FnScope N ps scope) (hm : N.length = 1 + m) (hps : ps.length = 1)
    (told : ∀ a c z μ, kind c = some z → mkF 1 m false (b a c) [.ref a] μ = .ok (.t (.str z)) μ) (exc : ∀ c z C, kind c = some z → mg c = some (.ref C) → ExcC K C)
    (hb : ∀ (cdv : Value) (A : Around) (outer : List Env) (s : Shared) (H : Hp) (E : XK) (p : Addr × Obj) (c z : Str) (C : Addr), L2H.RoomH k (A.deeper (envOfC x scope s.heap.objs.size f cdv)) → kind c = some z →
      IsEx (L2H.cxH (L2.CX P w) P w K mg base N x scope f cdv A outer s H E p) p.1 c C → LSs (L2H.cxH (L2.CX P w) P w K mg base N x scope f cdv A outer s H E p) (fun _ _ _ _ => False) body (b p.1 c)) : FeK P w K mg base (k + 1) x kind := by
  obtain ⟨oc, od, dV, kV, doc, pm, an, cdv, ct, osl, rfl, lk, hcd, _, _⟩ := F.ex
  exact ⟨f, _, ps, g, F.kp, bd, fnK_of lk hcd sc hm hps told exc fun A outer s H E p c z C room hk => hb cdv A outer s H E p c z C room hk⟩
end

/-! ## try: .. except C as e: return kind(e) -/
section
variable {X : Cx} {k i : Nat} {a : Addr} {oe : Obj} {pn : List (Addr × Obj)} {cls : Value} {d : Option Addr} {x er : Str} {kind : Str → Option Str} {p p1 pos : Pos}
/-- what the suite's call wishes -/
def tKind (G : Gd) (kind : Str → Option Str) (i : Nat) (a : Addr) (cls : Value) (d : Option Addr) : TE := fun σ H Q => σ[i]? = some (some (.ref a)) ∧ d = none ∧ ∃ c C z wd μ, cls = .ref C ∧ G.mg c = some (.ref C) ∧ kind c = some z ∧
  wd.H = H ∧ Live G wd μ ∧ ∀ v w', Ext wd w' → Live G w' μ → Rel G w' (.str z) v → Q v w'.H
theorem pe_kind (F : FeKX X k x kind) (room : Room k X.A) (hz : Zc cls d oe) (hv : ∃ vs, oe.data = .fields vs) (hg : Gl X x) (hN : X.N[i]? = some er) (vis : Vis X.env.scope er)
    (h1 : (er == ("__debug__" : Str)) = false := by decide) (h2 : (er == ("__classdict__" : Str)) = false := by decide) (h3 : (x == ("__debug__" : Str)) = false := by decide) :
    PE (X.suite a ((a, oe) :: pn)) (.Call (.Name x p) [.Name er p1] [] pos) (tKind (gx X) kind i a cls d) := by
  obtain ⟨f, fd, ps, hm, kp, bd, F⟩ := F.ex
  refine ⟨fun pins s σ H Q I h => ?_⟩
  refine wpAny_Call_Name_kw (ld_glob (X := X.suite a ((a, oe) :: pn)) I hg hm ?_ h3)
  obtain ⟨hs, hd, c, C, z, wd, μ, rfl, mc, hk, eH, L, post⟩ := h
  subst hd
  have args : PA (X.suite a ((a, oe) :: pn)) [.Name er p1] (tCons _ tNil) := pa_cons (pe_var (X := X.suite a ((a, oe) :: pn)) (pos := p1) hN vis h1 h2) pa_nil
  refine PySem.W.callWith_K (h₀ := X.base) I.ok.mod.kin kp (thn (args.run pos pins s σ H (fun vs H1 => vs = [V.ref a] ∧ H1 = H) I ⟨.ref a, hs, rfl, rfl⟩) fun us s1 ⟨vs, H1, I1, rv, ev, e1⟩ => ⟨I1.kIn, ?_⟩) rfl rfl
  subst ev
  subst e1
  have many : us.length = ps.length := by rw [← rv.length, F.one]; rfl
  have bound : BindsTo s1 fd ⟨us, []⟩ (ps.zip us) := by
    have z := bd s1 us I1.kIn (by simpa using many)
    simpa using z
  have P1 := I1.pin (a, oe) (List.mem_append_left _ List.mem_cons_self)
  have hpin : L2H.PinOk X.stack H1 s1 (a, oe) := ⟨P1.1, P1.2.1, fun hm => (List.mem_cons.mp (I1.stkSub a hm)).elim P1.2.2.1 P1.2.2.2.1, P1.2.2.2.2⟩
  have rh : L2H.RoomH k (X.suite a ((a, oe) :: pn)).A := ⟨room.dp, room.un⟩
  refine wpAny_call (codeAny_mono (F.go (X.suite a ((a, oe) :: pn)).A X.stack s1 H1 ⟨us, []⟩ us (a, oe) c z C wd μ Q (fun _ _ _ => False) rh hpin hz hv mc hk I1.env0 bound rv eH L post) ?_)
  intro res s' got
  match res, got with
  | .error err, ⟨_, _, _, _, _, _, _, _, _, _, _, _, y⟩ => exact y.elim
  | .ok (.ret u), got => exact I1.after got
  | .ok .next, got => exact got.elim
  | .ok .brk, got => exact got.elim
  | .ok .cont, got => exact got.elim
def sTryK (kind : Str → Option Str) (i : Nat) (b : DS) : DS := fun δ μ => match b δ μ with
  | .ex c none δ' μ' => match kind c with
    | some z => if i < δ'.length then .rt (.t (.str z)) μ' else .bad
    | none => .bad
  | .ex _ _ _ _ => .bad
  | r => r
/-- .. except C as e: if kind(e) != z0: return False -/
def sTryQ (kind : Str → Option Str) (i : Nat) (z0 : Str) (b : DS) : DS := fun δ μ => match b δ μ with
  | .ex c none δ' μ' => match kind c with
    | some z => if i < δ'.length then (match cNe (.str z) (.str z0) with
      | some true => .rt (.t (.bool false)) μ'
      | some false => .nx (δ'.set i none) μ'
      | none => .bad) else .bad
    | none => .bad
  | .ex _ _ _ _ => .bad
  | r => r
theorem Slots.setNone {G : Gd} {w : Wd} {δ : Sl} {σ : L2.St} (S : Slots G w δ σ) (i : Nat) : Slots G w (δ.set i none) (σ.set i none) := by
  refine ⟨by rw [List.length_set, List.length_set]; exact S.1, fun j d e => ?_⟩
  by_cases q : i = j
  · subst q
    by_cases z : i < δ.length
    · rw [List.getElem?_set_self z] at e
      cases e
    · rw [List.getElem?_eq_none (by rw [List.length_set]; omega)] at e
      cases e
  · rw [List.getElem?_set_ne q] at e ⊢
    exact S.2 j d e
variable {W : WX} {y : Str} {Lp : Addr} {body : List Stmt} {b : DS} {np p2 p3 p4 pos' : Pos}
/-- every kind's class is caught -/
def Caught (K : PySem.W.Frag) (mg : Str → Option Value) (kind : Str → Option Str) (Lp : Addr) : Prop := ∀ c z C, kind c = some z → mg c = some (.ref C) → PySem.W.exmOne K (.ref C) (.ref Lp) = some true
theorem ls_tryK (F : FeKX X k x kind) (room : Room k X.A) (hx : Gl X x) (hs : X.stack = X.env :: X.outer) (hf : X.env.frame = some X.env.locals) (hN : X.N.Nodup) (hi : X.N[i]? = some er) (hl : X.env.kindOf er = some .local) (tk : Takes X W)
    (gy : Gl X y) (my : X.mg y = some (.ref Lp)) (ct : Caught X.K X.mg kind Lp)
    (hb : ∀ (W : WX) (pn : List (Addr × Obj)) (xe : Value → Shared → Prop), Takes (X.tr pn xe) W → PassesOwn (model X.prog X.w) X.A X.env xe → LSs (X.tr pn xe) W body b)
    (h1 : (er == ("__debug__" : Str)) = false := by decide) (h2 : (er == ("__classdict__" : Str)) = false := by decide) (h3 : (x == ("__debug__" : Str)) = false := by decide) (h4 : (y == ("__debug__" : Str)) = false := by decide) :
    LS X W (.Try body [.ExceptHandler (some (.Name y np)) (some er) [.Return (some (.Call (.Name x p) [.Name er p1] [] p2)) p3] pos'] [] [] pos) (sTryK kind i b) := by
  have suite : ∀ (a : Addr) (oe : Obj) (cls : Value) (d : Option Addr) (pn : List (Addr × Obj)), Zc cls d oe → (∃ vs, oe.data = .fields vs) → PSs (X.suite a ((a, oe) :: pn)) [.Return (some (.Call (.Name x p) [.Name er p1] [] p2)) p3] (tRet (tKind (gx X) kind i a cls d)) :=
    fun a oe cls d pn hz hv => pss_one (ps_ret (pe_kind F room hz hv hx hi (.inl hl) h1 h2 h3))
  refine (ps_try_as (Wout := W) (tb := fun W => liftS (gx X) W b) hs hf hN hi hl ⟨gy, h4, .inl my⟩ tk hb suite).imp fun Dn σ H ⟨w, δ, μ, e, L, S, h⟩ => ?_
  refine ⟨w, δ, μ, e, L, S, ?_⟩
  unfold sTryK at h
  cases q : b δ μ with
  | nx δ' μ' => rw [q] at h; exact h
  | bk δ' μ' => rw [q] at h; exact h
  | ct δ' μ' => rw [q] at h; exact h
  | rt x' μ' => rw [q] at h; exact h
  | bad => rw [q] at h; exact h.elim
  | ex c pp δ' μ' =>
    rw [q] at h
    cases pp with
    | some fs => exact h.elim
    | none =>
      dsimp only at h
      split at h
      · rename_i z hk
        split at h
        · rename_i hi'
          intro C d σ' w' g E' L' S' x'
          have ed : d = none := by
            cases d with
            | none => rfl
            | some ad => exact x'.elim
          refine ⟨true, ct c z C hk g, fun _ a ha => ?_, fun z => Bool.noConfusion z⟩
          refine ⟨List.getElem?_set_self (by rw [← S'.1]; exact hi'), ed, c, C, z, w', μ', rfl, g, hk, rfl, L', fun v w2 E2 L2 r2 => ?_⟩
          exact h v w2 (E'.trans E2) L2 (RelD.t r2)
        · exact h.elim
      · exact h.elim
/-- the suite: if kind(e) != z0: return False -/
theorem ls_tryQ {z0 : Str} {j1 j2 : Nat} {p5 p6 p7 : Pos} (F : FeKX X k x kind) (room : Room k X.A) (hx : Gl X x) (hs : X.stack = X.env :: X.outer) (hf : X.env.frame = some X.env.locals) (hN : X.N.Nodup) (hi : X.N[i]? = some er) (hl : X.env.kindOf er = some .local) (tk : Takes X W)
    (gy : Gl X y) (my : X.mg y = some (.ref Lp)) (ct : Caught X.K X.mg kind Lp) (hz0 : z0.length ≤ sizeLine) (hu : X.A.units + 64 < cLine)
    (hb : ∀ (W : WX) (pn : List (Addr × Obj)) (xe : Value → Shared → Prop), Takes (X.tr pn xe) W → PassesOwn (model X.prog X.w) X.A X.env xe → LSs (X.tr pn xe) W body b)
    (h1 : (er == ("__debug__" : Str)) = false := by decide) (h2 : (er == ("__classdict__" : Str)) = false := by decide) (h3 : (x == ("__debug__" : Str)) = false := by decide) (h4 : (y == ("__debug__" : Str)) = false := by decide) :
    LS X W (.Try body [.ExceptHandler (some (.Name y np)) (some er) [.If (.Compare (.Call (.Name x p) [.Name er p1] [] p2) [.NotEq] [.Constant (.str z0) j1 p3] p4) [.Return (some (.Constant (.bool false) j2 p5)) p6] [] p7] pos'] [] [] pos) (sTryQ kind i z0 b) := by
  have suite : ∀ (a : Addr) (oe : Obj) (cls : Value) (d : Option Addr) (pn : List (Addr × Obj)), Zc cls d oe → (∃ vs, oe.data = .fields vs) → ∃ r : R2, PSs (X.suite a ((a, oe) :: pn)) [.If (.Compare (.Call (.Name x p) [.Name er p1] [] p2) [.NotEq] [.Constant (.str z0) j1 p3] p4) [.Return (some (.Constant (.bool false) j2 p5)) p6] [] p7]
      (tIfS (tTest (tOp r (tKind (gx X) kind i a cls d) (tC (.str z0)))) (tRet (tC (.bl false))) tNext) ∧ ∀ (w : Wd) (μ : Mu) (p q : PyData) (b : Bool) (x y : V) (Q : VK), Live (gx X) w μ → cNe p q = some b → Now (gx X) w p x → Now (gx X) w q y → Q (.bl b) w.H → r x y w.H Q := by
    intro a oe cls d pn hz hv
    obtain ⟨r, o, kk⟩ := c_ne (X := X.suite a ((a, oe) :: pn)) hu
    exact ⟨r, pss_one (ps_if (pt_cmpR o (pe_kind F room hz hv hx hi (.inl hl) h1 h2 h3) pe_str (by rfl)) (pss_one (ps_ret pe_bl)) pss_nil), kk⟩
  have suite2 : ∀ (a : Addr) (oe : Obj) (cls : Value) (d : Option Addr) (pn : List (Addr × Obj)), Zc cls d oe → (∃ vs, oe.data = .fields vs) → PSs (X.suite a ((a, oe) :: pn)) [.If (.Compare (.Call (.Name x p) [.Name er p1] [] p2) [.NotEq] [.Constant (.str z0) j1 p3] p4) [.Return (some (.Constant (.bool false) j2 p5)) p6] [] p7]
      (fun Dn σ H => tKind (gx X) kind i a cls d σ H fun v H1 => ∃ (z : Str × Str) (w : Wd) (μ : Mu), kind z.1 = some z.2 ∧ w.H = H1 ∧ Live (gx X) w μ ∧ Rel (gx X) w (.str z.2) v ∧ ∃ b, cNe (.str z.2) (.str z0) = some b ∧ if b = true then Dn.rt (.bl false) H1 else Dn.nx σ H1) := by
    intro a oe cls d pn hz hv
    obtain ⟨r, hr, kk⟩ := suite a oe cls d pn hz hv
    refine hr.imp fun Dn σ H h => ?_
    obtain ⟨hs, hd, c, C, z, wd, μ, ec, mc, hk, eH, L, post⟩ := h
    refine ⟨hs, hd, c, C, z, wd, μ, ec, mc, hk, eH, L, fun v w' E' L' rv => ?_⟩
    obtain ⟨z', w2, μ2, _, e2, L2, rv2, b, hb, q⟩ := post v w' E' L' rv
    rw [← e2] at q ⊢
    refine kk w2 μ2 (.str z'.2) (.str z0) b v (.str z0) _ L2 hb (Now.of_rel rv2) (Now.of_rel (Rel.str hz0)) ⟨b, rfl, ?_⟩
    cases b with
    | true => exact q
    | false => exact q
  refine (ps_try_as (Wout := W) (tb := fun W => liftS (gx X) W b) hs hf hN hi hl ⟨gy, h4, .inl my⟩ tk hb suite2).imp fun Dn σ H ⟨w, δ, μ, e, L, S, h⟩ => ?_
  refine ⟨w, δ, μ, e, L, S, ?_⟩
  unfold sTryQ at h
  cases q : b δ μ with
  | nx δ' μ' => rw [q] at h; exact h
  | bk δ' μ' => rw [q] at h; exact h
  | ct δ' μ' => rw [q] at h; exact h
  | rt x' μ' => rw [q] at h; exact h
  | bad => rw [q] at h; exact h.elim
  | ex c pp δ' μ' =>
    rw [q] at h
    cases pp with
    | some fs => exact h.elim
    | none =>
      dsimp only at h
      split at h
      · rename_i z hk
        split at h
        · rename_i hi'
          intro C d σ' w' g E' L' S' x'
          have ed : d = none := by
            cases d with
            | none => rfl
            | some ad => exact x'.elim
          refine ⟨true, ct c z C hk g, fun _ a ha => ?_, fun z => Bool.noConfusion z⟩
          refine ⟨List.getElem?_set_self (by rw [← S'.1]; exact hi'), ed, c, C, z, w', μ', rfl, g, hk, rfl, L', fun v w2 E2 L2 r2 => ?_⟩
          refine ⟨(c, z), w2, μ', hk, rfl, L2, r2, ?_⟩
          split at h
          · rename_i hc
            exact ⟨true, hc, h (.bl false) w2 (E'.trans E2) L2 (RelD.t (Rel.bool false))⟩
          · rename_i hc
            refine ⟨false, hc, ?_⟩
            show Dn.nx ((σ'.set i (some (.ref a))).set i none) w2.H
            rw [List.set_set]
            exact h _ w2 (E'.trans E2) L2 ((S'.ext L' E2).setNone i)
          · exact h.elim
        · exact h.elim
      · exact h.elim
end
end TV

/-! TV, fourteenth part: tables of defs, the head's Hook with more to look at. -/
namespace TV
open PySem PySem.Spec PyProof.Rows L2

/-! ## a table of defs -/
def dTab (kvs : List (Str × DF)) (de : DE) (as : DA) : DE := fun δ μ => (de δ μ).bind fun x μ => match x with
  | .t (.str z) => match kvs.lookup z with
    | some F => (as δ μ).bind F
    | none => .bad
  | _ => .bad
def dInTab (ks : Str → Option Bool) (de : DE) : DT := fun δ μ => (de δ μ).bind fun x μ => match x with
  | .t (.str z) => match ks z with
    | some b => .ok (!b) μ
    | none => .bad
  | _ => .bad
section
variable {X : Cx} {W : WX} {k : Nat} {tb : Str} {Ta : Addr} {e a : Expr} {es : List Expr} {as : DA} {de : DE} {p p2 p3 pos : Pos} {kvs : List (Str × DF)}
theorem eval_call_sub (x y : Expr) (q : Pos) (args : List Expr) (pos : Pos) (env : Env) : eval (.Call (.Subscript x y q) args [] pos) env = (do
    callWith pos (← eval (.Subscript x y q) env) [] (backTo pos (starEach args env)) (backToKw pos (keywordEach [] env))) := rfl
theorem le_tab (D : ∀ z F, kvs.lookup z = some F → ∃ g f, KDct X.K X.w Ta z (.ref f) ∧ X.mg g = some (.ref f) ∧ FeX X k g F) (room : Room k X.A) (gd : X.A.guards = some []) (tk : Takes X W) (hg : Gl X tb) (hm : X.mg tb = some (.ref Ta)) (he : LE X W e de) (ha : LA X W (a :: es) as)
    (hix : PlainIx e := by exact fun _ _ => rfl) (hdb : (tb == ("__debug__" : Str)) = false := by decide)
    (hs : starEach (a :: es) X.env = (false, eval a X.env) :: starEach es X.env := by rfl) (hpl : (backTo pos (starEach es X.env)).any (·.1) = false := by rfl) : LE X W (.Call (.Subscript (.Name tb p) e p2) (a :: es) [] pos) (dTab kvs de as) := by
  refine ⟨fun pins s σ H Q I ⟨w, δ, μ, eH, L, S, h⟩ => ?_⟩
  rw [eval_call_sub]
  have sub : PE X (.Subscript (.Name tb p) e p2) _ := pe_ix (ix_kdict (X := X)) (pe_glob (pos := p) (v := .ref Ta) hg hm rfl hdb) he hix
  unfold dTab at h
  refine wpAny_bind (thn (sub.run pins s σ H (fun v H1 => ∃ F g f, v = .ref f ∧ X.mg g = some (.ref f) ∧ FeX X k g F ∧ ∃ w1 μ1, w1.H = H1 ∧ Live (gx X) w1 μ1 ∧ Slots (gx X) w1 δ σ ∧ Pst (gx X) W σ (RelD (gx X)) Q w1 ((as δ μ1).bind F)) I ?_) fun f s1 ⟨v, H1, I1, r1, F, g, fa, ev, mf, D1, w1, μ1, e1, L1, S1, h1⟩ => ?_)
  · refine ⟨w, δ, μ, eH, L, S, ?_⟩
    refine Pst.bind h fun x v w1 μ1 E1 L1 r1 h1 => ?_
    split at h1
    · rename_i z
      split at h1
      · rename_i F hF
        obtain ⟨g, f, kd, mf, D1⟩ := D z F hF
        rw [RelD, Rel] at r1
        obtain ⟨rfl, _⟩ := r1
        exact ⟨Ta, z, .ref f, rfl, rfl, kd, F, g, f, rfl, mf, D1, w1, μ1, rfl, L1, S.ext L E1, h1⟩
      · exact h1.elim
    · exact h1.elim
  · subst ev
    cases r1
    obtain ⟨f', fd, ps, hm', hk, bd, D2⟩ := D1.ex
    have ef : fa = f' := by
      rw [mf] at hm'
      exact Value.ref.inj (Option.some.inj hm')
    subst ef
    have first := ha.run pos pins s1 σ H1 _ I1 (call_lift (F := F) ⟨w1, δ, μ1, e1, L1, S1, h1⟩)
    exact PySem.W.callWith_K (h₀ := X.base) I1.ok.mod.kin hk (thn first fun us s2 ⟨vs, H2, I2, rv, want⟩ => ⟨I2.kIn, runG D2 room gd bd tk I2 rv want⟩) hs hpl
theorem lt_notInTab {es : Array DictEntry} {n : Nat} {ks : Str → Option Bool} (D : KDict X.K X.w Ta es n) (hk : ∀ z b, ks z = some b → ∃ r, PySem.W.nsIn X.K Ta z = some r ∧ r.isSome = b) (hg : Gl X tb) (hm : X.mg tb = some (.ref Ta)) (he : LE X W e de) (hmk : behindInMarks .NotIn (.Name tb p) = false := by rfl) (hdb : (tb == ("__debug__" : Str)) = false := by decide) :
    LT X W (.Compare e [.NotIn] [.Name tb p] pos) (dInTab ks de) := by
  refine (pt_cmpR (op_notIn_kd D) he (pe_glob (pos := p) (v := .ref Ta) hg hm rfl hdb) hmk).imp fun σ H Q ⟨w, δ, μ, eH, L, S, h⟩ => ?_
  refine ⟨w, δ, μ, eH, L, S, Pst.bind h fun x v w1 μ1 E1 L1 r1 h1 => ?_⟩
  split at h1
  · rename_i z
    split at h1
    · rename_i b hb
      obtain ⟨r, e1, e2⟩ := hk z b hb
      rw [RelD, Rel] at r1
      obtain ⟨rfl, _⟩ := r1
      refine ⟨z, r, rfl, rfl, e1, !b, by rw [e2], here_ok h1 L1 rfl⟩
    · exact h1.elim
  · exact h1.elim
end

/-! ## a def that is never called so deep -/
theorem fe_bad {P : Program} {w : World} {K : PySem.W.Frag} {mg : Str → Option Value} {base : Heap} {x : Str} {params : Arguments} {body : List Stmt} {scope : Scope} {f : Addr} {fd : FuncData} {ps : List Str} (F : FunD K x x params body scope [] [] f fd) (g : mg x = some (.ref f)) (bd : Binds K fd ps []) (k : Nat) :
    Fe P w K mg base k x (fun _ _ => .bad) :=
  ⟨f, fd, ps, g, F.kp, bd, ⟨fun _ _ _ => rfl, fun A outer s H args us vs Q E room gd e0 b rv ⟨w, xs, μ, e, L, r, h⟩ => h.elim⟩⟩

theorem u64_of {k : Nat} {A : Around} (r : Room k A) : A.units + 64 < cLine := by have := r.un; omega
theorem u65_of {k : Nat} {A : Around} (r : Room k A) : A.units + 65 < cLine := by have := r.un; omega
theorem u64H_of {k : Nat} {A : Around} (r : L2H.RoomH k A) : A.units + 64 < cLine := by have := r.un; omega
theorem u65H_of {k : Nat} {A : Around} (r : L2H.RoomH k A) : A.units + 65 < cLine := by have := r.un; omega
/-! ## the Hook -/
abbrev AlE : Type := Bool × He.AlT
def obsE (fa : List He.Fa) (fn : List He.DefD) (ts : List He.Tab) (ex : PySem.W.Frag → Bool) (K : PySem.W.Frag) : AlE := (ex K, He.obsT fa fn ts K)
def valE (fn : List He.DefD) (ts : List He.Tab) (w : World) : AlE := (true, He.valT fn ts w)
def obsEG (n : Nat) (fa : List He.Fa) (fn : List He.DefD) (ts : List He.Tab) (ex : PySem.W.Frag → Bool) (g : Addr → Option Obj) : AlE := obsE fa fn ts ex (He.frG g (He.asD g n))
def SaysE (fa : List He.Fa) (fn : List He.DefD) (ts : List He.Tab) (ex : PySem.W.Frag → Bool) (w : World) (K : PySem.W.Frag) : Prop := obsE fa fn ts ex K = valE fn ts w
def hookE (n : Nat) (fa : List He.Fa) (fn : List He.DefD) (ts : List He.Tab) (ex : PySem.W.Frag → Bool) : PySem.W.Hook where
  α := AlE
  obs := fun s => obsEG n fa fn ts ex s.heap.get?
  val := fun w => valE fn ts w
  says := fun w h => ∃ K : PySem.W.Frag, K.In h ∧ SaysE fa fn ts ex w K
  of := fun _ _ e => ⟨_, He.frG_in, e⟩
  keeps := fun _ _ _ ⟨K, kin, c⟩ k => ⟨K, PySem.W.Frag.In.keeps kin k, c⟩
theorem obsEG_eq {n : Nat} {fa : List He.Fa} {fn : List He.DefD} {ts : List He.Tab} {ex : PySem.W.Frag → Bool} {g : Addr → Option Obj} {s : Shared} (h : ∀ a, g a = s.heap.get? a) : obsEG n fa fn ts ex g = (hookE n fa fn ts ex).obs s := by
  have e : g = s.heap.get? := funext h
  rw [e]
  rfl
section
variable {fa : List He.Fa} {fn : List He.DefD} {ts : List He.Tab} {ex : PySem.W.Frag → Bool} {w : World} {K : PySem.W.Frag}
theorem SaysE.t (c : SaysE fa fn ts ex w K) : He.SaysT fa fn ts w K := congrArg (fun z : AlE => z.2) c
theorem SaysE.d (c : SaysE fa fn ts ex w K) : He.SaysD fa fn K := c.t.d
theorem SaysE.x (c : SaysE fa fn ts ex w K) : ex K = true := congrArg (fun z : AlE => z.1) c
end
/-- what an own class says of its instances -/
def excB (K : PySem.W.Frag) (x : Str) : Bool :=
  He.eqO (PySem.W.findIn K (.ref (He.ga K x)) "__getattribute__") (some (some (.builtin "BaseException.__getattribute__"))) && He.eqO (PySem.W.findIn K (.ref (He.ga K x)) "__getattr__") (some none) && decide (PySem.W.subIn K (.ref (He.ga K x)) (.type "BaseException") = some true)
    && PySem.W.hasDictIn K (He.ga K x) && He.eqO (PySem.W.findIn K (.ref (He.ga K x)) "__class__") (some (some (.builtin "object.__class__"))) && He.eqO (PySem.W.specialIn K (.builtin "object.__class__") "__get__") (some (some (.builtin "getset_descriptor.__get__")))
    && decide (PySem.W.takesIn K (.builtin "object.__class__") = some true) && decide (PySem.W.mroIn K (He.ga K x) (.type "object") = some true)
theorem excB_ok {K : PySem.W.Frag} {x : Str} (h : excB K x = true) : ExcC K (He.ga K x) := by
  unfold excB at h
  simp only [Bool.and_eq_true, decide_eq_true_eq] at h
  obtain ⟨⟨⟨⟨⟨⟨⟨h1, h2⟩, h3⟩, h4⟩, h5⟩, h6⟩, h7⟩, h8⟩ := h
  exact ⟨He.eqO_ok h1, He.eqO_ok h2, h3, h4, He.eqO_ok h5, He.eqO_ok h6, h7, h8⟩
/-- all these classes, told from each other -/
def exmB (K : PySem.W.Frag) (xs ys : List Str) : Bool := xs.all fun x => ys.all fun y => decide (PySem.W.exmOne K (.ref (He.ga K x)) (.ref (He.ga K y)) = some (decide (x = y)))
def underB (K : PySem.W.Frag) (xs : List Str) (y : Str) : Bool := xs.all fun x => decide (PySem.W.exmOne K (.ref (He.ga K x)) (.ref (He.ga K y)) = some true)
theorem exmB_ok {K : PySem.W.Frag} {xs ys : List Str} (h : exmB K xs ys = true) {x y : Str} (hx : x ∈ xs) (hy : y ∈ ys) : PySem.W.exmOne K (.ref (He.ga K x)) (.ref (He.ga K y)) = some (decide (x = y)) :=
  of_decide_eq_true (List.all_eq_true.mp (List.all_eq_true.mp h x hx) y hy)
theorem underB_ok {K : PySem.W.Frag} {xs : List Str} {y : Str} (h : underB K xs y = true) {x : Str} (hx : x ∈ xs) : PySem.W.exmOne K (.ref (He.ga K x)) (.ref (He.ga K y)) = some true :=
  of_decide_eq_true (List.all_eq_true.mp h x hx)
/-- keys a table has, keys it has not -/
def keysB (K : PySem.W.Frag) (a : Addr) (no : List Str) : Bool := no.all fun z => He.eqO (PySem.W.nsIn K a z) (some none)
theorem keysB_ok {K : PySem.W.Frag} {a : Addr} {no : List Str} (h : keysB K a no = true) {z : Str} (hz : z ∈ no) : PySem.W.nsIn K a z = some none := He.eqO_ok (List.all_eq_true.mp h z hz)
theorem exc_fact {K : PySem.W.Frag} {h : Heap} {mg : Str → Option Value} {x : Str} (kin : K.In h) (G : h.Ns mainGlobals mg) (c : (He.Fa.exc x).ok K = true) (g : (He.Fa.glo x).ok K = true) : ExcF K mg x := by
  obtain ⟨h1, h2, h3, h4⟩ := He.exc_ok c
  exact ⟨He.ga K x, He.glo_ok kin G g, h1, h2, h3, h4⟩
end TV

/-! TV, fifteenth part: plain laws about loops and comprehensions. -/
namespace TV
open PySem PySem.Spec PyProof.Rows L2

theorem bind_ok {α β : Type} (a : α) (μ : Mu) (k : α → Mu → R β) : (R.ok a μ).bind k = k a μ := rfl
theorem bind_ex {α β : Type} (c : Str) (p : Option (List (Str × PyData))) (μ : Mu) (k : α → Mu → R β) : (R.ex c p μ : R α).bind k = .ex c p μ := rfl
theorem seq_nx (δ : Sl) (μ : Mu) (k : DS) : (RS.nx δ μ).seq k = k δ μ := rfl
theorem seq_rt (x : D) (μ : Mu) (k : DS) : (RS.rt x μ).seq k = .rt x μ := rfl
theorem seq_bk (δ : Sl) (μ : Mu) (k : DS) : (RS.bk δ μ).seq k = .bk δ μ := rfl
theorem seq_ct (δ : Sl) (μ : Mu) (k : DS) : (RS.ct δ μ).seq k = .ct δ μ := rfl
theorem seq_ex (c : Str) (p : Option (List (Str × PyData))) (δ : Sl) (μ : Mu) (k : DS) : (RS.ex c p δ μ).seq k = .ex c p δ μ := rfl
theorem toS_ok {α : Type} (a : α) (μ : Mu) (δ : Sl) (k : α → Mu → RS) : (R.ok a μ).toS δ k = k a μ := rfl
theorem toS_ex {α : Type} (c : Str) (p : Option (List (Str × PyData))) (μ : Mu) (δ : Sl) (k : α → Mu → RS) : (R.ex c p μ : R α).toS δ k = .ex c p δ μ := rfl
theorem nox_ok {α : Type} (a : α) (μ : Mu) : nox (R.ok a μ) = .ok a μ := rfl

theorem mkF_rt {n m : Nat} {live : Bool} {b : DS} {args : List D} {μ μ' : Mu} {x : D} (hn : args.length = n) (e : b (args.map some ++ List.replicate m none) μ = .rt x μ') : mkF n m live b args μ = gc live μ.length x μ' := by
  unfold mkF
  rw [if_pos hn, e]
theorem mkF_t {n m : Nat} {live : Bool} {b : DS} {args : List D} {μ μ' : Mu} {x : PyData} (hn : args.length = n) (e : b (args.map some ++ List.replicate m none) μ = .rt (.t x) μ') (hl : μ'.length = μ.length) : mkF n m live b args μ = .ok (.t x) μ' := by
  rw [mkF_rt hn e]
  unfold gc
  dsimp only
  rw [List.take_of_length_le (by omega)]
theorem mkF_nx {n m : Nat} {live : Bool} {b : DS} {args : List D} {μ μ' : Mu} {δ : Sl} (hn : args.length = n) (e : b (args.map some ++ List.replicate m none) μ = .nx δ μ') (hl : μ'.length = μ.length) : mkF n m live b args μ = .ok (.t .none) μ' := by
  unfold mkF
  rw [if_pos hn, e]
  unfold gc
  dsimp only
  rw [List.take_of_length_le (by omega)]
theorem mkF_ex {n m : Nat} {live : Bool} {b : DS} {args : List D} {μ μ' : Mu} {δ : Sl} {c : Str} {p : Option (List (Str × PyData))} (hn : args.length = n) (e : b (args.map some ++ List.replicate m none) μ = .ex c p δ μ') (hl : μ'.length = μ.length) : mkF n m live b args μ = .ex c p μ' := by
  unfold mkF
  rw [if_pos hn, e]
  dsimp only
  rw [List.take_of_length_le (by omega)]
/-! ## for -/
theorem forL_inv {ok : Mu → Bool} {g : DG} {s : DS} (I : Nat → Sl → Mu → Prop) (N : Nat) (hok : ∀ μ, ok μ = true) : ∀ (xs : List PyData) (i : Nat) (δ : Sl) (μ : Mu), I i δ μ → i + xs.length ≤ N →
    (∀ x ∈ xs, ∀ i δ μ, i < N → I i δ μ → ∃ δ1 μ1 δ2 μ2, g (.t x) δ μ = .nx δ1 μ1 ∧ I (i + 1) δ2 μ2 ∧ (s δ1 μ1 = .nx δ2 μ2 ∨ s δ1 μ1 = .ct δ2 μ2 ∨ s δ1 μ1 = .bk δ2 μ2)) →
    ∃ j δ' μ', j ≤ N ∧ forL ok g s xs δ μ = .nx δ' μ' ∧ I j δ' μ'
  | [], i, δ, μ, h, hN, _ => ⟨i, δ, μ, by simpa using hN, by rw [forL, hok]; rfl, h⟩
  | x :: xs, i, δ, μ, h, hN, step => by
    rw [List.length_cons] at hN
    obtain ⟨δ1, μ1, δ2, μ2, e1, h2, e2⟩ := step x (by simp) i δ μ (by omega) h
    rw [forL, hok, if_pos rfl, e1]
    dsimp only
    rcases e2 with e2 | e2 | e2
    · obtain ⟨j, δ', μ', hj, e, hI⟩ := forL_inv I N hok xs (i + 1) δ2 μ2 h2 (by omega) fun y hy => step y (by simp [hy])
      exact ⟨j, δ', μ', hj, by rw [e2]; exact e, hI⟩
    · obtain ⟨j, δ', μ', hj, e, hI⟩ := forL_inv I N hok xs (i + 1) δ2 μ2 h2 (by omega) fun y hy => step y (by simp [hy])
      exact ⟨j, δ', μ', hj, by rw [e2]; exact e, hI⟩
    · exact ⟨i + 1, δ2, μ2, by omega, by rw [e2], h2⟩
/-- a loop that gives back v at the first bad item -/
theorem forL_find {ok : Mu → Bool} {g : DG} {s : DS} {v : D} {μ : Mu} (I : Sl → Prop) (bad : PyData → Bool) (hok : ok μ = true) : ∀ (xs : List PyData) (δ : Sl), I δ →
    (∀ x ∈ xs, ∀ δ, I δ → ∃ δ1 δ2, g (.t x) δ μ = .nx δ1 μ ∧ I δ2 ∧ s δ1 μ = if bad x then .rt v μ else .nx δ2 μ) →
    (xs.any bad = true → forL ok g s xs δ μ = .rt v μ) ∧ (xs.any bad = false → ∃ δ', forL ok g s xs δ μ = .nx δ' μ ∧ I δ')
  | [], δ, h, _ => ⟨fun z => by simp at z, fun _ => ⟨δ, by rw [forL, hok]; rfl, h⟩⟩
  | x :: xs, δ, h, step => by
    obtain ⟨δ1, δ2, e1, h2, e2⟩ := step x (by simp) δ h
    rw [forL, hok, if_pos rfl, e1]
    dsimp only
    cases hb : bad x with
    | true =>
      rw [hb] at e2
      refine ⟨fun _ => by rw [e2]; rfl, fun z => ?_⟩
      rw [List.any_cons, hb] at z
      cases z
    | false =>
      rw [hb] at e2
      obtain ⟨a, b⟩ := forL_find I bad hok xs δ2 h2 fun y hy => step y (by simp [hy])
      rw [List.any_cons, hb, Bool.false_or]
      refine ⟨fun z => ?_, fun z => ?_⟩
      · rw [e2]; exact a z
      · obtain ⟨δ', e, h3⟩ := b z
        exact ⟨δ', by rw [e2]; exact e, h3⟩

/-! ## comprehensions -/
theorem set_self' {α : Type} : ∀ {l : List α} {k : Nat} {a : α}, l[k]? = some a → l.set k a = l
  | [], _, _, h => by simp at h
  | x :: l, 0, a, h => by simp at h; simp [h]
  | x :: l, k + 1, a, h => by
    rw [List.getElem?_cons_succ] at h
    rw [List.set_cons_succ, set_self' h]
/-- each item's value alone -/
theorem lcL_map {p : It'} {g : DG} {dt : DT} {de : DE} {δ0 : Sl} {k : Nat} (f : PyData → PyData) (b : PyData → Bool) (hp : p.2 = none) : ∀ (xs : List PyData) (μ : Mu) (acc : List PyData), μ[k]? = some (.l acc) → acc.length + xs.length ≤ sizeLine →
    (∀ x ∈ xs, ∀ μ', μ'.length = μ.length → ∃ δ1, g (.t x) δ0 μ' = .nx δ1 μ' ∧ dt δ1 μ' = .ok (b x) μ' ∧ (b x = true → de δ1 μ' = .ok (.t (f x)) μ')) → lcL p g dt de δ0 k xs μ = .ok () (μ.set k (.l (acc ++ (xs.filter b).map f)))
  | [], μ, acc, h, _, _ => by
    have e : chk p μ = true := by unfold chk; rw [hp]
    rw [lcL, e, if_pos rfl]
    simp [set_self' h]
  | x :: xs, μ, acc, h, z, step => by
    have e : chk p μ = true := by unfold chk; rw [hp]
    obtain ⟨δ1, e1, e2, e3⟩ := step x (by simp) μ rfl
    have hk : k < μ.length := (List.getElem?_eq_some_iff.mp h).1
    rw [lcL, e, if_pos rfl, e1]
    dsimp only
    rw [e2, nox_ok, bind_ok]
    rw [List.length_cons] at z
    cases hb : b x with
    | false =>
      rw [if_neg Bool.false_ne_true, List.filter_cons_of_neg (by rw [hb]; exact Bool.false_ne_true)]
      exact lcL_map f b hp xs μ acc h (by omega) fun y hy => step y (by simp [hy])
    | true =>
      rw [if_pos rfl, e3 hb, nox_ok, bind_ok]
      have pu : pushAt k (.t (f x)) μ = some (μ.set k (.l (acc ++ [f x]))) := by
        unfold pushAt
        rw [h]
        exact if_pos (by omega)
      rw [pu]
      dsimp only
      rw [lcL_map f b hp xs (μ.set k (.l (acc ++ [f x]))) (acc ++ [f x]) (List.getElem?_set_self hk) (by rw [List.length_append, List.length_singleton]; omega) fun y hy μ' hμ => step y (by simp [hy]) μ' (by rw [hμ, List.length_set])]
      rw [List.set_set, List.filter_cons_of_pos hb, List.map_cons, List.append_assoc]
      rfl
theorem dLc_map {vs : List Nat} {di : DI} {g : DG} {dt : DT} {de : DE} {δ : Sl} {μ : Mu} {xs : List PyData} (f : PyData → PyData) (b : PyData → Bool) (hi : di δ μ = .ok (xs, none) μ) (z : xs.length ≤ sizeLine)
    (h : ∀ x ∈ xs, ∀ μ', μ'.length = μ.length + 1 → ∃ δ1, g (.t x) (wipeD δ vs) μ' = .nx δ1 μ' ∧ dt δ1 μ' = .ok (b x) μ' ∧ (b x = true → de δ1 μ' = .ok (.t (f x)) μ')) : dLc false vs di g dt de δ μ = .ok (.t (.list ((xs.filter b).map f))) μ := by
  unfold dLc
  rw [hi, bind_ok]
  dsimp only
  have k0 : (μ ++ [O.l []])[μ.length]? = some (.l []) := by simp
  have e := lcL_map (p := (xs, none)) (g := g) (dt := dt) (de := de) (δ0 := wipeD δ vs) f b rfl xs (μ ++ [O.l []]) [] k0 (by simpa using z) fun x hx μ' hμ => h x hx μ' (by rw [hμ]; simp)
  rw [e, bind_ok]
  unfold lcEnd
  rw [List.getElem?_set_self (by simp)]
  simp
/-- .. of all items -/
theorem dLc_all {vs : List Nat} {di : DI} {g : DG} {de : DE} {δ : Sl} {μ : Mu} {xs : List PyData} (f : PyData → PyData) (hi : di δ μ = .ok (xs, none) μ) (z : xs.length ≤ sizeLine)
    (h : ∀ x ∈ xs, ∀ μ', μ'.length = μ.length + 1 → ∃ δ1, g (.t x) (wipeD δ vs) μ' = .nx δ1 μ' ∧ de δ1 μ' = .ok (.t (f x)) μ') : dLc false vs di g dYes de δ μ = .ok (.t (.list (xs.map f))) μ := by
  have e := dLc_map (vs := vs) (g := g) (dt := dYes) (de := de) f (fun _ => true) hi z fun x hx μ' hμ => (fun ⟨δ1, a, b⟩ => ⟨δ1, a, rfl, fun _ => b⟩) (h x hx μ' hμ)
  rw [e, List.filter_eq_self.mpr fun _ _ => rfl]

/-! ## step by step -/
theorem dLst_ok {as : DA} {δ : Sl} {μ μ' : Mu} {xs : List D} {ps : List PyData} (h : as δ μ = .ok xs μ') (e : allT xs = some ps) (z : xs.length ≤ 1000) : dLst false as δ μ = .ok (.t (.list ps)) μ' := by
  unfold dLst
  rw [h, bind_ok]
  unfold mkLst
  rw [if_pos (Nat.le_trans z (by rw [sizeLine_eq]; decide)), e]
  rfl
theorem dTup_ok {as : DA} {δ : Sl} {μ μ' : Mu} {xs : List D} {ps : List PyData} (h : as δ μ = .ok xs μ') (e : allT xs = some ps) (z : xs.length ≤ 1000) : dTup as δ μ = .ok (.t (.tuple ps)) μ' := by
  unfold dTup
  rw [h, bind_ok]
  unfold mkTup
  rw [if_pos (Nat.le_trans z (by rw [sizeLine_eq]; decide)), e]
theorem cons_ok {a : DE} {r : DA} {δ : Sl} {μ μ1 μ2 : Mu} {x : D} {xs : List D} (h : a δ μ = .ok x μ1) (h2 : r δ μ1 = .ok xs μ2) : dCons a r δ μ = .ok (x :: xs) μ2 := by
  unfold dCons
  rw [h, bind_ok, h2, bind_ok]
theorem set_ok' {i : Nat} {d : DE} {δ : Sl} {μ μ' : Mu} {x : D} (h : d δ μ = .ok x μ') : sSet i d δ μ = .nx (δ.set i (some x)) μ' := by
  unfold sSet
  rw [h, toS_ok]
theorem seq_ok {a b : DS} {δ δ' : Sl} {μ μ' : Mu} (h : a δ μ = .nx δ' μ') : sSeq a b δ μ = b δ' μ' := by
  unfold sSeq
  rw [h, seq_nx]
theorem seq_out {a b : DS} {δ : Sl} {μ μ' : Mu} {x : D} (h : a δ μ = .rt x μ') : sSeq a b δ μ = .rt x μ' := by
  unfold sSeq
  rw [h, seq_rt]
theorem ret_ok {d : DE} {δ : Sl} {μ μ' : Mu} {x : D} (h : d δ μ = .ok x μ') : sRet d δ μ = .rt x μ' := by
  unfold sRet
  rw [h, toS_ok]
theorem if_t {c : DT} {a b : DS} {δ : Sl} {μ μ' : Mu} (h : c δ μ = .ok true μ') : sIf c a b δ μ = a δ μ' := by
  unfold sIf
  rw [h, toS_ok, if_pos rfl]
theorem if_f {c : DT} {a b : DS} {δ : Sl} {μ μ' : Mu} (h : c δ μ = .ok false μ') : sIf c a b δ μ = b δ μ' := by
  unfold sIf
  rw [h, toS_ok, if_neg Bool.false_ne_true]
theorem call1_ok {F : DF} {a : DE} {δ : Sl} {μ μ1 : Mu} {x : D} {r : R D} (h : a δ μ = .ok x μ1) (e : F [x] μ1 = r) : dCall F (dCons a dNil) δ μ = r := by
  unfold dCall
  rw [cons_ok h rfl, bind_ok, e]
theorem call2_ok {F : DF} {a b : DE} {δ : Sl} {μ μ1 μ2 : Mu} {x y : D} {r : R D} (h : a δ μ = .ok x μ1) (h2 : b δ μ1 = .ok y μ2) (e : F [x, y] μ2 = r) : dCall F (dCons a (dCons b dNil)) δ μ = r := by
  unfold dCall
  rw [cons_ok h (cons_ok h2 rfl), bind_ok, e]
theorem isE_ok {a : Addr} {b : Bool} {r : Sl} {μ : Mu} : dIsE 0 a b (some (.ref a) :: r) μ = .ok (.t (.bool b)) μ := by simp [dIsE]

/-! ## draws -/
/-- drawn numbers: not too many, each below 1000 -/
def Good (ds : List Int) : Prop := ds.length ≤ 20000 ∧ ∀ d ∈ ds, 0 ≤ d ∧ d < 1000
/-- the live list k holds draws -/
def Dr (k : Nat) (μ : Mu) : Prop := ∃ ds, Good ds ∧ μ[k]? = some (.l (ds.map .int))
/-- only the draws at k have moved on -/
def Mv (k : Nat) (μ μ' : Mu) : Prop := ∃ ds, Good ds ∧ μ' = μ.set k (.l (ds.map .int))
theorem Dr.lt {k : Nat} {μ : Mu} (h : Dr k μ) : k < μ.length := by
  obtain ⟨ds, _, e⟩ := h
  exact (List.getElem?_eq_some_iff.mp e).1
theorem Mv.refl {k : Nat} {μ : Mu} (h : Dr k μ) : Mv k μ μ := by
  obtain ⟨ds, g, e⟩ := h
  exact ⟨ds, g, (set_self' e).symm⟩
theorem Mv.trans {k : Nat} {a b c : Mu} (x : Mv k a b) (y : Mv k b c) : Mv k a c := by
  obtain ⟨ds, _, rfl⟩ := x
  obtain ⟨es, g, rfl⟩ := y
  exact ⟨es, g, by rw [List.set_set]⟩
theorem Mv.dr {k : Nat} {a b : Mu} (x : Mv k a b) (h : k < a.length) : Dr k b := by
  obtain ⟨ds, g, rfl⟩ := x
  exact ⟨ds, g, List.getElem?_set_self h⟩
theorem Mv.len {k : Nat} {a b : Mu} (x : Mv k a b) : b.length = a.length := by
  obtain ⟨ds, g, rfl⟩ := x
  rw [List.length_set]
theorem Mv.other {k j : Nat} {a b : Mu} (x : Mv k a b) (h : k ≠ j) : b[j]? = a[j]? := by
  obtain ⟨ds, g, rfl⟩ := x
  rw [List.getElem?_set_ne h]
/-- a comprehension that draws -/
theorem lcL_draw {p : It'} {g : DG} {de : DE} {δ0 : Sl} {k j : Nat} (P : PyData → Prop) (hp : p.2 = none) (hjk : j ≠ k) : ∀ (xs : List PyData) (μ : Mu) (acc : List PyData), μ[k]? = some (.l acc) → acc.length + xs.length ≤ sizeLine → Dr j μ →
    (∀ x ∈ xs, ∀ μ', μ'.length = μ.length → Dr j μ' → ∃ δ1 y μ2, g (.t x) δ0 μ' = .nx δ1 μ' ∧ de δ1 μ' = .ok (.t y) μ2 ∧ P y ∧ Mv j μ' μ2) →
    ∃ ys ds, lcL p g dYes de δ0 k xs μ = .ok () ((μ.set j (.l (ds.map .int))).set k (.l (acc ++ ys))) ∧ Good ds ∧ ys.length = xs.length ∧ ∀ y ∈ ys, P y
  | [], μ, acc, h, _, ⟨ds, gd, e⟩, _ => by
    have ec : chk p μ = true := by unfold chk; rw [hp]
    refine ⟨[], ds, ?_, gd, rfl, by simp⟩
    rw [lcL, ec, if_pos rfl, set_self' e, List.append_nil, set_self' h]
  | x :: xs, μ, acc, h, z, hd, step => by
    have ec : chk p μ = true := by unfold chk; rw [hp]
    obtain ⟨δ1, y, μ2, e1, e2, hP, mv⟩ := step x (by simp) μ rfl hd
    have hk : k < μ.length := (List.getElem?_eq_some_iff.mp h).1
    have h2 : μ2[k]? = some (.l acc) := by rw [mv.other hjk]; exact h
    rw [List.length_cons] at z
    have pu : pushAt k (.t y) μ2 = some (μ2.set k (.l (acc ++ [y]))) := by
      unfold pushAt
      rw [h2]
      exact if_pos (by omega)
    have dr2 : Dr j (μ2.set k (.l (acc ++ [y]))) := by
      obtain ⟨ds, gd, e⟩ := mv.dr hd.lt
      exact ⟨ds, gd, by rw [List.getElem?_set_ne (Ne.symm hjk)]; exact e⟩
    obtain ⟨ys, ds, e, gd, hl, hPs⟩ := lcL_draw P hp hjk xs (μ2.set k (.l (acc ++ [y]))) (acc ++ [y]) (List.getElem?_set_self (by rw [mv.len]; exact hk)) (by rw [List.length_append, List.length_singleton]; omega) dr2
      fun w hw μ' hμ => step w (by simp [hw]) μ' (by rw [hμ, List.length_set, mv.len])
    refine ⟨y :: ys, ds, ?_, gd, by simp [hl], fun w hw => ?_⟩
    · have dy : ∀ μ', dYes δ1 μ' = .ok true μ' := fun _ => rfl
      rw [lcL, ec, if_pos rfl, e1]
      dsimp only
      rw [dy, nox_ok, bind_ok, if_pos rfl, e2, nox_ok, bind_ok, pu]
      dsimp only
      rw [e]
      obtain ⟨d0, _, rfl⟩ := mv
      rw [List.set_comm _ _ hjk, List.set_set, List.set_comm _ _ (Ne.symm hjk), List.set_set, List.append_assoc]
      rfl
    · rcases List.mem_cons.mp hw with rfl | hw
      · exact hP
      · exact hPs w hw
theorem dLc_draw {vs : List Nat} {di : DI} {g : DG} {de : DE} {δ : Sl} {μ μ0 : Mu} {xs : List PyData} {j : Nat} (P : PyData → Prop) (hi : di δ μ0 = .ok (xs, none) μ) (z : xs.length ≤ sizeLine) (hd : Dr j μ)
    (h : ∀ x ∈ xs, ∀ μ', μ'.length = μ.length + 1 → Dr j μ' → ∃ δ1 y μ2, g (.t x) (wipeD δ vs) μ' = .nx δ1 μ' ∧ de δ1 μ' = .ok (.t y) μ2 ∧ P y ∧ Mv j μ' μ2) :
    ∃ ys μ', dLc false vs di g dYes de δ μ0 = .ok (.t (.list ys)) μ' ∧ Mv j μ μ' ∧ ys.length = xs.length ∧ ∀ y ∈ ys, P y := by
  have hj := hd.lt
  have k0 : (μ ++ [O.l []])[μ.length]? = some (.l []) := by simp
  have d0 : Dr j (μ ++ [O.l []]) := by
    obtain ⟨ds, gd, e⟩ := hd
    exact ⟨ds, gd, by rw [List.getElem?_append_left hj]; exact e⟩
  obtain ⟨ys, ds, e, gd, hl, hP⟩ := lcL_draw (p := (xs, none)) (g := g) (de := de) (δ0 := wipeD δ vs) P rfl (Nat.ne_of_lt hj) xs (μ ++ [.l []]) [] k0 (by simpa using z) d0 fun x hx μ' hμ => h x hx μ' (by rw [hμ]; simp)
  refine ⟨ys, μ.set j (.l (ds.map .int)), ?_, ⟨ds, gd, rfl⟩, hl, hP⟩
  unfold dLc
  rw [hi, bind_ok, e, bind_ok]
  unfold lcEnd
  rw [List.getElem?_set_self (by simp)]
  rw [List.set_append_left _ _ hj, List.set_append_right _ _ (by simp)]
  simp
end TV
namespace TW
open PySem PySem.Spec PyProof.Rows L2 TV
def top (i : Nat) : Stmt := PySem.Challenge.pw_loopsheld_k21_lines_and_forms.main.body.getD i (.Pass ⟨0, 0, 0, 0⟩)
def d_is_integer : He.DefD := ⟨("is_integer", none), "is_integer", "is_integer", defArgs (top 10), defBody (top 10), defScope (top 10), [], []⟩
def d_is_row : He.DefD := ⟨("is_row", none), "is_row", "is_row", defArgs (top 11), defBody (top 11), defScope (top 11), [], []⟩
def d_are_pairs : He.DefD := ⟨("are_pairs", none), "are_pairs", "are_pairs", defArgs (top 12), defBody (top 12), defScope (top 12), [], []⟩
def d_is_told_table : He.DefD := ⟨("is_told_table", none), "is_told_table", "is_told_table", defArgs (top 13), defBody (top 13), defScope (top 13), [], []⟩
def d_is_told_pair : He.DefD := ⟨("is_told_pair", none), "is_told_pair", "is_told_pair", defArgs (top 14), defBody (top 14), defScope (top 14), [], []⟩
def d_has_form : He.DefD := ⟨("has_form", none), "has_form", "has_form", defArgs (top 16), defBody (top 16), defScope (top 16), [], []⟩
def d_words_of : He.DefD := ⟨("words_of", none), "words_of", "words_of", defArgs (top 20), defBody (top 20), defScope (top 20), [], []⟩
def d_is_name : He.DefD := ⟨("is_name", none), "is_name", "is_name", defArgs (top 21), defBody (top 21), defScope (top 21), [], []⟩
def d_number_in : He.DefD := ⟨("number_in", none), "number_in", "number_in", defArgs (top 22), defBody (top 22), defScope (top 22), [], []⟩
def d__law_number : He.DefD := ⟨("_law_number", none), "_law_number", "_law_number", defArgs (top 24), defBody (top 24), defScope (top 24), [], []⟩
def d__law_draws : He.DefD := ⟨("_law_draws", none), "_law_draws", "_law_draws", defArgs (top 25), defBody (top 25), defScope (top 25), [], []⟩
def d__law_next : He.DefD := ⟨("_law_next", none), "_law_next", "_law_next", defArgs (top 26), defBody (top 26), defScope (top 26), [], []⟩
def d__law_more : He.DefD := ⟨("_law_more", none), "_law_more", "_law_more", defArgs (top 27), defBody (top 27), defScope (top 27), [], []⟩
def d__law_pick : He.DefD := ⟨("_law_pick", none), "_law_pick", "_law_pick", defArgs (top 28), defBody (top 28), defScope (top 28), [], []⟩
def d__law_kind : He.DefD := ⟨("_law_kind", none), "_law_kind", "_law_kind", defArgs (top 29), defBody (top 29), defScope (top 29), [], []⟩
def d__law_line : He.DefD := ⟨("_law_line", none), "_law_line", "_law_line", defArgs (top 30), defBody (top 30), defScope (top 30), [], []⟩
def d__law_number_of : He.DefD := ⟨("_law_number_of", none), "_law_number_of", "_law_number_of", defArgs (top 31), defBody (top 31), defScope (top 31), [], []⟩
def d__law_is_row : He.DefD := ⟨("_law_is_row", none), "_law_is_row", "_law_is_row", defArgs (top 32), defBody (top 32), defScope (top 32), [], []⟩
def d__law_are_pairs : He.DefD := ⟨("_law_are_pairs", none), "_law_are_pairs", "_law_are_pairs", defArgs (top 33), defBody (top 33), defScope (top 33), [], []⟩
def d__law_due : He.DefD := ⟨("_law_due", none), "_law_due", "_law_due", defArgs (top 34), defBody (top 34), defScope (top 34), [], []⟩
def d__law_spoilt : He.DefD := ⟨("_law_spoilt", none), "_law_spoilt", "_law_spoilt", defArgs (top 35), defBody (top 35), defScope (top 35), [], []⟩
def d_law : He.DefD := ⟨("law", none), "law", "law", defArgs (top 36), defBody (top 36), defScope (top 36), [], []⟩
def fn : List He.DefD := ([d_is_integer, d_is_row, d_are_pairs, d_is_told_table, d_is_told_pair, d_has_form, d_words_of, d_is_name, d_number_in, d__law_number, d__law_draws, d__law_next, d__law_more, d__law_pick, d__law_kind, d__law_line, d__law_number_of, d__law_is_row, d__law_are_pairs, d__law_due, d__law_spoilt, d_law] : List He.DefD)
def fa : List He.Fa := ([.glo "is_integer", .glo "is_row", .glo "are_pairs", .glo "is_told_table", .glo "is_told_pair", .glo "has_form", .glo "words_of", .glo "is_name", .glo "number_in", .glo "_law_number", .glo "_law_draws", .glo "_law_next", .glo "_law_more", .glo "_law_pick", .glo "_law_kind", .glo "_law_line", .glo "_law_number_of", .glo "_law_is_row", .glo "_law_are_pairs", .glo "_law_due", .glo "_law_spoilt", .glo "law", .exc "LoopError", .glo "LoopError", .exc "NotPoly", .glo "NotPoly", .exc "NotTable", .glo "NotTable", .exc "NotMachine", .glo "NotMachine"] : List He.Fa) ++ ([.exc "NotPaper", .glo "NotPaper", .exc "BadNumber", .glo "BadNumber", .exc "NoAnswer", .glo "NoAnswer", .exc "TooLarge", .glo "TooLarge", .str "SMALL" "abcdefghijklmnopqrstuvwxyz", .str "FIGURES" "0123456789", .glo "FORMS", .free "all", .free "int", .free "isinstance", .free "len", .free "range", .free "repr", .free "str", .free "tuple"] : List He.Fa)
def ts : List He.Tab := [((fun K => He.ga K "FORMS"), ["fractions", "table", "pair", "row"])]
def kindCs : List PySem.Str := ["NotPoly", "NotTable", "NotMachine", "NotPaper", "BadNumber", "NoAnswer", "TooLarge"]
def kvd_FORMS : List (PySem.Str × He.Dv) := [("fractions", .glo "are_pairs"), ("table", .glo "is_told_table"), ("pair", .glo "is_told_pair"), ("row", .glo "is_row")]
def no_FORMS : List PySem.Str := ["", "Form", "term"]
def ex (K : PySem.W.Frag) : Bool := (kindCs.all (excB K) && exmB K kindCs kindCs && underB K kindCs "LoopError") && (He.valsB K (He.ga K "FORMS") kvd_FORMS && keysB K (He.ga K "FORMS") no_FORMS)
abbrev Rw : PySem.W.OpenRow := PySem.W.OpenLaw.row PySem.Challenge.rw_loopsheld_k21_lines_and_forms
abbrev hk : PySem.W.Hook := hookE 4 fa fn ts ex
def ob (s : PySem.W.SharedT) : AlE := obsEG 4 fa fn ts ex (HandSHeadRun.getT s)
theorem ob_eq (s : PySem.W.SharedT) : ob s = hk.obs s.abs := obsEG_eq (HandSHeadRun.getT_eq s)
def loose : List PySem.Str := (["is_integer", "is_row", "are_pairs", "is_told_table", "is_told_pair", "has_form", "words_of", "is_name", "number_in", "_law_number", "_law_draws", "_law_next", "_law_more", "_law_pick", "_law_kind", "_law_line", "_law_number_of", "_law_is_row", "_law_are_pairs", "_law_due", "_law_spoilt", "LoopError", "NotPoly", "NotTable", "NotMachine", "NotPaper", "BadNumber", "NoAnswer", "TooLarge", "__name__"] : List PySem.Str) ++ (["SMALL", "FIGURES", "FORMS"] : List PySem.Str)
structure T (w : World) (K : PySem.W.Frag) (mg : Str → Option Value) : Prop where
  says : SaysE fa fn ts ex w K
  in_ : ∃ h : Heap, K.In h ∧ h.Ns mainGlobals mg
section
variable {P : Program} {w : World} {K : PySem.W.Frag} {mg : Str → Option Value}
theorem T.g (t : T w K mg) (i : Nat) {x : Str} (h : fa[i]? = some (.glo x)) : mg x = some (.ref (He.ga K x)) := by
  obtain ⟨hp, kin, G⟩ := t.in_
  exact He.glo_ok kin G (t.says.d.fact i h)
theorem T.n (t : T w K mg) (i : Nat) {x : Str} (h : fa[i]? = some (.free x)) : mg x = none := by
  obtain ⟨hp, kin, G⟩ := t.in_
  exact He.free_ok kin G (t.says.d.fact i h)
theorem T.ci (t : T w K mg) (i : Nat) {x : Str} {n : Int} (h : fa[i]? = some (.int x n)) : ∃ u, mg x = some (.int n u) := by
  obtain ⟨hp, kin, G⟩ := t.in_
  exact He.int_ok kin G (t.says.d.fact i h)
theorem T.cs (t : T w K mg) (i : Nat) {x z : Str} (h : fa[i]? = some (.str x z)) : ∃ u, mg x = some (.str z u) := by
  obtain ⟨hp, kin, G⟩ := t.in_
  exact He.str_ok kin G (t.says.d.fact i h)
theorem T.x (t : T w K mg) (i j : Nat) {x : Str} (h : fa[i]? = some (.exc x)) (h2 : fa[j]? = some (.glo x)) : ExcF K mg x := by
  obtain ⟨hp, kin, G⟩ := t.in_
  exact exc_fact kin G (t.says.d.fact i h) (t.says.d.fact j h2)
theorem g_is_integer (t : T w K mg) : mg "is_integer" = some (.ref (He.ga K "is_integer")) := t.g 0 rfl
theorem g_is_row (t : T w K mg) : mg "is_row" = some (.ref (He.ga K "is_row")) := t.g 1 rfl
theorem g_are_pairs (t : T w K mg) : mg "are_pairs" = some (.ref (He.ga K "are_pairs")) := t.g 2 rfl
theorem g_is_told_table (t : T w K mg) : mg "is_told_table" = some (.ref (He.ga K "is_told_table")) := t.g 3 rfl
theorem g_is_told_pair (t : T w K mg) : mg "is_told_pair" = some (.ref (He.ga K "is_told_pair")) := t.g 4 rfl
theorem g_has_form (t : T w K mg) : mg "has_form" = some (.ref (He.ga K "has_form")) := t.g 5 rfl
theorem g_words_of (t : T w K mg) : mg "words_of" = some (.ref (He.ga K "words_of")) := t.g 6 rfl
theorem g_is_name (t : T w K mg) : mg "is_name" = some (.ref (He.ga K "is_name")) := t.g 7 rfl
theorem g_number_in (t : T w K mg) : mg "number_in" = some (.ref (He.ga K "number_in")) := t.g 8 rfl
theorem g__law_number (t : T w K mg) : mg "_law_number" = some (.ref (He.ga K "_law_number")) := t.g 9 rfl
theorem g__law_draws (t : T w K mg) : mg "_law_draws" = some (.ref (He.ga K "_law_draws")) := t.g 10 rfl
theorem g__law_next (t : T w K mg) : mg "_law_next" = some (.ref (He.ga K "_law_next")) := t.g 11 rfl
theorem g__law_more (t : T w K mg) : mg "_law_more" = some (.ref (He.ga K "_law_more")) := t.g 12 rfl
theorem g__law_pick (t : T w K mg) : mg "_law_pick" = some (.ref (He.ga K "_law_pick")) := t.g 13 rfl
theorem g__law_kind (t : T w K mg) : mg "_law_kind" = some (.ref (He.ga K "_law_kind")) := t.g 14 rfl
theorem g__law_line (t : T w K mg) : mg "_law_line" = some (.ref (He.ga K "_law_line")) := t.g 15 rfl
theorem g__law_number_of (t : T w K mg) : mg "_law_number_of" = some (.ref (He.ga K "_law_number_of")) := t.g 16 rfl
theorem g__law_is_row (t : T w K mg) : mg "_law_is_row" = some (.ref (He.ga K "_law_is_row")) := t.g 17 rfl
theorem g__law_are_pairs (t : T w K mg) : mg "_law_are_pairs" = some (.ref (He.ga K "_law_are_pairs")) := t.g 18 rfl
theorem g__law_due (t : T w K mg) : mg "_law_due" = some (.ref (He.ga K "_law_due")) := t.g 19 rfl
theorem g__law_spoilt (t : T w K mg) : mg "_law_spoilt" = some (.ref (He.ga K "_law_spoilt")) := t.g 20 rfl
theorem g_law (t : T w K mg) : mg "law" = some (.ref (He.ga K "law")) := t.g 21 rfl
theorem x_LoopError (t : T w K mg) : ExcF K mg "LoopError" := t.x 22 23 rfl rfl
theorem g_LoopError (t : T w K mg) : mg "LoopError" = some (.ref (He.ga K "LoopError")) := t.g 23 rfl
theorem x_NotPoly (t : T w K mg) : ExcF K mg "NotPoly" := t.x 24 25 rfl rfl
theorem g_NotPoly (t : T w K mg) : mg "NotPoly" = some (.ref (He.ga K "NotPoly")) := t.g 25 rfl
theorem x_NotTable (t : T w K mg) : ExcF K mg "NotTable" := t.x 26 27 rfl rfl
theorem g_NotTable (t : T w K mg) : mg "NotTable" = some (.ref (He.ga K "NotTable")) := t.g 27 rfl
theorem x_NotMachine (t : T w K mg) : ExcF K mg "NotMachine" := t.x 28 29 rfl rfl
theorem g_NotMachine (t : T w K mg) : mg "NotMachine" = some (.ref (He.ga K "NotMachine")) := t.g 29 rfl
theorem x_NotPaper (t : T w K mg) : ExcF K mg "NotPaper" := t.x 30 31 rfl rfl
theorem g_NotPaper (t : T w K mg) : mg "NotPaper" = some (.ref (He.ga K "NotPaper")) := t.g 31 rfl
theorem x_BadNumber (t : T w K mg) : ExcF K mg "BadNumber" := t.x 32 33 rfl rfl
theorem g_BadNumber (t : T w K mg) : mg "BadNumber" = some (.ref (He.ga K "BadNumber")) := t.g 33 rfl
theorem x_NoAnswer (t : T w K mg) : ExcF K mg "NoAnswer" := t.x 34 35 rfl rfl
theorem g_NoAnswer (t : T w K mg) : mg "NoAnswer" = some (.ref (He.ga K "NoAnswer")) := t.g 35 rfl
theorem x_TooLarge (t : T w K mg) : ExcF K mg "TooLarge" := t.x 36 37 rfl rfl
theorem g_TooLarge (t : T w K mg) : mg "TooLarge" = some (.ref (He.ga K "TooLarge")) := t.g 37 rfl
theorem c_SMALL (t : T w K mg) : ∃ u, mg "SMALL" = some (.str "abcdefghijklmnopqrstuvwxyz" u) := t.cs 38 rfl
theorem c_FIGURES (t : T w K mg) : ∃ u, mg "FIGURES" = some (.str "0123456789" u) := t.cs 39 rfl
theorem g_FORMS (t : T w K mg) : mg "FORMS" = some (.ref (He.ga K "FORMS")) := t.g 40 rfl
theorem n_all (t : T w K mg) : mg "all" = none := t.n 41 rfl
theorem n_int (t : T w K mg) : mg "int" = none := t.n 42 rfl
theorem n_isinstance (t : T w K mg) : mg "isinstance" = none := t.n 43 rfl
theorem n_len (t : T w K mg) : mg "len" = none := t.n 44 rfl
theorem n_range (t : T w K mg) : mg "range" = none := t.n 45 rfl
theorem n_repr (t : T w K mg) : mg "repr" = none := t.n 46 rfl
theorem n_str (t : T w K mg) : mg "str" = none := t.n 47 rfl
theorem n_tuple (t : T w K mg) : mg "tuple" = none := t.n 48 rfl
def kindOf (c : Str) : Option Str := if c = "NotPoly" then some "!poly" else if c = "NotTable" then some "!table" else if c = "NotMachine" then some "!machine" else if c = "NotPaper" then some "!paper" else if c = "BadNumber" then some "!number" else if c = "NoAnswer" then some "!none" else if c = "TooLarge" then some "!large" else none
theorem exAll (t : T w K mg) : ex K = true := t.says.x
theorem kind_in {c z : Str} (h : kindOf c = some z) : c ∈ kindCs := by
  unfold kindOf at h
  unfold kindCs
  split at h
  · rename_i e; rw [e]; decide
  split at h
  · rename_i e; rw [e]; decide
  split at h
  · rename_i e; rw [e]; decide
  split at h
  · rename_i e; rw [e]; decide
  split at h
  · rename_i e; rw [e]; decide
  split at h
  · rename_i e; rw [e]; decide
  split at h
  · rename_i e; rw [e]; decide
  cases h
theorem kind_exc (t : T w K mg) : ∀ (c z : Str) (C : Addr), kindOf c = some z → mg c = some (.ref C) → ExcC K C := by
  intro c z C h m
  have e : C = He.ga K c := by
    have k := kind_in h
    unfold kindCs at k
    simp only [List.mem_cons, List.not_mem_nil, or_false] at k
    rcases k with rfl | rfl | rfl | rfl | rfl | rfl | rfl
    · exact Value.ref.inj (Option.some.inj (m.symm.trans (g_NotPoly t)))
    · exact Value.ref.inj (Option.some.inj (m.symm.trans (g_NotTable t)))
    · exact Value.ref.inj (Option.some.inj (m.symm.trans (g_NotMachine t)))
    · exact Value.ref.inj (Option.some.inj (m.symm.trans (g_NotPaper t)))
    · exact Value.ref.inj (Option.some.inj (m.symm.trans (g_BadNumber t)))
    · exact Value.ref.inj (Option.some.inj (m.symm.trans (g_NoAnswer t)))
    · exact Value.ref.inj (Option.some.inj (m.symm.trans (g_TooLarge t)))
  subst e
  have a := t.says.x
  unfold ex at a
  simp only [Bool.and_eq_true] at a
  exact excB_ok (List.all_eq_true.mp a.1.1.1 c (kind_in h))
theorem kind_exm (t : T w K mg) {c z y : Str} (h : kindOf c = some z) (hy : y ∈ kindCs) : PySem.W.exmOne K (.ref (He.ga K c)) (.ref (He.ga K y)) = some (decide (c = y)) := by
  have a := t.says.x
  unfold ex at a
  simp only [Bool.and_eq_true] at a
  exact exmB_ok a.1.1.2 (kind_in h) hy
theorem kind_ga (t : T w K mg) {c z : Str} {C : Addr} (h : kindOf c = some z) (m : mg c = some (.ref C)) : C = He.ga K c := by
  have k := kind_in h
  unfold kindCs at k
  simp only [List.mem_cons, List.not_mem_nil, or_false] at k
  rcases k with rfl | rfl | rfl | rfl | rfl | rfl | rfl
  · exact Value.ref.inj (Option.some.inj (m.symm.trans (g_NotPoly t)))
  · exact Value.ref.inj (Option.some.inj (m.symm.trans (g_NotTable t)))
  · exact Value.ref.inj (Option.some.inj (m.symm.trans (g_NotMachine t)))
  · exact Value.ref.inj (Option.some.inj (m.symm.trans (g_NotPaper t)))
  · exact Value.ref.inj (Option.some.inj (m.symm.trans (g_BadNumber t)))
  · exact Value.ref.inj (Option.some.inj (m.symm.trans (g_NoAnswer t)))
  · exact Value.ref.inj (Option.some.inj (m.symm.trans (g_TooLarge t)))
theorem caught (t : T w K mg) : Caught K mg kindOf (He.ga K "LoopError") := by
  intro c z C h m
  have e := kind_ga t h m
  subst e
  have a := t.says.x
  unfold ex at a
  simp only [Bool.and_eq_true] at a
  exact underB_ok a.1.2 (kind_in h)
abbrev N__law_number : List Str := ["cell"]
def b__law_number : DS := (sSeq (sIf ((dCmpT cLt (dVar 0) (dC (.int 0)))) (sRet ((dBin fSub (dC (.int 0)) (dVar 0)))) sSkip)
  (sRet (dVar 0)))
def F__law_number : DF := mkF 1 0 false b__law_number
theorem h__law_number (t : T w K mg) (base : Heap) : Fe P w K mg base 1 "_law_number" F__law_number := by
  obtain ⟨fd, F⟩ := t.says.d.def_ 9 (d := d__law_number) rfl
  have nd : N__law_number.Nodup := by decide +kernel
  refine fe_of (N := N__law_number) (ps := ["cell"]) (m := 0) (sl := []) (live := false) F (g__law_number t) (F.bindsN fun _ _ _ _ _ _ us hl => match us, hl with | [_], _ => rfl) ⟨rfl, rfl, rfl, nd, rfl, by decide +kernel, by decide +kernel⟩ rfl ?_
  intro cdv A outer s H E room gd
  have hu := u64_of room
  have hu1 := u65_of room
  exact (lss_cons (ls_if ((lt_cmp c_lt (le_var 0 rfl (.inl rfl)) (le_int) (nomark _))) (lss_one (ls_ret ((le_bin o_sub (le_int) (le_var 0 rfl (.inl rfl)))))) lss_nil)
  (lss_one (ls_ret (le_var 0 rfl (.inl rfl)))))
abbrev N__law_draws : List Str := ["script", "draws", "cell", "rest", "k", "once", "twice"]
def b__law_draws : DS := (sSeq (sSet 1 ((dLst true (dNil))))
  (sSeq (sFor (dSeqI (dVar 0)) (gN 2) (sSeq (sSet 3 ((dCall F__law_number (dCons (dVar 2) dNil))))
  (sIf ((dCmpT cGe (dVar 3) (dC (.int 1000000000000000000)))) (sFor (dRange1 (dC (.int 60))) (gN 4) (sSeq (sIf ((dCmpT cEq (dVar 3) (dC (.int 0)))) sBreak sSkip)
  (sSeq (sExpr ((dMeth isL gAppend (dVar 1) (dCons ((dBin fMod ((dCall (g1 fInt) (dCons (dVar 3) dNil))) (dC (.int 1000)))) dNil))))
  (sSet 3 ((dBin fDiv (dVar 3) (dC (.int 1000)))))))) (sSeq (sSet 5 ((dBin fMod ((dCall (g1 fInt) (dCons ((dAdd false ((dMul false (dVar 3) (dC (.int 48271)))) (dC (.int 11)))) dNil))) (dC (.int 2147483647)))))
  (sSeq (sSet 6 ((dBin fMod ((dCall (g1 fInt) (dCons ((dAdd false ((dMul false (dVar 5) (dC (.int 69621)))) (dVar 3))) dNil))) (dC (.int 2147483629)))))
  (sExpr ((dMeth isL gExtend (dVar 1) (dCons ((dLst false ((dCons ((dBin fMod ((dCall (g1 fInt) (dCons (dVar 3) dNil))) (dC (.int 1000)))) (dCons ((dBin fMod ((dCall (g1 fInt) (dCons (dVar 5) dNil))) (dC (.int 1000)))) (dCons ((dBin fMod ((dCall (g1 fInt) (dCons (dVar 6) dNil))) (dC (.int 1000)))) dNil)))))) dNil)))))))))
  (sSeq (sExpr ((dMeth isL gReverse (dVar 1) dNil)))
  (sRet (dVar 1)))))
def F__law_draws : DF := mkF 1 6 true b__law_draws
theorem h__law_draws (t : T w K mg) (base : Heap) : Fe P w K mg base 2 "_law_draws" F__law_draws := by
  obtain ⟨fd, F⟩ := t.says.d.def_ 10 (d := d__law_draws) rfl
  have nd : N__law_draws.Nodup := by decide +kernel
  refine fe_of (N := N__law_draws) (ps := ["script"]) (m := 6) (sl := []) (live := true) F (g__law_draws t) (F.bindsN fun _ _ _ _ _ _ us hl => match us, hl with | [_], _ => rfl) ⟨rfl, rfl, rfl, nd, rfl, by decide +kernel, by decide +kernel⟩ rfl ?_
  intro cdv A outer s H E room gd
  have hu := u64_of room
  have hu1 := u65_of room
  exact (lss_cons (ls_set nd rfl (.inl rfl) ((le_lst true (la_nil))))
  (lss_cons (ls_for PassesOwn.leaving rfl (li_seq (le_var 0 rfl (.inl rfl))) (lg_name 2 nd rfl (.inl rfl)) (lss_cons (ls_set nd rfl (.inl rfl) ((le_call ((h__law_number t base).mono (by decide)) room gd (takes_of rfl rfl rfl rfl) rfl (la_cons (le_var 2 rfl (.inl rfl)) la_nil))))
  (lss_one (ls_if ((lt_cmp c_ge (le_var 3 rfl (.inl rfl)) (le_int) (nomark _))) (lss_one (ls_for PassesOwn.leaving rfl (li_range1 rfl (n_range t) (le_int)) (lg_name 4 nd rfl (.inl rfl)) (lss_cons (ls_if ((lt_cmp (c_eq hu) (le_var 3 rfl (.inl rfl)) (le_int) (nomark _))) (lss_one ls_break) lss_nil)
  (lss_cons (ls_expr ((le_meth PySem.F.plainAttrs_list PySem.F.slot_list_append PySem.F.type_list_append m_append tyC_list (le_var 1 rfl (.inl rfl)) (la_cons ((le_bin o_mod ((le_callTy k_int rfl (n_int t) boot_int (la_cons (le_var 3 rfl (.inl rfl)) la_nil))) (le_int))) la_nil))))
  (lss_one (ls_set nd rfl (.inl rfl) ((le_bin o_div (le_var 3 rfl (.inl rfl)) (le_int))))))))) (lss_cons (ls_set nd rfl (.inl rfl) ((le_bin o_mod ((le_callTy k_int rfl (n_int t) boot_int (la_cons ((le_add false ((le_mul false (le_var 3 rfl (.inl rfl)) (le_int))) (le_int))) la_nil))) (le_int))))
  (lss_cons (ls_set nd rfl (.inl rfl) ((le_bin o_mod ((le_callTy k_int rfl (n_int t) boot_int (la_cons ((le_add false ((le_mul false (le_var 5 rfl (.inl rfl)) (le_int))) (le_var 3 rfl (.inl rfl)))) la_nil))) (le_int))))
  (lss_one (ls_expr ((le_meth PySem.F.plainAttrs_list PySem.F.slot_list_extend PySem.F.type_list_extend m_extend tyC_list (le_var 1 rfl (.inl rfl)) (la_cons ((le_lst false ((la_cons ((le_bin o_mod ((le_callTy k_int rfl (n_int t) boot_int (la_cons (le_var 3 rfl (.inl rfl)) la_nil))) (le_int))) (la_cons ((le_bin o_mod ((le_callTy k_int rfl (n_int t) boot_int (la_cons (le_var 5 rfl (.inl rfl)) la_nil))) (le_int))) (la_cons ((le_bin o_mod ((le_callTy k_int rfl (n_int t) boot_int (la_cons (le_var 6 rfl (.inl rfl)) la_nil))) (le_int))) la_nil)))))) la_nil)))))))))))
  (lss_cons (ls_expr ((le_meth0 PySem.F.plainAttrs_list PySem.F.slot_list_reverse PySem.F.type_list_reverse m_reverse tyC_list (le_var 1 rfl (.inl rfl)))))
  (lss_one (ls_ret (le_var 1 rfl (.inl rfl)))))))
abbrev N__law_next : List Str := ["draws"]
def b__law_next : DS := (sSeq (sIf ((dTru (dVar 0))) (sRet ((dMeth isL gPop (dVar 0) dNil))) sSkip)
  (sRet (dC (.int 0))))
def F__law_next : DF := mkF 1 0 false b__law_next
theorem h__law_next (t : T w K mg) (base : Heap) : Fe P w K mg base 1 "_law_next" F__law_next := by
  obtain ⟨fd, F⟩ := t.says.d.def_ 11 (d := d__law_next) rfl
  have nd : N__law_next.Nodup := by decide +kernel
  refine fe_of (N := N__law_next) (ps := ["draws"]) (m := 0) (sl := []) (live := false) F (g__law_next t) (F.bindsN fun _ _ _ _ _ _ us hl => match us, hl with | [_], _ => rfl) ⟨rfl, rfl, rfl, nd, rfl, by decide +kernel, by decide +kernel⟩ rfl ?_
  intro cdv A outer s H E room gd
  have hu := u64_of room
  have hu1 := u65_of room
  exact (lss_cons (ls_if ((lt_tru (le_var 0 rfl (.inl rfl)))) (lss_one (ls_ret ((le_meth0 PySem.F.plainAttrs_list PySem.F.slot_list_pop PySem.F.type_list_pop m_pop tyC_list (le_var 0 rfl (.inl rfl)))))) lss_nil)
  (lss_one (ls_ret (le_int))))
abbrev N__law_more : List Str := ["draws", "many", "seed", "more", "k"]
def b__law_more : DS := (sSeq (sSet 2 ((dAdd false ((dAdd false ((dMul false (dC (.int 1000)) ((dCall F__law_next (dCons (dVar 0) dNil))))) ((dCall F__law_next (dCons (dVar 0) dNil))))) (dC (.int 1)))))
  (sSeq (sSet 3 ((dLst true (dNil))))
  (sSeq (sFor (dRange1 (dVar 1)) (gN 4) (sSeq (sSet 2 ((dBin fMod ((dCall (g1 fInt) (dCons ((dAdd false ((dMul false (dVar 2) (dC (.int 48271)))) (dC (.int 12345)))) dNil))) (dC (.int 2147483647)))))
  (sExpr ((dMeth isL gAppend (dVar 3) (dCons ((dBin fMod ((dCall (g1 fInt) (dCons ((dBin fDiv (dVar 2) (dC (.int 7)))) dNil))) (dC (.int 1000)))) dNil))))))
  (sRet ((dAdd true (dVar 3) (dVar 0)))))))
def F__law_more : DF := mkF 2 3 true b__law_more
theorem h__law_more (t : T w K mg) (base : Heap) : Fe P w K mg base 2 "_law_more" F__law_more := by
  obtain ⟨fd, F⟩ := t.says.d.def_ 12 (d := d__law_more) rfl
  have nd : N__law_more.Nodup := by decide +kernel
  refine fe_of (N := N__law_more) (ps := ["draws", "many"]) (m := 3) (sl := []) (live := true) F (g__law_more t) (F.bindsN fun _ _ _ _ _ _ us hl => match us, hl with | [_, _], _ => rfl) ⟨rfl, rfl, rfl, nd, rfl, by decide +kernel, by decide +kernel⟩ rfl ?_
  intro cdv A outer s H E room gd
  have hu := u64_of room
  have hu1 := u65_of room
  exact (lss_cons (ls_set nd rfl (.inl rfl) ((le_add false ((le_add false ((le_mul false (le_int) ((le_call ((h__law_next t base).mono (by decide)) room gd (takes_of rfl rfl rfl rfl) rfl (la_cons (le_var 0 rfl (.inl rfl)) la_nil))))) ((le_call ((h__law_next t base).mono (by decide)) room gd (takes_of rfl rfl rfl rfl) rfl (la_cons (le_var 0 rfl (.inl rfl)) la_nil))))) (le_int))))
  (lss_cons (ls_set nd rfl (.inl rfl) ((le_lst true (la_nil))))
  (lss_cons (ls_for PassesOwn.leaving rfl (li_range1 rfl (n_range t) (le_var 1 rfl (.inl rfl))) (lg_name 4 nd rfl (.inl rfl)) (lss_cons (ls_set nd rfl (.inl rfl) ((le_bin o_mod ((le_callTy k_int rfl (n_int t) boot_int (la_cons ((le_add false ((le_mul false (le_var 2 rfl (.inl rfl)) (le_int))) (le_int))) la_nil))) (le_int))))
  (lss_one (ls_expr ((le_meth PySem.F.plainAttrs_list PySem.F.slot_list_append PySem.F.type_list_append m_append tyC_list (le_var 3 rfl (.inl rfl)) (la_cons ((le_bin o_mod ((le_callTy k_int rfl (n_int t) boot_int (la_cons ((le_bin o_div (le_var 2 rfl (.inl rfl)) (le_int))) la_nil))) (le_int))) la_nil)))))))
  (lss_one (ls_ret ((le_add true (le_var 3 rfl (.inl rfl)) (le_var 0 rfl (.inl rfl)))))))))
abbrev N_words_of : List Str := ["line", "words", "word", "char"]
def b_words_of : DS := (sSeq (sSet 1 ((dMeth isS (gM1 fSplit) (dVar 0) (dCons (dC (.str " ")) dNil))))
  (sSeq (sFor (dSeqI (dVar 1)) (gN 2) (sIf ((dOrT ((dCmpT cEq (dVar 2) (dC (.str "")))) ((dNotT ((dTru ((dCall (g1 fAll) (dCons ((dLc false [3] (dSeqI (dVar 2)) (gN 3) (dYes) ((dChain cLe cLe (dC (.str "!")) (dVar 3) (dC (.str "~")))))) dNil))))))))) (sRet (dC .none)) sSkip))
  (sRet (dVar 1))))
def F_words_of : DF := mkF 1 3 false b_words_of
theorem h_words_of (t : T w K mg) (base : Heap) : Fe P w K mg base 1 "words_of" F_words_of := by
  obtain ⟨fd, F⟩ := t.says.d.def_ 6 (d := d_words_of) rfl
  have nd : N_words_of.Nodup := by decide +kernel
  refine fe_of (N := N_words_of) (ps := ["line"]) (m := 3) (sl := []) (live := false) F (g_words_of t) (F.bindsN fun _ _ _ _ _ _ us hl => match us, hl with | [_], _ => rfl) ⟨rfl, rfl, rfl, nd, rfl, by decide +kernel, by decide +kernel⟩ rfl ?_
  intro cdv A outer s H E room gd
  have hu := u64_of room
  have hu1 := u65_of room
  exact (lss_cons (ls_set nd rfl (.inl rfl) ((le_meth PySem.F.plainAttrs_str PySem.F.slot_str_split PySem.F.type_str_split m_split tyC_str (le_var 0 rfl (.inl rfl)) (la_cons (le_str) la_nil))))
  (lss_cons (ls_for PassesOwn.leaving rfl (li_seq (le_var 1 rfl (.inl rfl))) (lg_name 2 nd rfl (.inl rfl)) (lss_one (ls_if ((lt_w (lw_or ((lt_cmp (c_eq hu) (le_var 2 rfl (.inl rfl)) (le_str) (nomark _))) (lw_or1 ((lt_not ((lt_tru ((le_callB (k_all rfl) rfl (n_all t) (by decide +kernel) (la_cons ((le_lc false rfl nd (li_seq (le_var 2 rfl (.inl rfl))) (own := [("char", 3)]) (blkOk_by (by kernel_rfl)) (fun _ _ _ _ _ => (lg_name 3 nd rfl (.inl rfl))) (fun _ _ _ _ _ => lts_nil) (fun _ _ _ _ _ => (le_chain c_le c_le (le_str) (le_var 3 rfl (.inl rfl)) (le_str))) (by decide))) la_nil))))))))))) (lss_one (ls_ret (le_non))) lss_nil)))
  (lss_one (ls_ret (le_var 1 rfl (.inl rfl))))))
abbrev N_is_name : List Str := ["word", "char"]
def b_is_name : DS := (sRet ((dAndV ((dChain cLe cLe (dC (.int 1)) ((dCall (g1 fLen) (dCons (dVar 0) dNil))) (dC (.int 12)))) ((dCall (g1 fAll) (dCons ((dLc false [1] (dSeqI (dVar 0)) (gN 1) (dYes) ((dCmp cIn (dVar 1) (dC (.str "abcdefghijklmnopqrstuvwxyz")))))) dNil))))))
def F_is_name : DF := mkF 1 1 false b_is_name
theorem h_is_name (t : T w K mg) (base : Heap) : Fe P w K mg base 1 "is_name" F_is_name := by
  obtain ⟨fd, F⟩ := t.says.d.def_ 7 (d := d_is_name) rfl
  have nd : N_is_name.Nodup := by decide +kernel
  refine fe_of (N := N_is_name) (ps := ["word"]) (m := 1) (sl := []) (live := false) F (g_is_name t) (F.bindsN fun _ _ _ _ _ _ us hl => match us, hl with | [_], _ => rfl) ⟨rfl, rfl, rfl, nd, rfl, by decide +kernel, by decide +kernel⟩ rfl ?_
  intro cdv A outer s H E room gd
  have hu := u64_of room
  have hu1 := u65_of room
  exact (lss_one (ls_ret ((le_and ((le_chain c_le c_le (le_int) ((le_callB k_len rfl (n_len t) boot_len (la_cons (le_var 0 rfl (.inl rfl)) la_nil))) (le_int))) (le_one ((le_callB (k_all rfl) rfl (n_all t) (by decide +kernel) (la_cons ((le_lc false rfl nd (li_seq (le_var 0 rfl (.inl rfl))) (own := [("char", 1)]) (blkOk_by (by kernel_rfl)) (fun _ _ _ _ _ => (lg_name 1 nd rfl (.inl rfl))) (fun _ _ _ _ _ => lts_nil) (fun _ _ _ _ _ => (le_cmp (c_in hu1) (le_var 1 rfl (.inl rfl)) (le_gstr rfl (c_SMALL t)) (by rfl))) (by decide))) la_nil))))))))
abbrev N_number_in : List Str := ["word", "char"]
def b_number_in : DS := (sSeq (sIf ((dOrT ((dNotT ((dChainT cLe cLe (dC (.int 1)) ((dCall (g1 fLen) (dCons (dVar 0) dNil))) (dC (.int 2)))))) ((dNotT ((dTru ((dCall (g1 fAll) (dCons ((dLc false [1] (dSeqI (dVar 0)) (gN 1) (dYes) ((dCmp cIn (dVar 1) (dC (.str "0123456789")))))) dNil))))))))) (sRet (dC .none)) sSkip)
  (sSeq (sIf ((dAndT ((dCmpT cEq ((dCall (g1 fLen) (dCons (dVar 0) dNil))) (dC (.int 2)))) ((dCmpT cEq ((dIx (dVar 0) (dC (.int 0)))) (dC (.str "0")))))) (sRet (dC .none)) sSkip)
  (sRet ((dCall (g1 fInt) (dCons (dVar 0) dNil))))))
def F_number_in : DF := mkF 1 1 false b_number_in
theorem h_number_in (t : T w K mg) (base : Heap) : Fe P w K mg base 1 "number_in" F_number_in := by
  obtain ⟨fd, F⟩ := t.says.d.def_ 8 (d := d_number_in) rfl
  have nd : N_number_in.Nodup := by decide +kernel
  refine fe_of (N := N_number_in) (ps := ["word"]) (m := 1) (sl := []) (live := false) F (g_number_in t) (F.bindsN fun _ _ _ _ _ _ us hl => match us, hl with | [_], _ => rfl) ⟨rfl, rfl, rfl, nd, rfl, by decide +kernel, by decide +kernel⟩ rfl ?_
  intro cdv A outer s H E room gd
  have hu := u64_of room
  have hu1 := u65_of room
  exact (lss_cons (ls_if ((lt_w (lw_or ((lt_not ((lt_chain c_le c_le (le_int) ((le_callB k_len rfl (n_len t) boot_len (la_cons (le_var 0 rfl (.inl rfl)) la_nil))) (le_int))))) (lw_or1 ((lt_not ((lt_tru ((le_callB (k_all rfl) rfl (n_all t) (by decide +kernel) (la_cons ((le_lc false rfl nd (li_seq (le_var 0 rfl (.inl rfl))) (own := [("char", 1)]) (blkOk_by (by kernel_rfl)) (fun _ _ _ _ _ => (lg_name 1 nd rfl (.inl rfl))) (fun _ _ _ _ _ => lts_nil) (fun _ _ _ _ _ => (le_cmp (c_in hu1) (le_var 1 rfl (.inl rfl)) (le_gstr rfl (c_FIGURES t)) (by rfl))) (by decide))) la_nil))))))))))) (lss_one (ls_ret (le_non))) lss_nil)
  (lss_cons (ls_if ((lt_w (lw_and ((lt_cmp (c_eq hu) ((le_callB k_len rfl (n_len t) boot_len (la_cons (le_var 0 rfl (.inl rfl)) la_nil))) (le_int) (nomark _))) (lw_and1 ((lt_cmp (c_eq hu) ((le_ix (le_var 0 rfl (.inl rfl)) (le_int))) (le_str) (nomark _))))))) (lss_one (ls_ret (le_non))) lss_nil)
  (lss_one (ls_ret ((le_callTy k_int rfl (n_int t) boot_int (la_cons (le_var 0 rfl (.inl rfl)) la_nil)))))))
abbrev N_is_integer : List Str := ["term"]
def b_is_integer : DS := (sRet ((dCall gIsi (dCons (dVar 0) (dCons (dK (.ty "int")) dNil)))))
def F_is_integer : DF := mkF 1 0 false b_is_integer
theorem h_is_integer (t : T w K mg) (base : Heap) : Fe P w K mg base 1 "is_integer" F_is_integer := by
  obtain ⟨fd, F⟩ := t.says.d.def_ 0 (d := d_is_integer) rfl
  have nd : N_is_integer.Nodup := by decide +kernel
  refine fe_of (N := N_is_integer) (ps := ["term"]) (m := 0) (sl := []) (live := false) F (g_is_integer t) (F.bindsN fun _ _ _ _ _ _ us hl => match us, hl with | [_], _ => rfl) ⟨rfl, rfl, rfl, nd, rfl, by decide +kernel, by decide +kernel⟩ rfl ?_
  intro cdv A outer s H E room gd
  have hu := u64_of room
  have hu1 := u65_of room
  exact (lss_one (ls_ret ((le_callB k_isi rfl (n_isinstance t) boot_isinstance (la_cons (le_var 0 rfl (.inl rfl)) (la_cons (le_ty rfl (n_int t) boot_int) la_nil))))))
abbrev N_is_row : List Str := ["term", "entry"]
def b_is_row : DS := (sRet ((dAndV ((dCall gIsi (dCons (dVar 0) (dCons (dK (.ty "tuple")) dNil)))) ((dCall (g1 fAll) (dCons ((dLc false [1] (dSeqI (dVar 0)) (gN 1) (dYes) ((dCall F_is_integer (dCons (dVar 1) dNil))))) dNil))))))
def F_is_row : DF := mkF 1 1 false b_is_row
theorem h_is_row (t : T w K mg) (base : Heap) : Fe P w K mg base 2 "is_row" F_is_row := by
  obtain ⟨fd, F⟩ := t.says.d.def_ 1 (d := d_is_row) rfl
  have nd : N_is_row.Nodup := by decide +kernel
  refine fe_of (N := N_is_row) (ps := ["term"]) (m := 1) (sl := []) (live := false) F (g_is_row t) (F.bindsN fun _ _ _ _ _ _ us hl => match us, hl with | [_], _ => rfl) ⟨rfl, rfl, rfl, nd, rfl, by decide +kernel, by decide +kernel⟩ rfl ?_
  intro cdv A outer s H E room gd
  have hu := u64_of room
  have hu1 := u65_of room
  exact (lss_one (ls_ret ((le_and ((le_callB k_isi rfl (n_isinstance t) boot_isinstance (la_cons (le_var 0 rfl (.inl rfl)) (la_cons (le_ty rfl (n_tuple t) boot_tuple) la_nil)))) (le_one ((le_callB (k_all rfl) rfl (n_all t) (by decide +kernel) (la_cons ((le_lc false rfl nd (li_seq (le_var 0 rfl (.inl rfl))) (own := [("entry", 1)]) (blkOk_by (by kernel_rfl)) (fun _ _ _ _ _ => (lg_name 1 nd rfl (.inl rfl))) (fun _ _ _ _ _ => lts_nil) (fun _ _ _ _ _ => (le_call ((h_is_integer t base).mono (by decide)) room gd takes0 rfl (la_cons (le_var 1 rfl (.inl rfl)) la_nil))) (by decide))) la_nil))))))))
abbrev N_are_pairs : List Str := ["term", "entry"]
def b_are_pairs : DS := (sRet ((dAndV ((dCall gIsi (dCons (dVar 0) (dCons (dK (.ty "tuple")) dNil)))) ((dCall (g1 fAll) (dCons ((dLc false [1] (dSeqI (dVar 0)) (gN 1) (dYes) ((dCall F_is_row (dCons (dVar 1) dNil))))) dNil))))))
def F_are_pairs : DF := mkF 1 1 false b_are_pairs
theorem h_are_pairs (t : T w K mg) (base : Heap) : Fe P w K mg base 3 "are_pairs" F_are_pairs := by
  obtain ⟨fd, F⟩ := t.says.d.def_ 2 (d := d_are_pairs) rfl
  have nd : N_are_pairs.Nodup := by decide +kernel
  refine fe_of (N := N_are_pairs) (ps := ["term"]) (m := 1) (sl := []) (live := false) F (g_are_pairs t) (F.bindsN fun _ _ _ _ _ _ us hl => match us, hl with | [_], _ => rfl) ⟨rfl, rfl, rfl, nd, rfl, by decide +kernel, by decide +kernel⟩ rfl ?_
  intro cdv A outer s H E room gd
  have hu := u64_of room
  have hu1 := u65_of room
  exact (lss_one (ls_ret ((le_and ((le_callB k_isi rfl (n_isinstance t) boot_isinstance (la_cons (le_var 0 rfl (.inl rfl)) (la_cons (le_ty rfl (n_tuple t) boot_tuple) la_nil)))) (le_one ((le_callB (k_all rfl) rfl (n_all t) (by decide +kernel) (la_cons ((le_lc false rfl nd (li_seq (le_var 0 rfl (.inl rfl))) (own := [("entry", 1)]) (blkOk_by (by kernel_rfl)) (fun _ _ _ _ _ => (lg_name 1 nd rfl (.inl rfl))) (fun _ _ _ _ _ => lts_nil) (fun _ _ _ _ _ => (le_call ((h_is_row t base).mono (by decide)) room gd takes0 rfl (la_cons (le_var 1 rfl (.inl rfl)) la_nil))) (by decide))) la_nil))))))))
abbrev N_is_told_table : List Str := ["term", "entry"]
def b_is_told_table : DS := (sRet ((dAndV ((dCall gIsi (dCons (dVar 0) (dCons (dK (.ty "tuple")) dNil)))) ((dCall (g1 fAll) (dCons ((dLc false [1] (dSeqI (dVar 0)) (gN 1) (dYes) ((dCall F_are_pairs (dCons (dVar 1) dNil))))) dNil))))))
def F_is_told_table : DF := mkF 1 1 false b_is_told_table
theorem h_is_told_table (t : T w K mg) (base : Heap) : Fe P w K mg base 4 "is_told_table" F_is_told_table := by
  obtain ⟨fd, F⟩ := t.says.d.def_ 3 (d := d_is_told_table) rfl
  have nd : N_is_told_table.Nodup := by decide +kernel
  refine fe_of (N := N_is_told_table) (ps := ["term"]) (m := 1) (sl := []) (live := false) F (g_is_told_table t) (F.bindsN fun _ _ _ _ _ _ us hl => match us, hl with | [_], _ => rfl) ⟨rfl, rfl, rfl, nd, rfl, by decide +kernel, by decide +kernel⟩ rfl ?_
  intro cdv A outer s H E room gd
  have hu := u64_of room
  have hu1 := u65_of room
  exact (lss_one (ls_ret ((le_and ((le_callB k_isi rfl (n_isinstance t) boot_isinstance (la_cons (le_var 0 rfl (.inl rfl)) (la_cons (le_ty rfl (n_tuple t) boot_tuple) la_nil)))) (le_one ((le_callB (k_all rfl) rfl (n_all t) (by decide +kernel) (la_cons ((le_lc false rfl nd (li_seq (le_var 0 rfl (.inl rfl))) (own := [("entry", 1)]) (blkOk_by (by kernel_rfl)) (fun _ _ _ _ _ => (lg_name 1 nd rfl (.inl rfl))) (fun _ _ _ _ _ => lts_nil) (fun _ _ _ _ _ => (le_call ((h_are_pairs t base).mono (by decide)) room gd takes0 rfl (la_cons (le_var 1 rfl (.inl rfl)) la_nil))) (by decide))) la_nil))))))))
abbrev N_is_told_pair : List Str := ["term"]
def b_is_told_pair : DS := (sRet ((dAndV ((dCall F_is_told_table (dCons (dVar 0) dNil))) ((dCmp cEq ((dCall (g1 fLen) (dCons (dVar 0) dNil))) (dC (.int 2)))))))
def F_is_told_pair : DF := mkF 1 0 false b_is_told_pair
theorem h_is_told_pair (t : T w K mg) (base : Heap) : Fe P w K mg base 5 "is_told_pair" F_is_told_pair := by
  obtain ⟨fd, F⟩ := t.says.d.def_ 4 (d := d_is_told_pair) rfl
  have nd : N_is_told_pair.Nodup := by decide +kernel
  refine fe_of (N := N_is_told_pair) (ps := ["term"]) (m := 0) (sl := []) (live := false) F (g_is_told_pair t) (F.bindsN fun _ _ _ _ _ _ us hl => match us, hl with | [_], _ => rfl) ⟨rfl, rfl, rfl, nd, rfl, by decide +kernel, by decide +kernel⟩ rfl ?_
  intro cdv A outer s H E room gd
  have hu := u64_of room
  have hu1 := u65_of room
  exact (lss_one (ls_ret ((le_and ((le_call ((h_is_told_table t base).mono (by decide)) room gd (takes_of rfl rfl rfl rfl) rfl (la_cons (le_var 0 rfl (.inl rfl)) la_nil))) (le_one ((le_cmp (c_eq hu) ((le_callB k_len rfl (n_len t) boot_len (la_cons (le_var 0 rfl (.inl rfl)) la_nil))) (le_int) (nomark _))))))))
def kvs_FORMS : List (Str × DF) := [("fractions", F_are_pairs), ("table", F_is_told_table), ("pair", F_is_told_pair), ("row", F_is_row)]
def ks_FORMS (z : Str) : Option Bool := if z = "fractions" then some true else if z = "table" then some true else if z = "pair" then some true else if z = "row" then some true else if z = "" then some false else if z = "Form" then some false else if z = "term" then some false else none
theorem kd0_FORMS (t : T w K mg) : ∃ es n, KDict K w (He.ga K "FORMS") es n := t.says.t.tab 0 rfl
noncomputable def kdE_FORMS (t : T w K mg) : Array DictEntry := (kd0_FORMS t).choose
noncomputable def kdN_FORMS (t : T w K mg) : Nat := (kd0_FORMS t).choose_spec.choose
theorem kd_FORMS (t : T w K mg) : KDict K w (He.ga K "FORMS") (kdE_FORMS t) (kdN_FORMS t) := (kd0_FORMS t).choose_spec.choose_spec
theorem kv_FORMS (t : T w K mg) {q : Str × He.Dv} (h : q ∈ kvd_FORMS) : ∃ u, PySem.W.nsIn K (He.ga K "FORMS") q.1 = some (some u) ∧ RelV (q.2.v K) u := by
  have a := t.says.x
  unfold ex at a
  simp only [Bool.and_eq_true] at a
  exact He.valsB_ok a.2.1 h
theorem kno_FORMS (t : T w K mg) {z : Str} (h : z ∈ no_FORMS) : PySem.W.nsIn K (He.ga K "FORMS") z = some none := by
  have a := t.says.x
  unfold ex at a
  simp only [Bool.and_eq_true] at a
  exact keysB_ok a.2.2 h
theorem ks_FORMS_ok (t : T w K mg) : ∀ (z : Str) (b : Bool), ks_FORMS z = some b → ∃ r, PySem.W.nsIn K (He.ga K "FORMS") z = some r ∧ r.isSome = b := by
  intro z b h
  unfold ks_FORMS at h
  split at h
  · rename_i e; subst e; cases h
    obtain ⟨u, e, _⟩ := kv_FORMS t (q := ("fractions", .glo "are_pairs")) (by simp [kvd_FORMS])
    exact ⟨some u, e, rfl⟩
  split at h
  · rename_i e; subst e; cases h
    obtain ⟨u, e, _⟩ := kv_FORMS t (q := ("table", .glo "is_told_table")) (by simp [kvd_FORMS])
    exact ⟨some u, e, rfl⟩
  split at h
  · rename_i e; subst e; cases h
    obtain ⟨u, e, _⟩ := kv_FORMS t (q := ("pair", .glo "is_told_pair")) (by simp [kvd_FORMS])
    exact ⟨some u, e, rfl⟩
  split at h
  · rename_i e; subst e; cases h
    obtain ⟨u, e, _⟩ := kv_FORMS t (q := ("row", .glo "is_row")) (by simp [kvd_FORMS])
    exact ⟨some u, e, rfl⟩
  split at h
  · rename_i e; subst e; cases h
    exact ⟨none, kno_FORMS t (by simp [no_FORMS]), rfl⟩
  split at h
  · rename_i e; subst e; cases h
    exact ⟨none, kno_FORMS t (by simp [no_FORMS]), rfl⟩
  split at h
  · rename_i e; subst e; cases h
    exact ⟨none, kno_FORMS t (by simp [no_FORMS]), rfl⟩
  cases h
theorem tab_FORMS (t : T w K mg) (base : Heap) : ∀ (z : Str) (F : DF), kvs_FORMS.lookup z = some F → ∃ g f, KDct K w (He.ga K "FORMS") z (.ref f) ∧ mg g = some (.ref f) ∧ Fe P w K mg base 5 g F := by
  intro z F h
  have D := kd_FORMS t
  unfold kvs_FORMS at h
  simp only [List.lookup] at h
  split at h
  · rename_i e
    have e := eq_of_beq e
    subst e
    cases h
    obtain ⟨u, e1, e2⟩ := kv_FORMS t (q := ("fractions", .glo "are_pairs")) (by simp [kvd_FORMS])
    exact ⟨"are_pairs", He.ga K "are_pairs", ⟨_, _, u, D.at_, D.lit, e1, e2⟩, g_are_pairs t, (h_are_pairs t base).mono (by decide)⟩
  split at h
  · rename_i e
    have e := eq_of_beq e
    subst e
    cases h
    obtain ⟨u, e1, e2⟩ := kv_FORMS t (q := ("table", .glo "is_told_table")) (by simp [kvd_FORMS])
    exact ⟨"is_told_table", He.ga K "is_told_table", ⟨_, _, u, D.at_, D.lit, e1, e2⟩, g_is_told_table t, (h_is_told_table t base).mono (by decide)⟩
  split at h
  · rename_i e
    have e := eq_of_beq e
    subst e
    cases h
    obtain ⟨u, e1, e2⟩ := kv_FORMS t (q := ("pair", .glo "is_told_pair")) (by simp [kvd_FORMS])
    exact ⟨"is_told_pair", He.ga K "is_told_pair", ⟨_, _, u, D.at_, D.lit, e1, e2⟩, g_is_told_pair t, (h_is_told_pair t base).mono (by decide)⟩
  split at h
  · rename_i e
    have e := eq_of_beq e
    subst e
    cases h
    obtain ⟨u, e1, e2⟩ := kv_FORMS t (q := ("row", .glo "is_row")) (by simp [kvd_FORMS])
    exact ⟨"is_row", He.ga K "is_row", ⟨_, _, u, D.at_, D.lit, e1, e2⟩, g_is_row t, (h_is_row t base).mono (by decide)⟩
  cases h
abbrev N_has_form : List Str := ["thing", "term"]
def b_has_form : DS := (sSeq (sIf ((dInTab ks_FORMS (dVar 0))) (sRaise "BadNumber") sSkip)
  (sRet ((dTab kvs_FORMS (dVar 0) (dCons (dVar 1) dNil)))))
def F_has_form : DF := mkF 2 0 false b_has_form
theorem h_has_form (t : T w K mg) (base : Heap) : Fe P w K mg base 6 "has_form" F_has_form := by
  obtain ⟨fd, F⟩ := t.says.d.def_ 5 (d := d_has_form) rfl
  have nd : N_has_form.Nodup := by decide +kernel
  refine fe_of (N := N_has_form) (ps := ["thing", "term"]) (m := 0) (sl := []) (live := false) F (g_has_form t) (F.bindsN fun _ _ _ _ _ _ us hl => match us, hl with | [_, _], _ => rfl) ⟨rfl, rfl, rfl, nd, rfl, by decide +kernel, by decide +kernel⟩ rfl ?_
  intro cdv A outer s H E room gd
  have hu := u64_of room
  have hu1 := u65_of room
  exact (lss_cons (ls_if ((lt_notInTab (kd_FORMS t) (ks_FORMS_ok t) rfl (g_FORMS t) (le_var 0 rfl (.inl rfl)))) (lss_one (ls_raise rfl (takes_of rfl rfl rfl rfl) (x_BadNumber t) rfl)) lss_nil)
  (lss_one (ls_ret ((le_tab (tab_FORMS t base) (room.mono (by decide)) gd (takes_of rfl rfl rfl rfl) rfl (g_FORMS t) (le_var 0 rfl (.inl rfl)) (la_cons (le_var 1 rfl (.inl rfl)) la_nil))))))
abbrev N__law_pick : List Str := ["draws", "some"]
def b__law_pick : DS := (sRet ((dIx (dVar 1) ((dBin fMod ((dCall (g1 fInt) (dCons ((dCall F__law_next (dCons (dVar 0) dNil))) dNil))) ((dCall (g1 fLen) (dCons (dVar 1) dNil))))))))
def F__law_pick : DF := mkF 2 0 false b__law_pick
theorem h__law_pick (t : T w K mg) (base : Heap) : Fe P w K mg base 2 "_law_pick" F__law_pick := by
  obtain ⟨fd, F⟩ := t.says.d.def_ 13 (d := d__law_pick) rfl
  have nd : N__law_pick.Nodup := by decide +kernel
  refine fe_of (N := N__law_pick) (ps := ["draws", "some"]) (m := 0) (sl := []) (live := false) F (g__law_pick t) (F.bindsN fun _ _ _ _ _ _ us hl => match us, hl with | [_, _], _ => rfl) ⟨rfl, rfl, rfl, nd, rfl, by decide +kernel, by decide +kernel⟩ rfl ?_
  intro cdv A outer s H E room gd
  have hu := u64_of room
  have hu1 := u65_of room
  exact (lss_one (ls_ret ((le_ix (le_var 1 rfl (.inl rfl)) ((le_bin o_mod ((le_callTy k_int rfl (n_int t) boot_int (la_cons ((le_call ((h__law_next t base).mono (by decide)) room gd (takes_of rfl rfl rfl rfl) rfl (la_cons (le_var 0 rfl (.inl rfl)) la_nil))) la_nil))) ((le_callB k_len rfl (n_len t) boot_len (la_cons (le_var 1 rfl (.inl rfl)) la_nil)))))))))
abbrev N__law_line : List Str := ["line", "words", "word", "sign"]
def b__law_line : DS := (sSeq (sSet 1 ((dMeth isS (gM1 fSplit) (dVar 0) (dCons (dC (.str " ")) dNil))))
  (sSeq (sFor (dSeqI (dVar 1)) (gN 2) (sIf ((dOrT ((dCmpT cEq (dVar 2) (dC (.str "")))) ((dNotT ((dTru ((dCall (g1 fAll) (dCons ((dLc false [3] (dSeqI (dVar 2)) (gN 3) (dYes) ((dChain cLe cLe (dC (.str "!")) (dVar 3) (dC (.str "~")))))) dNil))))))))) (sRet (dC .none)) sSkip))
  (sRet (dVar 1))))
def F__law_line : DF := mkF 1 3 false b__law_line
theorem h__law_line (t : T w K mg) (base : Heap) : Fe P w K mg base 1 "_law_line" F__law_line := by
  obtain ⟨fd, F⟩ := t.says.d.def_ 15 (d := d__law_line) rfl
  have nd : N__law_line.Nodup := by decide +kernel
  refine fe_of (N := N__law_line) (ps := ["line"]) (m := 3) (sl := []) (live := false) F (g__law_line t) (F.bindsN fun _ _ _ _ _ _ us hl => match us, hl with | [_], _ => rfl) ⟨rfl, rfl, rfl, nd, rfl, by decide +kernel, by decide +kernel⟩ rfl ?_
  intro cdv A outer s H E room gd
  have hu := u64_of room
  have hu1 := u65_of room
  exact (lss_cons (ls_set nd rfl (.inl rfl) ((le_meth PySem.F.plainAttrs_str PySem.F.slot_str_split PySem.F.type_str_split m_split tyC_str (le_var 0 rfl (.inl rfl)) (la_cons (le_str) la_nil))))
  (lss_cons (ls_for PassesOwn.leaving rfl (li_seq (le_var 1 rfl (.inl rfl))) (lg_name 2 nd rfl (.inl rfl)) (lss_one (ls_if ((lt_w (lw_or ((lt_cmp (c_eq hu) (le_var 2 rfl (.inl rfl)) (le_str) (nomark _))) (lw_or1 ((lt_not ((lt_tru ((le_callB (k_all rfl) rfl (n_all t) (by decide +kernel) (la_cons ((le_lc false rfl nd (li_seq (le_var 2 rfl (.inl rfl))) (own := [("sign", 3)]) (blkOk_by (by kernel_rfl)) (fun _ _ _ _ _ => (lg_name 3 nd rfl (.inl rfl))) (fun _ _ _ _ _ => lts_nil) (fun _ _ _ _ _ => (le_chain c_le c_le (le_str) (le_var 3 rfl (.inl rfl)) (le_str))) (by decide))) la_nil))))))))))) (lss_one (ls_ret (le_non))) lss_nil)))
  (lss_one (ls_ret (le_var 1 rfl (.inl rfl))))))
abbrev N__law_spoilt : List Str := ["draws", "term", "at", "kind"]
def b__law_spoilt (F__law_spoilt : Nat → DF) (n : Nat) : DS := (sSeq (sIf ((dOrT ((dNotT ((dTru ((dCall gIsi (dCons (dVar 1) (dCons (dK (.ty "tuple")) dNil)))))))) ((dCmpT cEq ((dBin fMod ((dCall (g1 fInt) (dCons ((dCall F__law_next (dCons (dVar 0) dNil))) dNil))) (dC (.int 6)))) (dC (.int 0)))))) (sRet ((dCall F__law_pick (dCons (dVar 0) (dCons ((dLst false ((dCons (dC .none) (dCons (dC (.str "ada")) (dCons (dC (.str "")) (dCons (dC (.int 5)) (dCons ((dTup (dNil))) (dCons ((dTup ((dCons (dC (.int 1)) dNil)))) (dCons ((dTup ((dCons ((dTup (dNil))) dNil)))) (dCons ((dTup ((dCons (dC (.str "a")) dNil)))) (dCons (dVar 1) dNil)))))))))))) dNil))))) sSkip)
  (sSeq (sIf ((dCmpT cEq (dVar 1) ((dTup (dNil))))) (sRet ((dCall F__law_pick (dCons (dVar 0) (dCons ((dLst false ((dCons ((dTup ((dCons (dC (.int 0)) dNil)))) (dCons ((dTup ((dCons (dC (.str "")) dNil)))) (dCons ((dTup ((dCons ((dTup (dNil))) dNil)))) (dCons (dC .none) dNil))))))) dNil))))) sSkip)
  (sSeq (sSet 2 ((dBin fMod ((dCall (g1 fInt) (dCons ((dCall F__law_next (dCons (dVar 0) dNil))) dNil))) ((dCall (g1 fLen) (dCons (dVar 1) dNil))))))
  (sSeq (sSet 3 ((dBin fMod ((dCall (g1 fInt) (dCons ((dCall F__law_next (dCons (dVar 0) dNil))) dNil))) (dC (.int 5)))))
  (sSeq (sIf ((dCmpT cEq (dVar 3) (dC (.int 0)))) (sRet ((dAdd false ((dSl false (dVar 1) dNoO (dSomeO (dVar 2)))) ((dSl false (dVar 1) (dSomeO ((dAdd false (dVar 2) (dC (.int 1))))) dNoO))))) sSkip)
  (sRet ((dIf ((dCmpT cEq (dVar 3) (dC (.int 1)))) ((dAdd false (dVar 1) ((dSl false (dVar 1) (dSomeO (dVar 2)) (dSomeO ((dAdd false (dVar 2) (dC (.int 1))))))))) ((dAdd false ((dAdd false ((dSl false (dVar 1) dNoO (dSomeO (dVar 2)))) ((dTup ((dCons ((dCall (F__law_spoilt n) (dCons (dVar 0) (dCons ((dIx (dVar 1) (dVar 2))) dNil)))) dNil)))))) ((dSl false (dVar 1) (dSomeO ((dAdd false (dVar 2) (dC (.int 1))))) dNoO))))))))))))
def F__law_spoilt : Nat → DF
  | 0 => fun _ _ => .bad
  | n + 1 => mkF 2 2 false (b__law_spoilt (fun _ => F__law_spoilt n) n)
theorem hs__law_spoilt (t : T w K mg) (base : Heap) (n : Nat) (ih : Fe P w K mg base (2 + n) "_law_spoilt" (F__law_spoilt n)) : Fe P w K mg base (2 + n + 1) "_law_spoilt" (F__law_spoilt (n + 1)) := by
  obtain ⟨fd, F⟩ := t.says.d.def_ 20 (d := d__law_spoilt) rfl
  have nd : N__law_spoilt.Nodup := by decide +kernel
  refine fe_of (N := N__law_spoilt) (ps := ["draws", "term"]) (m := 2) (sl := []) (live := false) F (g__law_spoilt t) (F.bindsN fun _ _ _ _ _ _ us hl => match us, hl with | [_, _], _ => rfl) ⟨rfl, rfl, rfl, nd, rfl, by decide +kernel, by decide +kernel⟩ rfl ?_
  intro cdv A outer s H E room gd
  have K__law_spoilt : ∀ {j : Nat}, j ≤ 2 → j ≤ 2 + n := fun h => Nat.le_trans h (Nat.le_add_right _ _)
  have hu := u64_of room
  have hu1 := u65_of room
  exact (lss_cons (ls_if ((lt_w (lw_or ((lt_not ((lt_tru ((le_callB k_isi rfl (n_isinstance t) boot_isinstance (la_cons (le_var 1 rfl (.inl rfl)) (la_cons (le_ty rfl (n_tuple t) boot_tuple) la_nil)))))))) (lw_or1 ((lt_cmp (c_eq hu) ((le_bin o_mod ((le_callTy k_int rfl (n_int t) boot_int (la_cons ((le_call ((h__law_next t base).mono (K__law_spoilt (by decide))) room gd (takes_of rfl rfl rfl rfl) rfl (la_cons (le_var 0 rfl (.inl rfl)) la_nil))) la_nil))) (le_int))) (le_int) (nomark _))))))) (lss_one (ls_ret ((le_call ((h__law_pick t base).mono (K__law_spoilt (by decide))) room gd (takes_of rfl rfl rfl rfl) rfl (la_cons (le_var 0 rfl (.inl rfl)) (la_cons ((le_lst false ((la_cons (le_non) (la_cons (le_str) (la_cons (le_str) (la_cons (le_int) (la_cons ((le_tup (la_nil))) (la_cons ((le_tup ((la_cons (le_int) la_nil)))) (la_cons ((le_tup ((la_cons ((le_tup (la_nil))) la_nil)))) (la_cons ((le_tup ((la_cons (le_str) la_nil)))) (la_cons (le_var 1 rfl (.inl rfl)) la_nil)))))))))))) la_nil)))))) lss_nil)
  (lss_cons (ls_if ((lt_cmp (c_eq hu) (le_var 1 rfl (.inl rfl)) ((le_tup (la_nil))) (nomark _))) (lss_one (ls_ret ((le_call ((h__law_pick t base).mono (K__law_spoilt (by decide))) room gd (takes_of rfl rfl rfl rfl) rfl (la_cons (le_var 0 rfl (.inl rfl)) (la_cons ((le_lst false ((la_cons ((le_tup ((la_cons (le_int) la_nil)))) (la_cons ((le_tup ((la_cons (le_str) la_nil)))) (la_cons ((le_tup ((la_cons ((le_tup (la_nil))) la_nil)))) (la_cons (le_non) la_nil))))))) la_nil)))))) lss_nil)
  (lss_cons (ls_set nd rfl (.inl rfl) ((le_bin o_mod ((le_callTy k_int rfl (n_int t) boot_int (la_cons ((le_call ((h__law_next t base).mono (K__law_spoilt (by decide))) room gd (takes_of rfl rfl rfl rfl) rfl (la_cons (le_var 0 rfl (.inl rfl)) la_nil))) la_nil))) ((le_callB k_len rfl (n_len t) boot_len (la_cons (le_var 1 rfl (.inl rfl)) la_nil))))))
  (lss_cons (ls_set nd rfl (.inl rfl) ((le_bin o_mod ((le_callTy k_int rfl (n_int t) boot_int (la_cons ((le_call ((h__law_next t base).mono (K__law_spoilt (by decide))) room gd (takes_of rfl rfl rfl rfl) rfl (la_cons (le_var 0 rfl (.inl rfl)) la_nil))) la_nil))) (le_int))))
  (lss_cons (ls_if ((lt_cmp (c_eq hu) (le_var 3 rfl (.inl rfl)) (le_int) (nomark _))) (lss_one (ls_ret ((le_add false ((le_sl false (le_var 1 rfl (.inl rfl)) lo_none (lo_some (le_var 2 rfl (.inl rfl))))) ((le_sl false (le_var 1 rfl (.inl rfl)) (lo_some ((le_add false (le_var 2 rfl (.inl rfl)) (le_int)))) lo_none)))))) lss_nil)
  (lss_one (ls_ret ((le_if ((lt_cmp (c_eq hu) (le_var 3 rfl (.inl rfl)) (le_int) (nomark _))) ((le_add false (le_var 1 rfl (.inl rfl)) ((le_sl false (le_var 1 rfl (.inl rfl)) (lo_some (le_var 2 rfl (.inl rfl))) (lo_some ((le_add false (le_var 2 rfl (.inl rfl)) (le_int)))))))) ((le_add false ((le_add false ((le_sl false (le_var 1 rfl (.inl rfl)) lo_none (lo_some (le_var 2 rfl (.inl rfl))))) ((le_tup ((la_cons ((le_call ih room gd (takes_of rfl rfl rfl rfl) rfl (la_cons (le_var 0 rfl (.inl rfl)) (la_cons ((le_ix (le_var 1 rfl (.inl rfl)) (le_var 2 rfl (.inl rfl)))) la_nil)))) la_nil)))))) ((le_sl false (le_var 1 rfl (.inl rfl)) (lo_some ((le_add false (le_var 2 rfl (.inl rfl)) (le_int)))) lo_none)))))))))))))
theorem h__law_spoilt (t : T w K mg) (base : Heap) : ∀ n : Nat, Fe P w K mg base (2 + n) "_law_spoilt" (F__law_spoilt n)
  | 0 => by
    obtain ⟨fd, F⟩ := t.says.d.def_ 20 (d := d__law_spoilt) rfl
    exact fe_bad F (g__law_spoilt t) (ps := ["draws", "term"]) (F.bindsN fun _ _ _ _ _ _ us hl => match us, hl with | [_, _], _ => rfl) _
  | n + 1 => hs__law_spoilt t base n (h__law_spoilt t base n)
abbrev N__law_is_row : List Str := ["term", "entry"]
def b__law_is_row : DS := (sRet ((dAndV ((dCall gIsi (dCons (dVar 0) (dCons (dK (.ty "tuple")) dNil)))) ((dCall (g1 fAll) (dCons ((dLc false [1] (dSeqI (dVar 0)) (gN 1) (dYes) ((dCall gIsi (dCons (dVar 1) (dCons (dK (.ty "int")) dNil)))))) dNil))))))
def F__law_is_row : DF := mkF 1 1 false b__law_is_row
theorem h__law_is_row (t : T w K mg) (base : Heap) : Fe P w K mg base 1 "_law_is_row" F__law_is_row := by
  obtain ⟨fd, F⟩ := t.says.d.def_ 17 (d := d__law_is_row) rfl
  have nd : N__law_is_row.Nodup := by decide +kernel
  refine fe_of (N := N__law_is_row) (ps := ["term"]) (m := 1) (sl := []) (live := false) F (g__law_is_row t) (F.bindsN fun _ _ _ _ _ _ us hl => match us, hl with | [_], _ => rfl) ⟨rfl, rfl, rfl, nd, rfl, by decide +kernel, by decide +kernel⟩ rfl ?_
  intro cdv A outer s H E room gd
  have hu := u64_of room
  have hu1 := u65_of room
  exact (lss_one (ls_ret ((le_and ((le_callB k_isi rfl (n_isinstance t) boot_isinstance (la_cons (le_var 0 rfl (.inl rfl)) (la_cons (le_ty rfl (n_tuple t) boot_tuple) la_nil)))) (le_one ((le_callB (k_all rfl) rfl (n_all t) (by decide +kernel) (la_cons ((le_lc false rfl nd (li_seq (le_var 0 rfl (.inl rfl))) (own := [("entry", 1)]) (blkOk_by (by kernel_rfl)) (fun _ _ _ _ _ => (lg_name 1 nd rfl (.inl rfl))) (fun _ _ _ _ _ => lts_nil) (fun _ _ _ _ _ => (le_callB k_isi rfl (n_isinstance t) boot_isinstance (la_cons (le_var 1 rfl (.inl rfl)) (la_cons (le_ty rfl (n_int t) boot_int) la_nil)))) (by decide))) la_nil))))))))
abbrev N__law_are_pairs : List Str := ["term", "entry"]
def b__law_are_pairs : DS := (sRet ((dAndV ((dCall gIsi (dCons (dVar 0) (dCons (dK (.ty "tuple")) dNil)))) ((dCall (g1 fAll) (dCons ((dLc false [1] (dSeqI (dVar 0)) (gN 1) (dYes) ((dCall F__law_is_row (dCons (dVar 1) dNil))))) dNil))))))
def F__law_are_pairs : DF := mkF 1 1 false b__law_are_pairs
theorem h__law_are_pairs (t : T w K mg) (base : Heap) : Fe P w K mg base 2 "_law_are_pairs" F__law_are_pairs := by
  obtain ⟨fd, F⟩ := t.says.d.def_ 18 (d := d__law_are_pairs) rfl
  have nd : N__law_are_pairs.Nodup := by decide +kernel
  refine fe_of (N := N__law_are_pairs) (ps := ["term"]) (m := 1) (sl := []) (live := false) F (g__law_are_pairs t) (F.bindsN fun _ _ _ _ _ _ us hl => match us, hl with | [_], _ => rfl) ⟨rfl, rfl, rfl, nd, rfl, by decide +kernel, by decide +kernel⟩ rfl ?_
  intro cdv A outer s H E room gd
  have hu := u64_of room
  have hu1 := u65_of room
  exact (lss_one (ls_ret ((le_and ((le_callB k_isi rfl (n_isinstance t) boot_isinstance (la_cons (le_var 0 rfl (.inl rfl)) (la_cons (le_ty rfl (n_tuple t) boot_tuple) la_nil)))) (le_one ((le_callB (k_all rfl) rfl (n_all t) (by decide +kernel) (la_cons ((le_lc false rfl nd (li_seq (le_var 0 rfl (.inl rfl))) (own := [("entry", 1)]) (blkOk_by (by kernel_rfl)) (fun _ _ _ _ _ => (lg_name 1 nd rfl (.inl rfl))) (fun _ _ _ _ _ => lts_nil) (fun _ _ _ _ _ => (le_call ((h__law_is_row t base).mono (by decide)) room gd takes0 rfl (la_cons (le_var 1 rfl (.inl rfl)) la_nil))) (by decide))) la_nil))))))))
abbrev N__law_due : List Str := ["thing", "term", "right", "entry"]
def b__law_due : DS := (sSeq (sIf ((dCmpT cEq (dVar 0) (dC (.str "row")))) (sRet ((dCall F__law_is_row (dCons (dVar 1) dNil)))) sSkip)
  (sSeq (sIf ((dCmpT cEq (dVar 0) (dC (.str "fractions")))) (sRet ((dCall F__law_are_pairs (dCons (dVar 1) dNil)))) sSkip)
  (sSeq (sSet 2 ((dAndV ((dCall gIsi (dCons (dVar 1) (dCons (dK (.ty "tuple")) dNil)))) ((dCall (g1 fAll) (dCons ((dLc false [3] (dSeqI (dVar 1)) (gN 3) (dYes) ((dCall F__law_are_pairs (dCons (dVar 3) dNil))))) dNil))))))
  (sRet ((dAndV (dVar 2) ((dOrV ((dCmp cEq (dVar 0) (dC (.str "table")))) ((dCmp cEq ((dCall (g1 fLen) (dCons (dVar 1) dNil))) (dC (.int 2))))))))))))
def F__law_due : DF := mkF 2 2 false b__law_due
theorem h__law_due (t : T w K mg) (base : Heap) : Fe P w K mg base 3 "_law_due" F__law_due := by
  obtain ⟨fd, F⟩ := t.says.d.def_ 19 (d := d__law_due) rfl
  have nd : N__law_due.Nodup := by decide +kernel
  refine fe_of (N := N__law_due) (ps := ["thing", "term"]) (m := 2) (sl := []) (live := false) F (g__law_due t) (F.bindsN fun _ _ _ _ _ _ us hl => match us, hl with | [_, _], _ => rfl) ⟨rfl, rfl, rfl, nd, rfl, by decide +kernel, by decide +kernel⟩ rfl ?_
  intro cdv A outer s H E room gd
  have hu := u64_of room
  have hu1 := u65_of room
  exact (lss_cons (ls_if ((lt_cmp (c_eq hu) (le_var 0 rfl (.inl rfl)) (le_str) (nomark _))) (lss_one (ls_ret ((le_call ((h__law_is_row t base).mono (by decide)) room gd (takes_of rfl rfl rfl rfl) rfl (la_cons (le_var 1 rfl (.inl rfl)) la_nil))))) lss_nil)
  (lss_cons (ls_if ((lt_cmp (c_eq hu) (le_var 0 rfl (.inl rfl)) (le_str) (nomark _))) (lss_one (ls_ret ((le_call ((h__law_are_pairs t base).mono (by decide)) room gd (takes_of rfl rfl rfl rfl) rfl (la_cons (le_var 1 rfl (.inl rfl)) la_nil))))) lss_nil)
  (lss_cons (ls_set nd rfl (.inl rfl) ((le_and ((le_callB k_isi rfl (n_isinstance t) boot_isinstance (la_cons (le_var 1 rfl (.inl rfl)) (la_cons (le_ty rfl (n_tuple t) boot_tuple) la_nil)))) (le_one ((le_callB (k_all rfl) rfl (n_all t) (by decide +kernel) (la_cons ((le_lc false rfl nd (li_seq (le_var 1 rfl (.inl rfl))) (own := [("entry", 3)]) (blkOk_by (by kernel_rfl)) (fun _ _ _ _ _ => (lg_name 3 nd rfl (.inl rfl))) (fun _ _ _ _ _ => lts_nil) (fun _ _ _ _ _ => (le_call ((h__law_are_pairs t base).mono (by decide)) room gd takes0 rfl (la_cons (le_var 3 rfl (.inl rfl)) la_nil))) (by decide))) la_nil)))))))
  (lss_one (ls_ret ((le_and (le_var 2 rfl (.inl rfl)) (le_one ((le_or ((le_cmp (c_eq hu) (le_var 0 rfl (.inl rfl)) (le_str) (nomark _))) (le_one ((le_cmp (c_eq hu) ((le_callB k_len rfl (n_len t) boot_len (la_cons (le_var 1 rfl (.inl rfl)) la_nil))) (le_int) (nomark _))))))))))))))
abbrev N__law_number_of : List Str := ["word", "k"]
def b__law_number_of : DS := (sRet ((dIf ((dCmpT cIn (dVar 0) ((dLc false [1] (dRange1 (dC (.int 100))) (gN 1) (dYes) ((dCall (g1 fStr) (dCons (dVar 1) dNil))))))) ((dCall (g1 fInt) (dCons (dVar 0) dNil))) (dC .none))))
def F__law_number_of : DF := mkF 1 1 false b__law_number_of
theorem h__law_number_of (t : T w K mg) (base : Heap) : Fe P w K mg base 1 "_law_number_of" F__law_number_of := by
  obtain ⟨fd, F⟩ := t.says.d.def_ 16 (d := d__law_number_of) rfl
  have nd : N__law_number_of.Nodup := by decide +kernel
  refine fe_of (N := N__law_number_of) (ps := ["word"]) (m := 1) (sl := []) (live := false) F (g__law_number_of t) (F.bindsN fun _ _ _ _ _ _ us hl => match us, hl with | [_], _ => rfl) ⟨rfl, rfl, rfl, nd, rfl, by decide +kernel, by decide +kernel⟩ rfl ?_
  intro cdv A outer s H E room gd
  have hu := u64_of room
  have hu1 := u65_of room
  exact (lss_one (ls_ret ((le_if ((lt_cmp (c_in hu1) (le_var 0 rfl (.inl rfl)) ((le_lc false rfl nd (li_range1 rfl (n_range t) (le_int)) (own := [("k", 1)]) (blkOk_by (by kernel_rfl)) (fun _ _ _ _ _ => (lg_name 1 nd rfl (.inl rfl))) (fun _ _ _ _ _ => lts_nil) (fun _ _ _ _ _ => (le_callTy k_str rfl (n_str t) boot_str (la_cons (le_var 1 rfl (.inl rfl)) la_nil))) (by decide))) (by rfl))) ((le_callTy k_int rfl (n_int t) boot_int (la_cons (le_var 0 rfl (.inl rfl)) la_nil))) (le_non)))))
abbrev N__law_kind : List Str := ["error", "names", "found"]
def b__law_kind (a : Addr) (c : Str) : DS := (sSeq (sSet 1 ((dLst false ((dCons (dC (.str "poly")) (dCons (dC (.str "table")) (dCons (dC (.str "machine")) (dCons (dC (.str "paper")) (dCons (dC (.str "number")) (dCons (dC (.str "none")) (dCons (dC (.str "large")) dNil)))))))))))
  (sSeq (sSet 2 (dLst false (dCons (dIsE 0 a (decide (c = "NotPoly"))) (dCons (dIsE 0 a (decide (c = "NotTable"))) (dCons (dIsE 0 a (decide (c = "NotMachine"))) (dCons (dIsE 0 a (decide (c = "NotPaper"))) dNil))))))
  (sSeq (sSet 2 (dAdd false (dVar 2) (dLst false (dCons (dIsE 0 a (decide (c = "BadNumber"))) (dCons (dIsE 0 a (decide (c = "NoAnswer"))) (dCons (dIsE 0 a (decide (c = "TooLarge"))) dNil))))))
  (sRet ((dIf ((dCmpT cEq ((dMeth isL (gM1 (fCount 3)) (dVar 2) (dCons (dC (.bool true)) dNil))) (dC (.int 1)))) ((dAdd false (dC (.str "!")) ((dIx (dVar 1) ((dMeth isL (gM1 (fIndex 3)) (dVar 2) (dCons (dC (.bool true)) dNil))))))) (dC (.str "!other"))))))))
theorem of_cd (t : T w K mg) {c z y : Str} {C D : Addr} (hk : kindOf c = some z) (m : mg c = some (.ref C)) (m2 : mg y = some (.ref D)) (hy : y ∈ kindCs) (e : C = D) : decide (c = y) = true := by
  have x1 := kind_ga t hk m
  have hz : ∃ z2, kindOf y = some z2 := by
    revert hy; unfold kindCs kindOf
    simp only [List.mem_cons, List.not_mem_nil, or_false]
    intro hy
    rcases hy with rfl | rfl | rfl | rfl | rfl | rfl | rfl <;> exact ⟨_, rfl⟩
  obtain ⟨z2, hz⟩ := hz
  have x2 := kind_ga t hz m2
  have y1 := kind_exm t hk hy
  have y2 := kind_exm t hz hy
  rw [← x2] at y1 y2
  rw [← x1, e] at y1
  rw [y1] at y2
  simpa using y2
abbrev kindNames : List PyData := [.str "poly", .str "table", .str "machine", .str "paper", .str "number", .str "none", .str "large"]
theorem told_gen (a : Addr) (c : Str) (z : Str) (μ : Mu)
    (h : (dIf ((dCmpT cEq ((dMeth isL (gM1 (fCount 3)) (dVar 2) (dCons (dC (.bool true)) dNil))) (dC (.int 1)))) ((dAdd false (dC (.str "!")) ((dIx (dVar 1) ((dMeth isL (gM1 (fIndex 3)) (dVar 2) (dCons (dC (.bool true)) dNil))))))) (dC (.str "!other")))
      [some (.ref a), some (.t (.list kindNames)), some (.t (.list [.bool (decide (c = "NotPoly")), .bool (decide (c = "NotTable")), .bool (decide (c = "NotMachine")), .bool (decide (c = "NotPaper")), .bool (decide (c = "BadNumber")), .bool (decide (c = "NoAnswer")), .bool (decide (c = "TooLarge"))]))] μ = .ok (.t (.str z)) μ) :
    mkF 1 2 false (b__law_kind a c) [.ref a] μ = .ok (.t (.str z)) μ := by
  refine mkF_t rfl (μ' := μ) ?_ rfl
  show b__law_kind a c [some (.ref a), none, none] μ = _
  unfold b__law_kind
  refine (seq_ok (set_ok' (dLst_ok (ps := kindNames) rfl rfl (by simp)))).trans ?_
  refine (seq_ok (set_ok' (dLst_ok (ps := [.bool (decide (c = "NotPoly")), .bool (decide (c = "NotTable")), .bool (decide (c = "NotMachine")), .bool (decide (c = "NotPaper"))]) (cons_ok isE_ok (cons_ok isE_ok (cons_ok isE_ok (cons_ok isE_ok rfl)))) rfl (by simp)))).trans ?_
  have add : (dAdd false (dVar 2) (dLst false (dCons (dIsE 0 a (decide (c = "BadNumber"))) (dCons (dIsE 0 a (decide (c = "NoAnswer"))) (dCons (dIsE 0 a (decide (c = "TooLarge"))) dNil))))) [some (.ref a), some (.t (.list kindNames)), some (.t (.list [.bool (decide (c = "NotPoly")), .bool (decide (c = "NotTable")), .bool (decide (c = "NotMachine")), .bool (decide (c = "NotPaper"))]))] μ =
      .ok (.t (.list [.bool (decide (c = "NotPoly")), .bool (decide (c = "NotTable")), .bool (decide (c = "NotMachine")), .bool (decide (c = "NotPaper")), .bool (decide (c = "BadNumber")), .bool (decide (c = "NoAnswer")), .bool (decide (c = "TooLarge"))])) μ := by
    unfold dAdd
    rw [show dVar 2 [some (D.ref a), some (.t (.list kindNames)), some (.t (.list [.bool (decide (c = "NotPoly")), .bool (decide (c = "NotTable")), .bool (decide (c = "NotMachine")), .bool (decide (c = "NotPaper"))]))] μ = .ok (.t (.list [.bool (decide (c = "NotPoly")), .bool (decide (c = "NotTable")), .bool (decide (c = "NotMachine")), .bool (decide (c = "NotPaper"))])) μ from rfl, bind_ok]
    rw [dLst_ok (ps := [.bool (decide (c = "BadNumber")), .bool (decide (c = "NoAnswer")), .bool (decide (c = "TooLarge"))]) (cons_ok isE_ok (cons_ok isE_ok (cons_ok isE_ok rfl))) rfl (by simp), bind_ok]
    unfold apAdd lstOf
    dsimp only
    rw [if_pos (by rw [sizeLine_eq]; simp)]
    rfl
  show sSeq _ _ [some (.ref a), some (.t (.list kindNames)), some (.t (.list [.bool (decide (c = "NotPoly")), .bool (decide (c = "NotTable")), .bool (decide (c = "NotMachine")), .bool (decide (c = "NotPaper"))]))] μ = _
  refine (seq_ok (set_ok' add)).trans ?_
  exact ret_ok h
theorem told_kind : ∀ (a : Addr) (c z : Str) (μ : Mu), kindOf c = some z → mkF 1 2 false (b__law_kind a c) [.ref a] μ = .ok (.t (.str z)) μ := by
  intro a c z μ h
  have k := kind_in h
  unfold kindCs at k
  simp only [List.mem_cons, List.not_mem_nil, or_false] at k
  rcases k with rfl | rfl | rfl | rfl | rfl | rfl | rfl <;> (have z := h; cases z; exact told_gen _ _ _ _ (by kernel_rfl))
theorem h__law_kind (t : T w K mg) (base : Heap) : FeK P w K mg base 1 "_law_kind" kindOf := by
  obtain ⟨fd, F⟩ := t.says.d.def_ 14 (d := d__law_kind) rfl
  have nd : N__law_kind.Nodup := by decide +kernel
  refine feK_of (N := N__law_kind) (ps := ["error"]) (m := 2) (sl := []) F (g__law_kind t) (F.bindsN fun _ _ _ _ _ _ us hl => match us, hl with | [_], _ => rfl) ⟨rfl, rfl, rfl, nd, rfl, by decide +kernel, by decide +kernel⟩ rfl rfl told_kind (kind_exc t) ?_
  intro cdv A outer s H E p c z C room hk ix
  have hu := u64H_of room
  have hu1 := u65H_of room
  exact (lss_cons (ls_set nd rfl (.inl rfl) ((le_lst false ((la_cons (le_str) (la_cons (le_str) (la_cons (le_str) (la_cons (le_str) (la_cons (le_str) (la_cons (le_str) (la_cons (le_str) la_nil)))))))))))
  (lss_cons (ls_set nd rfl (.inl rfl) (le_lst false (la_cons (le_isE ix rfl (n_isinstance t) rfl (.inl rfl) rfl (g_NotPoly t) (by rw [kind_ga t hk ix.mg]; exact kind_exm t hk (by decide)) (fun e => by have := kind_ga t hk ix.mg; exact of_cd t hk ix.mg (g_NotPoly t) (by decide) e)) (la_cons (le_isE ix rfl (n_isinstance t) rfl (.inl rfl) rfl (g_NotTable t) (by rw [kind_ga t hk ix.mg]; exact kind_exm t hk (by decide)) (fun e => by have := kind_ga t hk ix.mg; exact of_cd t hk ix.mg (g_NotTable t) (by decide) e)) (la_cons (le_isE ix rfl (n_isinstance t) rfl (.inl rfl) rfl (g_NotMachine t) (by rw [kind_ga t hk ix.mg]; exact kind_exm t hk (by decide)) (fun e => by have := kind_ga t hk ix.mg; exact of_cd t hk ix.mg (g_NotMachine t) (by decide) e)) (la_cons (le_isE ix rfl (n_isinstance t) rfl (.inl rfl) rfl (g_NotPaper t) (by rw [kind_ga t hk ix.mg]; exact kind_exm t hk (by decide)) (fun e => by have := kind_ga t hk ix.mg; exact of_cd t hk ix.mg (g_NotPaper t) (by decide) e)) la_nil))))))
  (lss_cons (ls_set nd rfl (.inl rfl) (le_add false (le_var 2 rfl (.inl rfl)) (le_lst false (la_cons (le_isE ix rfl (n_isinstance t) rfl (.inl rfl) rfl (g_BadNumber t) (by rw [kind_ga t hk ix.mg]; exact kind_exm t hk (by decide)) (fun e => by have := kind_ga t hk ix.mg; exact of_cd t hk ix.mg (g_BadNumber t) (by decide) e)) (la_cons (le_isE ix rfl (n_isinstance t) rfl (.inl rfl) rfl (g_NoAnswer t) (by rw [kind_ga t hk ix.mg]; exact kind_exm t hk (by decide)) (fun e => by have := kind_ga t hk ix.mg; exact of_cd t hk ix.mg (g_NoAnswer t) (by decide) e)) (la_cons (le_isE ix rfl (n_isinstance t) rfl (.inl rfl) rfl (g_TooLarge t) (by rw [kind_ga t hk ix.mg]; exact kind_exm t hk (by decide)) (fun e => by have := kind_ga t hk ix.mg; exact of_cd t hk ix.mg (g_TooLarge t) (by decide) e)) la_nil))))))
  (lss_one (ls_ret ((le_if ((lt_cmp (c_eq hu) ((le_meth PySem.F.plainAttrs_list PySem.F.slot_list_count PySem.F.type_list_count (m_count 3 hu1) tyC_list (le_var 2 rfl (.inl rfl)) (la_cons (le_bl) la_nil))) (le_int) (nomark _))) ((le_add false (le_str) ((le_ix (le_var 1 rfl (.inl rfl)) ((le_meth PySem.F.plainAttrs_list PySem.F.slot_list_index PySem.F.type_list_index (m_index 3 hu1) tyC_list (le_var 2 rfl (.inl rfl)) (la_cons (le_bl) la_nil))))))) (le_str))))))))
abbrev N_law : List Str := ["script", "draws", "turn", "line", "word", "small", "terms", "term", "kinds", "wrong", "error", "at", "sign", "thing"]
def b_law : DS := (sSeq (sSet 1 ((dCall F__law_draws (dCons (dVar 0) dNil))))
  (sSeq (sSet 1 ((dCall F__law_more (dCons (dVar 1) (dCons (dC (.int 200)) dNil)))))
  (sSeq (sIf ((dCmpT cNe ((dLst false ((dCons ((dCall F_words_of (dCons (dC (.str "a b")) dNil))) (dCons ((dCall F_is_name (dCons (dC (.str "abcdefghijkl")) dNil))) (dCons ((dCall F_is_name (dCons (dC (.str "abcdefghijklm")) dNil))) (dCons ((dCall F_number_in (dCons (dC (.str "07")) dNil))) (dCons ((dCall F_number_in (dCons (dC (.str "99")) dNil))) dNil)))))))) ((dLst false ((dCons ((dLst false ((dCons (dC (.str "a")) (dCons (dC (.str "b")) dNil))))) (dCons (dC (.bool true)) (dCons (dC (.bool false)) (dCons (dC .none) (dCons (dC (.int 99)) dNil)))))))))) (sRet (dC (.bool false))) sSkip)
  (sSeq (sFor (dRange1 (dC (.int 6))) (gN 2) (sSeq (sSet 3 ((dMeth isS (gM1 fJoin) (dC (.str "")) (dCons ((dLc false [11] (dRange1 ((dBin fMod ((dCall (g1 fInt) (dCons ((dCall F__law_next (dCons (dVar 1) dNil))) dNil))) (dC (.int 9))))) (gN 11) (dYes) ((dCall F__law_pick (dCons (dVar 1) (dCons ((dLst false ((dCons (dC (.str "a")) (dCons (dC (.str "b")) (dCons (dC (.str " ")) (dCons (dC (.str "0")) (dCons (dC (.str "7")) (dCons (dC (.str "~")) (dCons (dC (.str "!")) (dCons (dC (.str "(")) (dCons (dC (.str "A")) (dCons (dC (.str "\t")) (dCons (dC (.str "-")) (dCons (dC (.str "z")) (dCons (dC (.str "  ")) dNil)))))))))))))))) dNil)))))) dNil))))
  (sSeq (sIf ((dCmpT cNe ((dCall (g1 fRepr) (dCons ((dCall F_words_of (dCons (dVar 3) dNil))) dNil))) ((dCall (g1 fRepr) (dCons ((dCall F__law_line (dCons (dVar 3) dNil))) dNil))))) (sRet (dC (.bool false))) sSkip)
  (sSeq (sSet 4 ((dMeth isS (gM1 fJoin) (dC (.str "")) (dCons ((dLc false [11] (dRange1 ((dBin fMod ((dCall (g1 fInt) (dCons ((dCall F__law_next (dCons (dVar 1) dNil))) dNil))) (dC (.int 15))))) (gN 11) (dYes) ((dCall F__law_pick (dCons (dVar 1) (dCons ((dLst false ((dCons (dC (.str "a")) (dCons (dC (.str "k")) (dCons (dC (.str "z")) (dCons (dC (.str "9")) (dCons (dC (.str "0")) (dCons (dC (.str "1")) (dCons (dC (.str "")) (dCons (dC (.str "")) (dCons (dC (.str "B")) dNil)))))))))))) dNil)))))) dNil))))
  (sSeq (sSet 5 ((dAndV ((dChain cLe cLe (dC (.int 1)) ((dCall (g1 fLen) (dCons (dVar 4) dNil))) (dC (.int 12)))) ((dCall (g1 fAll) (dCons ((dLc false [12] (dSeqI (dVar 4)) (gN 12) (dYes) ((dCmp cIn (dVar 12) (dC (.str "abcdefghijklmnopqrstuvwxyz")))))) dNil))))))
  (sIf ((dCmpT cNe ((dCall (g1 fRepr) (dCons ((dLst false ((dCons ((dCall F_is_name (dCons (dVar 4) dNil))) (dCons ((dCall F_number_in (dCons (dVar 4) dNil))) dNil))))) dNil))) ((dCall (g1 fRepr) (dCons ((dLst false ((dCons (dVar 5) (dCons ((dCall F__law_number_of (dCons (dVar 4) dNil))) dNil))))) dNil))))) (sRet (dC (.bool false))) sSkip))))))
  (sSeq (sIf ((dCmpT cNe ((dLc false [4] (dSeqI ((dLst false ((dCons (dC (.str "")) (dCons (dC (.str "0")) (dCons (dC (.str "00")) (dCons (dC (.str "100")) (dCons (dC (.str "-1")) (dCons (dC (.str "5")) (dCons (dC (.str "+5")) (dCons (dC (.str " 5")) (dCons (dC (.str "5 ")) dNil))))))))))))) (gN 4) (dYes) ((dCall (g1 fRepr) (dCons ((dCall F_number_in (dCons (dVar 4) dNil))) dNil))))) ((dLst false ((dCons (dC (.str "None")) (dCons (dC (.str "0")) (dCons (dC (.str "None")) (dCons (dC (.str "None")) (dCons (dC (.str "None")) (dCons (dC (.str "5")) (dCons (dC (.str "None")) (dCons (dC (.str "None")) (dCons (dC (.str "None")) dNil)))))))))))))) (sRet (dC (.bool false))) sSkip)
  (sSeq (sSet 6 ((dLst false ((dCons ((dTup ((dCons ((dTup ((dCons ((dTup ((dCons (dC (.int 1)) (dCons (dC (.int 2)) dNil))))) dNil)))) (dCons ((dTup ((dCons ((dTup ((dCons (dC (.int 1)) (dCons (dC (.int 2)) dNil))))) dNil)))) dNil))))) (dCons ((dTup ((dCons ((dTup ((dCons (dC (.int 1)) (dCons (dC (.int 1)) dNil))))) (dCons ((dTup ((dCons (dC (.int 2)) (dCons (dC (.int 1)) dNil))))) dNil))))) (dCons ((dTup ((dCons ((dTup ((dCons ((dTup ((dCons (dC (.int 1)) (dCons (dC (.int 2)) dNil))))) dNil)))) (dCons ((dTup ((dCons ((dTup ((dCons (dC (.int 1)) (dCons (dC (.int 2)) dNil))))) dNil)))) (dCons ((dTup (dNil))) dNil)))))) (dCons ((dTup ((dCons (dC (.int 0)) (dCons (dC (.int 1)) (dCons (dC (.int 1)) dNil)))))) (dCons ((dTup ((dCons ((dTup (dNil))) (dCons ((dTup ((dCons ((dTup ((dCons (dC (.int 1)) dNil)))) dNil)))) dNil))))) dNil)))))))))
  (sSeq (sFor (dSeqI ((dAdd false ((dAdd false (dVar 6) ((dLc false [2] (dRange1 (dC (.int 12))) (gN 2) (dYes) ((dCall (F__law_spoilt 6) (dCons (dVar 1) (dCons ((dCall F__law_pick (dCons (dVar 1) (dCons (dVar 6) dNil)))) dNil)))))))) ((dLst false ((dCons ((dTup (dNil))) (dCons (dC .none) (dCons (dC (.str "")) (dCons (dC (.int 0)) dNil)))))))))) (gN 7) (sSeq (sSet 8 ((dLst false ((dCons (dC (.str "fractions")) (dCons (dC (.str "table")) (dCons (dC (.str "pair")) (dCons (dC (.str "row")) dNil))))))))
  (sIf ((dCmpT cNe ((dLc false [13] (dSeqI (dVar 8)) (gN 13) (dYes) ((dCall F_has_form (dCons (dVar 13) (dCons (dVar 7) dNil)))))) ((dLc false [13] (dSeqI (dVar 8)) (gN 13) (dYes) ((dCall F__law_due (dCons (dVar 13) (dCons (dVar 7) dNil)))))))) (sRet (dC (.bool false))) sSkip)))
  (sSeq (sFor (dSeqI ((dLst false ((dCons (dC (.str "")) (dCons (dC (.str "Form")) (dCons (dC (.str "term")) dNil))))))) (gN 9) (sTryQ kindOf 10 "!number" (sSeq (sExpr ((dCall F_has_form (dCons (dVar 9) (dCons ((dTup (dNil))) dNil)))))
  (sRet (dC (.bool false))))))
  (sRet (dC (.bool true)))))))))))
def F_law : DF := mkF 1 13 false b_law
theorem h_law (t : T w K mg) (base : Heap) : Fe P w K mg base 10 "law" F_law := by
  obtain ⟨fd, F⟩ := t.says.d.def_ 21 (d := d_law) rfl
  have nd : N_law.Nodup := by decide +kernel
  refine fe_of (N := N_law) (ps := ["script"]) (m := 13) (sl := []) (live := false) F (g_law t) (F.bindsN fun _ _ _ _ _ _ us hl => match us, hl with | [_], _ => rfl) ⟨rfl, rfl, rfl, nd, rfl, by decide +kernel, by decide +kernel⟩ rfl ?_
  intro cdv A outer s H E room gd
  have hu := u64_of room
  have hu1 := u65_of room
  exact (lss_cons (ls_set nd rfl (.inr rfl) ((le_call ((h__law_draws t base).mono (by decide)) room gd (takes_of rfl rfl rfl rfl) rfl (la_cons (le_var 0 rfl (.inl rfl)) la_nil))))
  (lss_cons (ls_set nd rfl (.inr rfl) ((le_call ((h__law_more t base).mono (by decide)) room gd (takes_of rfl rfl rfl rfl) rfl (la_cons (le_var 1 rfl (.inr (.inl rfl))) (la_cons (le_int) la_nil)))))
  (lss_cons (ls_if ((lt_cmp (c_ne hu) ((le_lst false ((la_cons ((le_call ((h_words_of t base).mono (by decide)) room gd (takes_of rfl rfl rfl rfl) rfl (la_cons (le_str) la_nil))) (la_cons ((le_call ((h_is_name t base).mono (by decide)) room gd (takes_of rfl rfl rfl rfl) rfl (la_cons (le_str) la_nil))) (la_cons ((le_call ((h_is_name t base).mono (by decide)) room gd (takes_of rfl rfl rfl rfl) rfl (la_cons (le_str) la_nil))) (la_cons ((le_call ((h_number_in t base).mono (by decide)) room gd (takes_of rfl rfl rfl rfl) rfl (la_cons (le_str) la_nil))) (la_cons ((le_call ((h_number_in t base).mono (by decide)) room gd (takes_of rfl rfl rfl rfl) rfl (la_cons (le_str) la_nil))) la_nil)))))))) ((le_lst false ((la_cons ((le_lst false ((la_cons (le_str) (la_cons (le_str) la_nil))))) (la_cons (le_bl) (la_cons (le_bl) (la_cons (le_non) (la_cons (le_int) la_nil)))))))) (nomark _))) (lss_one (ls_ret (le_bl))) lss_nil)
  (lss_cons (ls_for PassesOwn.leaving rfl (li_range1 rfl (n_range t) (le_int)) (lg_name 2 nd rfl (.inl rfl)) (lss_cons (ls_set nd rfl (.inl rfl) ((le_meth PySem.F.plainAttrs_str PySem.F.slot_str_join PySem.F.type_str_join m_join tyC_str (le_str) (la_cons ((le_lc false rfl nd (li_range1 rfl (n_range t) ((le_bin o_mod ((le_callTy k_int rfl (n_int t) boot_int (la_cons ((le_call ((h__law_next t base).mono (by decide)) room gd (takes_of rfl rfl rfl rfl) rfl (la_cons (le_var 1 rfl (.inr (.inl rfl))) la_nil))) la_nil))) (le_int)))) (own := [("at", 11)]) (blkOk_by (by kernel_rfl)) (fun _ _ _ _ _ => (lg_name 11 nd rfl (.inl rfl))) (fun _ _ _ _ _ => lts_nil) (fun _ _ _ _ _ => (le_call ((h__law_pick t base).mono (by decide)) room gd takes0 rfl (la_cons (le_var 1 rfl (.inr (.inl rfl))) (la_cons ((le_lst false ((la_cons (le_str) (la_cons (le_str) (la_cons (le_str) (la_cons (le_str) (la_cons (le_str) (la_cons (le_str) (la_cons (le_str) (la_cons (le_str) (la_cons (le_str) (la_cons (le_str) (la_cons (le_str) (la_cons (le_str) (la_cons (le_str) la_nil)))))))))))))))) la_nil)))) (by decide))) la_nil))))
  (lss_cons (ls_if ((lt_cmp (c_ne hu) ((le_callB (k_repr gd hu) rfl (n_repr t) boot_repr (la_cons ((le_call ((h_words_of t base).mono (by decide)) room gd (takes_of rfl rfl rfl rfl) rfl (la_cons (le_var 3 rfl (.inl rfl)) la_nil))) la_nil))) ((le_callB (k_repr gd hu) rfl (n_repr t) boot_repr (la_cons ((le_call ((h__law_line t base).mono (by decide)) room gd (takes_of rfl rfl rfl rfl) rfl (la_cons (le_var 3 rfl (.inl rfl)) la_nil))) la_nil))) (nomark _))) (lss_one (ls_ret (le_bl))) lss_nil)
  (lss_cons (ls_set nd rfl (.inl rfl) ((le_meth PySem.F.plainAttrs_str PySem.F.slot_str_join PySem.F.type_str_join m_join tyC_str (le_str) (la_cons ((le_lc false rfl nd (li_range1 rfl (n_range t) ((le_bin o_mod ((le_callTy k_int rfl (n_int t) boot_int (la_cons ((le_call ((h__law_next t base).mono (by decide)) room gd (takes_of rfl rfl rfl rfl) rfl (la_cons (le_var 1 rfl (.inr (.inl rfl))) la_nil))) la_nil))) (le_int)))) (own := [("at", 11)]) (blkOk_by (by kernel_rfl)) (fun _ _ _ _ _ => (lg_name 11 nd rfl (.inl rfl))) (fun _ _ _ _ _ => lts_nil) (fun _ _ _ _ _ => (le_call ((h__law_pick t base).mono (by decide)) room gd takes0 rfl (la_cons (le_var 1 rfl (.inr (.inl rfl))) (la_cons ((le_lst false ((la_cons (le_str) (la_cons (le_str) (la_cons (le_str) (la_cons (le_str) (la_cons (le_str) (la_cons (le_str) (la_cons (le_str) (la_cons (le_str) (la_cons (le_str) la_nil)))))))))))) la_nil)))) (by decide))) la_nil))))
  (lss_cons (ls_set nd rfl (.inl rfl) ((le_and ((le_chain c_le c_le (le_int) ((le_callB k_len rfl (n_len t) boot_len (la_cons (le_var 4 rfl (.inl rfl)) la_nil))) (le_int))) (le_one ((le_callB (k_all rfl) rfl (n_all t) (by decide +kernel) (la_cons ((le_lc false rfl nd (li_seq (le_var 4 rfl (.inl rfl))) (own := [("sign", 12)]) (blkOk_by (by kernel_rfl)) (fun _ _ _ _ _ => (lg_name 12 nd rfl (.inl rfl))) (fun _ _ _ _ _ => lts_nil) (fun _ _ _ _ _ => (le_cmp (c_in hu1) (le_var 12 rfl (.inl rfl)) (le_str) (by rfl))) (by decide))) la_nil)))))))
  (lss_one (ls_if ((lt_cmp (c_ne hu) ((le_callB (k_repr gd hu) rfl (n_repr t) boot_repr (la_cons ((le_lst false ((la_cons ((le_call ((h_is_name t base).mono (by decide)) room gd (takes_of rfl rfl rfl rfl) rfl (la_cons (le_var 4 rfl (.inl rfl)) la_nil))) (la_cons ((le_call ((h_number_in t base).mono (by decide)) room gd (takes_of rfl rfl rfl rfl) rfl (la_cons (le_var 4 rfl (.inl rfl)) la_nil))) la_nil))))) la_nil))) ((le_callB (k_repr gd hu) rfl (n_repr t) boot_repr (la_cons ((le_lst false ((la_cons (le_var 5 rfl (.inl rfl)) (la_cons ((le_call ((h__law_number_of t base).mono (by decide)) room gd (takes_of rfl rfl rfl rfl) rfl (la_cons (le_var 4 rfl (.inl rfl)) la_nil))) la_nil))))) la_nil))) (nomark _))) (lss_one (ls_ret (le_bl))) lss_nil)))))))
  (lss_cons (ls_if ((lt_cmp (c_ne hu) ((le_lc false rfl nd (li_seq ((le_lst false ((la_cons (le_str) (la_cons (le_str) (la_cons (le_str) (la_cons (le_str) (la_cons (le_str) (la_cons (le_str) (la_cons (le_str) (la_cons (le_str) (la_cons (le_str) la_nil))))))))))))) (own := [("word", 4)]) (blkOk_by (by kernel_rfl)) (fun _ _ _ _ _ => (lg_name 4 nd rfl (.inl rfl))) (fun _ _ _ _ _ => lts_nil) (fun _ _ _ _ _ => (le_callB (k_repr gd hu) rfl (n_repr t) boot_repr (la_cons ((le_call ((h_number_in t base).mono (by decide)) room gd takes0 rfl (la_cons (le_var 4 rfl (.inl rfl)) la_nil))) la_nil))) (by decide))) ((le_lst false ((la_cons (le_str) (la_cons (le_str) (la_cons (le_str) (la_cons (le_str) (la_cons (le_str) (la_cons (le_str) (la_cons (le_str) (la_cons (le_str) (la_cons (le_str) la_nil)))))))))))) (nomark _))) (lss_one (ls_ret (le_bl))) lss_nil)
  (lss_cons (ls_set nd rfl (.inr rfl) ((le_lst false ((la_cons ((le_tup ((la_cons ((le_tup ((la_cons ((le_tup ((la_cons (le_int) (la_cons (le_int) la_nil))))) la_nil)))) (la_cons ((le_tup ((la_cons ((le_tup ((la_cons (le_int) (la_cons (le_int) la_nil))))) la_nil)))) la_nil))))) (la_cons ((le_tup ((la_cons ((le_tup ((la_cons (le_int) (la_cons (le_int) la_nil))))) (la_cons ((le_tup ((la_cons (le_int) (la_cons (le_int) la_nil))))) la_nil))))) (la_cons ((le_tup ((la_cons ((le_tup ((la_cons ((le_tup ((la_cons (le_int) (la_cons (le_int) la_nil))))) la_nil)))) (la_cons ((le_tup ((la_cons ((le_tup ((la_cons (le_int) (la_cons (le_int) la_nil))))) la_nil)))) (la_cons ((le_tup (la_nil))) la_nil)))))) (la_cons ((le_tup ((la_cons (le_int) (la_cons (le_int) (la_cons (le_int) la_nil)))))) (la_cons ((le_tup ((la_cons ((le_tup (la_nil))) (la_cons ((le_tup ((la_cons ((le_tup ((la_cons (le_int) la_nil)))) la_nil)))) la_nil))))) la_nil)))))))))
  (lss_cons (ls_for PassesOwn.leaving rfl (li_seq ((le_add false ((le_add false (le_var 6 rfl (.inr (.inl rfl))) ((le_lc false rfl nd (li_range1 rfl (n_range t) (le_int)) (own := [("turn", 2)]) (blkOk_by (by kernel_rfl)) (fun _ _ _ _ _ => (lg_name 2 nd rfl (.inl rfl))) (fun _ _ _ _ _ => lts_nil) (fun _ _ _ _ _ => (le_call ((h__law_spoilt t base 6).mono (by decide)) room gd takes0 rfl (la_cons (le_var 1 rfl (.inr (.inl rfl))) (la_cons ((le_call ((h__law_pick t base).mono (by decide)) room gd takes0 rfl (la_cons (le_var 1 rfl (.inr (.inl rfl))) (la_cons (le_var 6 rfl (.inr (.inl rfl))) la_nil)))) la_nil)))) (by decide))))) ((le_lst false ((la_cons ((le_tup (la_nil))) (la_cons (le_non) (la_cons (le_str) (la_cons (le_int) la_nil)))))))))) (lg_name 7 nd rfl (.inr rfl)) (lss_cons (ls_set nd rfl (.inl rfl) ((le_lst false ((la_cons (le_str) (la_cons (le_str) (la_cons (le_str) (la_cons (le_str) la_nil))))))))
  (lss_one (ls_if ((lt_cmp (c_ne hu) ((le_lc false rfl nd (li_seq (le_var 8 rfl (.inl rfl))) (own := [("thing", 13)]) (blkOk_by (by kernel_rfl)) (fun _ _ _ _ _ => (lg_name 13 nd rfl (.inl rfl))) (fun _ _ _ _ _ => lts_nil) (fun _ _ _ _ _ => (le_call ((h_has_form t base).mono (by decide)) room gd takes0 rfl (la_cons (le_var 13 rfl (.inl rfl)) (la_cons (le_var 7 rfl (.inr (.inl rfl))) la_nil)))) (by decide))) ((le_lc false rfl nd (li_seq (le_var 8 rfl (.inl rfl))) (own := [("thing", 13)]) (blkOk_by (by kernel_rfl)) (fun _ _ _ _ _ => (lg_name 13 nd rfl (.inl rfl))) (fun _ _ _ _ _ => lts_nil) (fun _ _ _ _ _ => (le_call ((h__law_due t base).mono (by decide)) room gd takes0 rfl (la_cons (le_var 13 rfl (.inl rfl)) (la_cons (le_var 7 rfl (.inr (.inl rfl))) la_nil)))) (by decide))) (nomark _))) (lss_one (ls_ret (le_bl))) lss_nil))))
  (lss_cons (ls_for PassesOwn.leaving rfl (li_seq ((le_lst false ((la_cons (le_str) (la_cons (le_str) (la_cons (le_str) la_nil))))))) (lg_name 9 nd rfl (.inl rfl)) (lss_one (ls_tryQ ((h__law_kind t base).mono (by decide)) room rfl rfl rfl nd rfl rfl (takes_of rfl rfl rfl rfl) rfl (g_LoopError t) (caught t) (by decide) hu (fun _ _ _ tk po => (lss_cons (ls_expr ((le_call ((h_has_form t base).mono (by decide)) room gd tk rfl (la_cons (le_var 9 rfl (.inl rfl)) (la_cons ((le_tup (la_nil))) la_nil)))))
  (lss_one (ls_ret (le_bl))))))))
  (lss_one (ls_ret (le_bl)))))))))))
end
/-! ## the law's own helpers, in plain words -/
theorem number_ok (c : Int) (μ : Mu) : F__law_number [.t (.int c)] μ = .ok (.t (.int (if c < 0 then 0 - c else c))) μ := by
  by_cases h : c < 0 <;> simp [F__law_number, b__law_number, mkF, sSeq, sSet, sIf, sRet, sRetN, sExpr, sSkip, sBreak, dCmpT, dCmp, dVar, dC, dK, dBin, dAdd, dMul, apAdd, apMul, lstOf, dCall, dCons, dNil, dNotT, dAndT, dOrT, dAndV, dOrV, dNotV, dIf, dTru, apT, ap1, ap2, ap2c, bval, rd, g1, dMeth, rdIs, bind_ok, seq_nx, seq_rt, toS_ok, gN, List.map_cons, List.map_nil, List.replicate, List.cons_append, List.nil_append, List.getElem?_cons_zero, List.getElem?_cons_succ, List.set_cons_zero, List.set_cons_succ, List.length_cons, List.length_nil, cLt, fSub, gc, h]
theorem next_at {k : Nat} {μ : Mu} {ds : List Int} (h : μ[k]? = some (.l (ds.map .int))) : F__law_next [.lst k] μ = .ok (.t (.int (ds.getLast?.getD 0))) (μ.set k (.l (ds.dropLast.map .int))) := by
  have hk : k < μ.length := (List.getElem?_eq_some_iff.mp h).1
  rcases List.eq_nil_or_concat ds with rfl | ⟨init, d, rfl⟩
  · have e := set_self' h
    simp only [List.map_nil] at h e
    simp [F__law_next, b__law_next, mkF, sSeq, sSet, sIf, sRet, sRetN, sExpr, sSkip, sBreak, dCmpT, dCmp, dVar, dC, dK, dBin, dAdd, dMul, apAdd, apMul, lstOf, dCall, dCons, dNil, dNotT, dAndT, dOrT, dAndV, dOrV, dNotV, dIf, dTru, apT, ap1, ap2, ap2c, bval, rd, g1, dMeth, rdIs, bind_ok, seq_nx, seq_rt, toS_ok, gN, List.map_cons, List.map_nil, List.replicate, List.cons_append, List.nil_append, List.getElem?_cons_zero, List.getElem?_cons_succ, List.set_cons_zero, List.set_cons_succ, List.length_cons, List.length_nil, truP, h, gc, e]
  · have e1 : ((init.concat d).map PyData.int)[((init.concat d).map PyData.int).length - 1]? = some (.int d) := by simp
    have e2 : ((init.concat d).map PyData.int).dropLast = init.map .int := by simp
    have e3 : ((init.concat d).map PyData.int).isEmpty = false := by simp
    have e4 : (μ.set k (.l (init.map .int))).take μ.length = μ.set k (.l (init.map .int)) := by rw [List.take_of_length_le]; simp
    simp only [F__law_next, b__law_next, mkF, sSeq, sSet, sIf, sRet, sRetN, sExpr, sSkip, sBreak, dCmpT, dCmp, dVar, dC, dK, dBin, dAdd, dMul, apAdd, apMul, lstOf, dCall, dCons, dNil, dNotT, dAndT, dOrT, dAndV, dOrV, dNotV, dIf, dTru, apT, ap1, ap2, ap2c, bval, rd, g1, dMeth, rdIs, bind_ok, seq_nx, seq_rt, toS_ok, gN, List.map_cons, List.map_nil, List.replicate, List.cons_append, List.nil_append, List.getElem?_cons_zero, List.getElem?_cons_succ, List.set_cons_zero, List.set_cons_succ, List.length_cons, List.length_nil, truP, h, gPop, isL, e1, e2, e3, Bool.not_false, if_true, gc, e4]
    simp
theorem next_ok {k : Nat} {μ : Mu} (h : Dr k μ) : ∃ d μ', 0 ≤ d ∧ d < 1000 ∧ F__law_next [.lst k] μ = .ok (.t (.int d)) μ' ∧ Mv k μ μ' := by
  obtain ⟨ds, gd, e⟩ := h
  refine ⟨_, _, ?_, ?_, next_at e, ⟨ds.dropLast, ⟨by rw [List.length_dropLast]; have := gd.1; omega, fun d hd => gd.2 d (List.dropLast_subset _ hd)⟩, rfl⟩⟩
  · cases q : ds.getLast? with
    | none => simp
    | some d => exact (gd.2 d (List.mem_of_getLast? q)).1
  · cases q : ds.getLast? with
    | none => simp
    | some d => exact (gd.2 d (List.mem_of_getLast? q)).2

theorem fMul_r {i j : Int} (h1 : -(2 ^ 64) < j) (h2 : j < 2 ^ 64) : fMul (.int i) (.int j) = some (.int (i * j)) := by
  have e : mulOk i j = true := by unfold mulOk; rw [decide_eq_true h1, decide_eq_true h2]; simp
  simp only [fMul, e, if_true]
theorem fMul_l {i j : Int} (h1 : -(2 ^ 64) < i) (h2 : i < 2 ^ 64) : fMul (.int i) (.int j) = some (.int (i * j)) := by
  have e : mulOk i j = true := by unfold mulOk; rw [decide_eq_true h1, decide_eq_true h2]; simp
  simp only [fMul, e, if_true]
theorem fMod_ok {i j : Int} (h : j ≠ 0) : fMod (.int i) (.int j) = some (.int (i.fmod j)) := by simp only [fMod, h, if_false]
theorem fDiv_ok {i j : Int} (h : j ≠ 0) (h2 : j.natAbs < 1073741824) : fDiv (.int i) (.int j) = some (.int (i.fdiv j)) := by
  have e : divOk j = true := by unfold divOk; rw [decide_eq_true h, decide_eq_true h2]; simp
  simp only [fDiv, e, if_true]
theorem mod1000 (i : Int) : 0 ≤ i.fmod 1000 ∧ i.fmod 1000 < 1000 := ⟨Int.fmod_nonneg_of_pos i (by decide), Int.fmod_lt_of_pos i (by decide)⟩
theorem pick_ok {k : Nat} {μ : Mu} {xs : List PyData} (h : Dr k μ) (hx : xs ≠ []) : ∃ y μ', y ∈ xs ∧ F__law_pick [.lst k, .t (.list xs)] μ = .ok (.t y) μ' ∧ Mv k μ μ' := by
  obtain ⟨d, μ', h0, h1, e, mv⟩ := next_ok h
  have hl : 0 < xs.length := List.length_pos_iff.mpr hx
  have hm : ((xs.length : Nat) : Int) ≠ 0 := by omega
  have b1 : 0 ≤ d.fmod xs.length := Int.fmod_nonneg_of_pos d (by omega)
  have b2 : d.fmod xs.length < xs.length := Int.fmod_lt_of_pos d (by omega)
  have ix : ∃ y, atI xs (d.fmod xs.length) = some y ∧ y ∈ xs := by
    have e : atI xs (d.fmod xs.length) = xs[(d.fmod xs.length).toNat]? := by
      unfold atI ixN
      rw [if_pos b1, if_pos b2]
      rfl
    rw [e, List.getElem?_eq_getElem (by omega)]
    exact ⟨_, rfl, List.getElem_mem _⟩
  obtain ⟨y, e2, hy⟩ := ix
  refine ⟨y, μ', hy, ?_, mv⟩
  have tk : μ'.take μ.length = μ' := by rw [List.take_of_length_le]; rw [mv.len]; exact Nat.le_refl _
  simp only [F__law_pick, b__law_pick, mkF, sSeq, sSet, sIf, sRet, sRetN, sExpr, sSkip, sBreak, dCmpT, dCmp, dVar, dC, dK, dBin, dAdd, dMul, apAdd, apMul, lstOf, dCall, dCons, dNil, dNotT, dAndT, dOrT, dAndV, dOrV, dNotV, dIf, dTru, apT, ap1, ap2, ap2c, bval, rd, g1, dMeth, rdIs, bind_ok, seq_nx, seq_rt, toS_ok, gN, List.map_cons, List.map_nil, List.replicate, List.cons_append, List.nil_append, List.getElem?_cons_zero, List.getElem?_cons_succ, List.set_cons_zero, List.set_cons_succ, List.length_cons, List.length_nil, dIx, apIx, e, fInt, fLen, fMod_ok hm, ixP, e2, gc, tk, if_true, ne_eq, not_false_eq_true]

abbrev moreS : DS := sSeq (sSet 2 ((dBin fMod ((dCall (g1 fInt) (dCons ((dAdd false ((dMul false (dVar 2) (dC (.int 48271)))) (dC (.int 12345)))) dNil))) (dC (.int 2147483647)))))
  (sExpr ((dMeth isL gAppend (dVar 3) (dCons ((dBin fMod ((dCall (g1 fInt) (dCons ((dBin fDiv (dVar 2) (dC (.int 7)))) dNil))) (dC (.int 1000)))) dNil))))
def moreI (k n L : Nat) (μ2 : Mu) (j : Nat) (δ : Sl) (μ : Mu) : Prop := ∃ (s : Int) (x : Option D) (ms : List Int), δ = [some (.lst k), some (.t (.int n)), some (.t (.int s)), some (.lst L), x] ∧ μ = μ2 ++ [.l (ms.map .int)] ∧ ms.length ≤ j ∧ ∀ d ∈ ms, 0 ≤ d ∧ d < 1000
theorem append_ok {μ : Mu} {k : Nat} {xs : List PyData} {y : PyData} (h : μ[k]? = some (.l xs)) (z : xs.length < sizeLine) : gAppend (.lst k) [.t y] μ = .ok (.t .none) (μ.set k (.l (xs ++ [y]))) := by
  simp only [gAppend, h, z, if_true]
theorem more_step {k n L : Nat} {μ2 : Mu} (hL : L = μ2.length) (s : Int) (x : D) (ms : List Int) (few : ms.length < sizeLine) :
    moreS [some (.lst k), some (.t (.int n)), some (.t (.int s)), some (.lst L), some x] (μ2 ++ [.l (ms.map .int)]) = .nx [some (.lst k), some (.t (.int n)), some (.t (.int ((s * 48271 + 12345).fmod 2147483647))), some (.lst L), some x] (μ2 ++ [.l ((ms ++ [(((s * 48271 + 12345).fmod 2147483647).fdiv 7).fmod 1000]).map .int)]) := by
  subst hL
  have at_ : (μ2 ++ [O.l (ms.map PyData.int)])[μ2.length]? = some (.l (ms.map .int)) := by simp
  have few' : (ms.map PyData.int).length < sizeLine := by rw [List.length_map]; exact few
  have ap := fun y => append_ok (y := y) at_ few'
  have st : ∀ q, (μ2 ++ [O.l (ms.map PyData.int)]).set μ2.length q = μ2 ++ [q] := by intro q; simp
  simp only [moreS, mkF, sSeq, sSet, sIf, sRet, sRetN, sExpr, sSkip, sBreak, dCmpT, dCmp, dVar, dC, dK, dBin, dAdd, dMul, apAdd, apMul, lstOf, dCall, dCons, dNil, dNotT, dAndT, dOrT, dAndV, dOrV, dNotV, dIf, dTru, apT, ap1, ap2, ap2c, bval, rd, g1, dMeth, rdIs, bind_ok, seq_nx, seq_rt, toS_ok, gN, List.map_cons, List.map_nil, List.replicate, List.cons_append, List.nil_append, List.getElem?_cons_zero, List.getElem?_cons_succ, List.set_cons_zero, List.set_cons_succ, List.length_cons, List.length_nil, fMul_r (show -(2 ^ 64) < (48271 : Int) by decide) (show (48271 : Int) < 2 ^ 64 by decide), fAdd, fInt, fMod_ok (show (2147483647 : Int) ≠ 0 by decide), fDiv_ok (show (7 : Int) ≠ 0 by decide) (by decide), fMod_ok (show (1000 : Int) ≠ 0 by decide), at_, isL, ap, if_true, st, List.map_append]

theorem range_ok {n : Nat} {μ : Mu} (h : n ≤ 1000000) : apR1D (.t (.int n)) μ = .ok (intsFrom 0 n, none) μ := by
  have e1 : -(2 ^ 62) ≤ (0 : Int) := by decide
  have e2 : (0 : Int) < 2 ^ 62 := by decide
  have e3 : -(2 ^ 62) ≤ ((n : Nat) : Int) := Int.le_trans e1 (Int.natCast_nonneg n)
  have e4 : ((n : Nat) : Int) < 2 ^ 62 := Int.lt_of_le_of_lt (Int.ofNat_le.mpr h) (by decide)
  have e5 : (((n : Nat) : Int) - 0).toNat = n := by omega
  unfold apR1D apR2
  dsimp only
  rw [if_pos ⟨e1, e2, e3, e4, by rw [e5]; exact h⟩, e5]
theorem dRange1_ok {da : DE} {δ : Sl} {n : Nat} {μ μ' : Mu} (h : n ≤ 1000000) (e : da δ μ = .ok (.t (.int n)) μ') : dRange1 da δ μ = .ok (intsFrom 0 n, none) μ' := by
  unfold dRange1
  rw [e, bind_ok]
  exact range_ok h
theorem more_loop {k n : Nat} {μ2 : Mu} (hn : n ≤ 20000) (s0 : Int) : ∃ j δ' μ', j ≤ n ∧ forL (chk (intsFrom 0 n, none)) (gN 4) moreS (intsFrom 0 n) [some (.lst k), some (.t (.int n)), some (.t (.int s0)), some (.lst μ2.length), none] (μ2 ++ [.l []]) = .nx δ' μ' ∧ moreI k n μ2.length μ2 j δ' μ' := by
  refine forL_inv (moreI k n μ2.length μ2) n (fun _ => rfl) (intsFrom 0 n) 0 _ (μ2 ++ [.l []]) ⟨s0, none, [], rfl, rfl, Nat.le_refl _, fun d hd => by cases hd⟩ (by rw [intsFrom_length]; omega) ?_
  rintro y hy i δ μ hi ⟨s, x, ms, rfl, rfl, hm, ha⟩
  refine ⟨_, _, _, _, rfl, ?_, .inl (more_step rfl s (.t y) ms (by rw [sizeLine_eq]; omega))⟩
  refine ⟨_, _, _, rfl, rfl, by rw [List.length_append, List.length_singleton]; omega, ?_⟩
  intro d hd
  rcases List.mem_append.mp hd with hd | hd
  · exact ha d hd
  · rw [List.mem_singleton] at hd
    rw [hd]
    exact mod1000 _
theorem for_run {di : DI} {g : DG} {s : DS} {δ δ' : Sl} {μ μ1 μ' : Mu} {p : It'} (h1 : di δ μ = .ok p μ1) (h2 : forL (chk p) g s p.1 δ μ1 = .nx δ' μ') : sFor di g s δ μ = .nx δ' μ' := by
  unfold sFor
  rw [h1, toS_ok]
  exact h2
theorem newLive_ok {k : Nat} {μ : Mu} {x y : D} {xs ys : List PyData} (h1 : lstOf μ x = some xs) (h2 : lstOf μ y = some ys) (z : xs.length + ys.length ≤ sizeLine) : apAdd true x y μ = .ok (.lst μ.length) (μ ++ [.l (xs ++ ys)]) := by
  simp only [apAdd, h1, h2, z, if_true, newL]
theorem more_body {k n : Nat} {μ μ1 μ2 : Mu} {a b : Int} {δ' : Sl} {xs ys : List PyData} (e1 : F__law_next [.lst k] μ = .ok (.t (.int a)) μ1) (e2 : F__law_next [.lst k] μ1 = .ok (.t (.int b)) μ2)
    (fr : sFor (dRange1 (dVar 1)) (gN 4) moreS [some (.lst k), some (.t (.int n)), some (.t (.int (1000 * a + b + 1))), some (.lst μ2.length), none] (μ2 ++ [.l []]) = .nx δ' (μ2 ++ [.l xs])) (h0 : δ'[0]? = some (some (.lst k))) (h3 : δ'[3]? = some (some (.lst μ2.length)))
    (ad : apAdd true (.lst μ2.length) (.lst k) (μ2 ++ [.l xs]) = .ok (.lst (μ2.length + 1)) (μ2 ++ [.l xs] ++ [.l ys])) :
    b__law_more [some (.lst k), some (.t (.int n)), none, none, none] μ = .rt (.lst (μ2.length + 1)) (μ2 ++ [.l xs] ++ [.l ys]) := by
  have s1 : (dAdd false ((dAdd false ((dMul false (dC (.int 1000)) ((dCall F__law_next (dCons (dVar 0) dNil))))) ((dCall F__law_next (dCons (dVar 0) dNil))))) (dC (.int 1))) [some (.lst k), some (.t (.int n)), none, none, none] μ = .ok (.t (.int (1000 * a + b + 1))) μ2 := by
    simp only [mkF, sSeq, sSet, sIf, sRet, sRetN, sExpr, sSkip, sBreak, dCmpT, dCmp, dVar, dC, dK, dBin, dAdd, dMul, apAdd, apMul, lstOf, dCall, dCons, dNil, dNotT, dAndT, dOrT, dAndV, dOrV, dNotV, dIf, dTru, apT, ap1, ap2, ap2c, bval, rd, g1, dMeth, rdIs, bind_ok, seq_nx, seq_rt, toS_ok, gN, List.map_cons, List.map_nil, List.replicate, List.cons_append, List.nil_append, List.getElem?_cons_zero, List.getElem?_cons_succ, List.set_cons_zero, List.set_cons_succ, List.length_cons, List.length_nil, e1, e2, fMul_l (show -(2 ^ 64) < (1000 : Int) by decide) (show (1000 : Int) < 2 ^ 64 by decide), fAdd]
  have s2 : (dLst true dNil) [some (.lst k), some (.t (.int n)), some (.t (.int (1000 * a + b + 1))), none, none] μ2 = .ok (.lst μ2.length) (μ2 ++ [.l []]) := rfl
  show (sSeq (sSet 2 _) (sSeq (sSet 3 (dLst true dNil)) (sSeq (sFor (dRange1 (dVar 1)) (gN 4) moreS) (sRet (dAdd true (dVar 3) (dVar 0)))))) _ μ = _
  unfold sSeq
  have t1 : sSet 2 (dAdd false ((dAdd false ((dMul false (dC (.int 1000)) ((dCall F__law_next (dCons (dVar 0) dNil))))) ((dCall F__law_next (dCons (dVar 0) dNil))))) (dC (.int 1))) [some (.lst k), some (.t (.int n)), none, none, none] μ = .nx [some (.lst k), some (.t (.int n)), some (.t (.int (1000 * a + b + 1))), none, none] μ2 := by
    unfold sSet; rw [s1]; rfl
  have t2 : sSet 3 (dLst true dNil) [some (.lst k), some (.t (.int n)), some (.t (.int (1000 * a + b + 1))), none, none] μ2 = .nx [some (.lst k), some (.t (.int n)), some (.t (.int (1000 * a + b + 1))), some (.lst μ2.length), none] (μ2 ++ [.l []]) := by
    unfold sSet; rw [s2]; rfl
  rw [t1, seq_nx, t2, seq_nx, fr, seq_nx]
  simp only [sRet, dAdd, dVar, h0, h3, bind_ok, ad, toS_ok]
theorem more_ok {k n : Nat} {μ : Mu} {ds : List Int} (g : ∀ d ∈ ds, 0 ≤ d ∧ d < 1000) (hz : ds.length + n ≤ 20000) (h : μ[k]? = some (.l (ds.map .int))) : ∃ μ' es, Mv k μ μ' ∧ Good es ∧ F__law_more [.lst k, .t (.int n)] μ = .ok (.lst μ.length) (μ' ++ [.l (es.map .int)]) := by
  have dr : Dr k μ := ⟨ds, ⟨by omega, g⟩, h⟩
  have hk : k < μ.length := dr.lt
  have e1 := next_at h
  have h1 : (μ.set k (.l (ds.dropLast.map .int)))[k]? = some (.l (ds.dropLast.map .int)) := List.getElem?_set_self hk
  have e2 := next_at h1
  rw [List.set_set] at e2
  generalize hμ : μ.set k (O.l (ds.dropLast.dropLast.map .int)) = μ2 at e2
  have l2 : μ.length = μ2.length := by rw [← hμ, List.length_set]
  have gd : ∀ d ∈ ds.dropLast.dropLast, 0 ≤ d ∧ d < 1000 := fun d hd => g d (List.dropLast_subset _ (List.dropLast_subset _ hd))
  have h2 : μ2[k]? = some (.l (ds.dropLast.dropLast.map .int)) := by rw [← hμ]; exact List.getElem?_set_self hk
  obtain ⟨j, δ', μ', hj, el, s, x, ms, rfl, rfl, hm, ha⟩ := more_loop (k := k) (n := n) (μ2 := μ2) (by omega) (1000 * (ds.getLast?.getD 0) + (ds.dropLast.getLast?.getD 0) + 1)
  have dl : ds.dropLast.dropLast.length ≤ ds.length := by simp only [List.length_dropLast]; omega
  refine ⟨μ2, ms ++ ds.dropLast.dropLast, ⟨ds.dropLast.dropLast, ⟨by omega, gd⟩, hμ.symm⟩, ⟨by rw [List.length_append]; omega, ?_⟩, ?_⟩
  · intro d hd
    rcases List.mem_append.mp hd with hd | hd
    · exact ha d hd
    · exact gd d hd
  · have at3 : lstOf (μ2 ++ [O.l (ms.map PyData.int)]) (.lst μ2.length) = some (ms.map .int) := by unfold lstOf; simp
    have at0 : lstOf (μ2 ++ [O.l (ms.map PyData.int)]) (.lst k) = some (ds.dropLast.dropLast.map .int) := by
      unfold lstOf
      dsimp only
      rw [List.getElem?_append_left (by omega), h2]
    have zz : (ms.map PyData.int).length + (ds.dropLast.dropLast.map PyData.int).length ≤ sizeLine := by rw [List.length_map, List.length_map, sizeLine_eq]; omega
    have ad := newLive_ok (k := k) at3 at0 zz
    have fr := for_run (di := dRange1 (dVar 1)) (δ := [some (.lst k), some (.t (.int n)), some (.t (.int (1000 * (ds.getLast?.getD 0) + (ds.dropLast.getLast?.getD 0) + 1))), some (.lst μ2.length), none]) (μ := μ2 ++ [.l []]) (p := (intsFrom 0 n, none)) (dRange1_ok (by omega) rfl) el
    have body := more_body (xs := ms.map .int) (ys := ms.map .int ++ ds.dropLast.dropLast.map .int) e1 e2 fr rfl rfl (by rw [ad, List.length_append, List.length_singleton])
    have e3 := mkF_rt (n := 2) (m := 3) (live := true) (args := [.lst k, .t (.int n)]) rfl body
    show mkF 2 3 true b__law_more [.lst k, .t (.int n)] μ = _
    rw [e3, l2]
    unfold gc
    simp

abbrev innerS : DS := sSeq (sIf ((dCmpT cEq (dVar 3) (dC (.int 0)))) sBreak sSkip)
  (sSeq (sExpr ((dMeth isL gAppend (dVar 1) (dCons ((dBin fMod ((dCall (g1 fInt) (dCons (dVar 3) dNil))) (dC (.int 1000)))) dNil))))
  (sSet 3 ((dBin fDiv (dVar 3) (dC (.int 1000))))))
abbrev smallS : DS := sSeq (sSet 5 ((dBin fMod ((dCall (g1 fInt) (dCons ((dAdd false ((dMul false (dVar 3) (dC (.int 48271)))) (dC (.int 11)))) dNil))) (dC (.int 2147483647)))))
  (sSeq (sSet 6 ((dBin fMod ((dCall (g1 fInt) (dCons ((dAdd false ((dMul false (dVar 5) (dC (.int 69621)))) (dVar 3))) dNil))) (dC (.int 2147483629)))))
  (sExpr ((dMeth isL gExtend (dVar 1) (dCons ((dLst false ((dCons ((dBin fMod ((dCall (g1 fInt) (dCons (dVar 3) dNil))) (dC (.int 1000)))) (dCons ((dBin fMod ((dCall (g1 fInt) (dCons (dVar 5) dNil))) (dC (.int 1000)))) (dCons ((dBin fMod ((dCall (g1 fInt) (dCons (dVar 6) dNil))) (dC (.int 1000)))) dNil)))))) dNil)))))
abbrev outerS : DS := sSeq (sSet 3 ((dCall F__law_number (dCons (dVar 2) dNil))))
  (sIf ((dCmpT cGe (dVar 3) (dC (.int 1000000000000000000)))) (sFor (dRange1 (dC (.int 60))) (gN 4) innerS) smallS)
theorem inner_zero {X : D} {a2 a4 a5 a6 : Option D} {ds : List Int} : innerS [some X, some (.lst 0), a2, some (.t (.int 0)), a4, a5, a6] [.l (ds.map .int)] = .bk [some X, some (.lst 0), a2, some (.t (.int 0)), a4, a5, a6] [.l (ds.map .int)] := rfl
theorem inner_more {X : D} {a2 a4 a5 a6 : Option D} {ds : List Int} {r : Int} (h : r ≠ 0) (z : ds.length < sizeLine) : innerS [some X, some (.lst 0), a2, some (.t (.int r)), a4, a5, a6] [.l (ds.map .int)] = .nx [some X, some (.lst 0), a2, some (.t (.int (r.fdiv 1000))), a4, a5, a6] [.l ((ds ++ [r.fmod 1000]).map .int)] := by
  have at_ : ([O.l (ds.map PyData.int)] : Mu)[0]? = some (.l (ds.map .int)) := rfl
  have ap := fun y => append_ok (y := y) at_ (by rw [List.length_map]; exact z)
  have hb : (r == 0) = false := beq_false_of_ne h
  simp only [innerS, mkF, sSeq, sSet, sIf, sRet, sRetN, sExpr, sSkip, sBreak, dCmpT, dCmp, dVar, dC, dK, dBin, dAdd, dMul, apAdd, apMul, lstOf, dCall, dCons, dNil, dNotT, dAndT, dOrT, dAndV, dOrV, dNotV, dIf, dTru, apT, ap1, ap2, ap2c, bval, rd, g1, dMeth, rdIs, bind_ok, seq_nx, seq_rt, toS_ok, gN, List.map_cons, List.map_nil, List.replicate, List.cons_append, List.nil_append, List.getElem?_cons_zero, List.getElem?_cons_succ, List.set_cons_zero, List.set_cons_succ, List.length_cons, List.length_nil, cEq, hb, Bool.false_eq_true, if_false, at_, isL, if_true, fInt, fMod_ok (show (1000 : Int) ≠ 0 by decide), ap, fDiv_ok (show (1000 : Int) ≠ 0 by decide) (by decide), List.map_append]
theorem small_ok {X : D} {a2 a4 a5 a6 : Option D} {ds : List Int} {r : Int} (z : ds.length + 3 ≤ sizeLine) : ∃ es : List Int, es.length = 3 ∧ (∀ d ∈ es, 0 ≤ d ∧ d < 1000) ∧ ∃ b5 b6, smallS [some X, some (.lst 0), a2, some (.t (.int r)), a4, a5, a6] [.l (ds.map .int)] = .nx [some X, some (.lst 0), a2, some (.t (.int r)), a4, b5, b6] [.l ((ds ++ es).map .int)] := by
  refine ⟨[r.fmod 1000, ((r * 48271 + 11).fmod 2147483647).fmod 1000, ((((r * 48271 + 11).fmod 2147483647) * 69621 + r).fmod 2147483629).fmod 1000], rfl, ?_, some (.t (.int ((r * 48271 + 11).fmod 2147483647))), some (.t (.int ((((r * 48271 + 11).fmod 2147483647) * 69621 + r).fmod 2147483629))), ?_⟩
  · intro d hd
    simp only [List.mem_cons, List.not_mem_nil, or_false] at hd
    rcases hd with rfl | rfl | rfl <;> exact mod1000 _
  · have at_ : ([O.l (ds.map PyData.int)] : Mu)[0]? = some (.l (ds.map .int)) := rfl
    have z' : (ds.map PyData.int).length + 3 ≤ sizeLine := by rw [List.length_map]; exact z
    have z3 : 3 ≤ sizeLine := by omega
    simp only [smallS, mkF, sSeq, sSet, sIf, sRet, sRetN, sExpr, sSkip, sBreak, dCmpT, dCmp, dVar, dC, dK, dBin, dAdd, dMul, apAdd, apMul, lstOf, dCall, dCons, dNil, dNotT, dAndT, dOrT, dAndV, dOrV, dNotV, dIf, dTru, apT, ap1, ap2, ap2c, bval, rd, g1, dMeth, rdIs, bind_ok, seq_nx, seq_rt, toS_ok, gN, List.map_cons, List.map_nil, List.replicate, List.cons_append, List.nil_append, List.getElem?_cons_zero, List.getElem?_cons_succ, List.set_cons_zero, List.set_cons_succ, List.length_cons, List.length_nil, fMul_r (show -(2 ^ 64) < (48271 : Int) by decide) (show (48271 : Int) < 2 ^ 64 by decide), fMul_r (show -(2 ^ 64) < (69621 : Int) by decide) (show (69621 : Int) < 2 ^ 64 by decide), fAdd, fInt, fMod_ok (show (2147483647 : Int) ≠ 0 by decide), fMod_ok (show (2147483629 : Int) ≠ 0 by decide), fMod_ok (show (1000 : Int) ≠ 0 by decide), at_, isL, if_true, dLst, mkLst, allT, newL, Nat.zero_add, Nat.reduceAdd, z3, Bool.false_eq_true, if_false, Option.map_some, gExtend, z', List.map_append]
def drI (X : D) (B : Nat) (j : Nat) (δ : Sl) (μ : Mu) : Prop := ∃ (r : Int) (a2 a4 a5 a6 : Option D) (ds : List Int), δ = [some X, some (.lst 0), a2, some (.t (.int r)), a4, a5, a6] ∧ μ = [.l (ds.map .int)] ∧ ds.length ≤ B + j ∧ ∀ d ∈ ds, 0 ≤ d ∧ d < 1000
theorem inner_loop {X : D} {B : Nat} (hB : B ≤ 19000) {δ : Sl} {μ : Mu} (h : drI X B 0 δ μ) : ∃ j δ' μ', j ≤ 60 ∧ forL (chk (intsFrom 0 60, none)) (gN 4) innerS (intsFrom 0 60) δ μ = .nx δ' μ' ∧ drI X B j δ' μ' := by
  refine forL_inv (drI X B) 60 (fun _ => rfl) (intsFrom 0 60) 0 δ μ h (by rw [intsFrom_length]; decide) ?_
  rintro y hy i δ μ hi ⟨r, a2, a4, a5, a6, ds, rfl, rfl, hl, hd⟩
  by_cases hr : r = 0
  · subst hr
    exact ⟨_, _, _, _, rfl, ⟨0, a2, some (.t y), a5, a6, ds, rfl, rfl, by omega, hd⟩, .inr (.inr inner_zero)⟩
  · refine ⟨_, _, _, _, rfl, ⟨r.fdiv 1000, a2, some (.t y), a5, a6, ds ++ [r.fmod 1000], rfl, rfl, by rw [List.length_append, List.length_singleton]; omega, ?_⟩, .inl (inner_more hr (by rw [sizeLine_eq]; omega))⟩
    intro d hd'
    rcases List.mem_append.mp hd' with hd' | hd'
    · exact hd d hd'
    · rw [List.mem_singleton] at hd'
      rw [hd']
      exact mod1000 _
def oI (X : D) (j : Nat) (δ : Sl) (μ : Mu) : Prop := ∃ (a2 a3 a4 a5 a6 : Option D) (ds : List Int), δ = [some X, some (.lst 0), a2, a3, a4, a5, a6] ∧ μ = [.l (ds.map .int)] ∧ ds.length ≤ 60 * j ∧ ∀ d ∈ ds, 0 ≤ d ∧ d < 1000
theorem outer_step {X : D} {i : Nat} (hi : i < 63) (c : Int) {δ : Sl} {μ : Mu} (h : oI X i δ μ) : ∃ δ1 μ1 δ2 μ2, gN 2 (.t (.int c)) δ μ = .nx δ1 μ1 ∧ oI X (i + 1) δ2 μ2 ∧ (outerS δ1 μ1 = .nx δ2 μ2 ∨ outerS δ1 μ1 = .ct δ2 μ2 ∨ outerS δ1 μ1 = .bk δ2 μ2) := by
  obtain ⟨a2, a3, a4, a5, a6, ds, rfl, rfl, hl, hd⟩ := h
  generalize hr : (if c < 0 then 0 - c else c) = r
  have s1 : sSet 3 (dCall F__law_number (dCons (dVar 2) dNil)) [some X, some (.lst 0), some (.t (.int c)), a3, a4, a5, a6] [.l (ds.map .int)] = .nx [some X, some (.lst 0), some (.t (.int c)), some (.t (.int r)), a4, a5, a6] [.l (ds.map .int)] := by
    simp only [mkF, sSeq, sSet, sIf, sRet, sRetN, sExpr, sSkip, sBreak, dCmpT, dCmp, dVar, dC, dK, dBin, dAdd, dMul, apAdd, apMul, lstOf, dCall, dCons, dNil, dNotT, dAndT, dOrT, dAndV, dOrV, dNotV, dIf, dTru, apT, ap1, ap2, ap2c, bval, rd, g1, dMeth, rdIs, bind_ok, seq_nx, seq_rt, toS_ok, gN, List.map_cons, List.map_nil, List.replicate, List.cons_append, List.nil_append, List.getElem?_cons_zero, List.getElem?_cons_succ, List.set_cons_zero, List.set_cons_succ, List.length_cons, List.length_nil, number_ok, hr]
  by_cases big : r ≥ 1000000000000000000
  · obtain ⟨j, δ', μ', hj, e, r', b2, b4, b5, b6, es, rfl, rfl, hl', hd'⟩ := inner_loop (X := X) (B := 60 * i) (by omega) (δ := [some X, some (.lst 0), some (.t (.int c)), some (.t (.int r)), a4, a5, a6]) (μ := [.l (ds.map .int)]) ⟨r, _, _, _, _, ds, rfl, rfl, by omega, hd⟩
    refine ⟨_, _, _, _, rfl, ⟨b2, some (.t (.int r')), b4, b5, b6, es, rfl, rfl, by omega, hd'⟩, .inl ?_⟩
    show (sSeq (sSet 3 _) (sIf _ _ _)) _ _ = _
    unfold sSeq
    rw [List.set_cons_succ, List.set_cons_succ, List.set_cons_zero, s1, seq_nx]
    have tst : (dCmpT cGe (dVar 3) (dC (.int 1000000000000000000))) [some X, some (.lst 0), some (.t (.int c)), some (.t (.int r)), a4, a5, a6] [.l (ds.map .int)] = .ok true [.l (ds.map .int)] := by
      simp only [mkF, sSeq, sSet, sIf, sRet, sRetN, sExpr, sSkip, sBreak, dCmpT, dCmp, dVar, dC, dK, dBin, dAdd, dMul, apAdd, apMul, lstOf, dCall, dCons, dNil, dNotT, dAndT, dOrT, dAndV, dOrV, dNotV, dIf, dTru, apT, ap1, ap2, ap2c, bval, rd, g1, dMeth, rdIs, bind_ok, seq_nx, seq_rt, toS_ok, gN, List.map_cons, List.map_nil, List.replicate, List.cons_append, List.nil_append, List.getElem?_cons_zero, List.getElem?_cons_succ, List.set_cons_zero, List.set_cons_succ, List.length_cons, List.length_nil, cGe, decide_eq_true big]
    unfold sIf
    rw [tst, toS_ok, if_pos rfl]
    exact for_run (dRange1_ok (n := 60) (by decide) rfl) e
  · obtain ⟨es, h3, hes, b5, b6, e⟩ := small_ok (X := X) (a2 := some (.t (.int c))) (a4 := a4) (a5 := a5) (a6 := a6) (ds := ds) (r := r) (by rw [sizeLine_eq]; omega)
    refine ⟨_, _, _, _, rfl, ⟨some (.t (.int c)), some (.t (.int r)), a4, b5, b6, ds ++ es, rfl, rfl, by rw [List.length_append]; omega, ?_⟩, .inl ?_⟩
    · intro d hd'
      rcases List.mem_append.mp hd' with hd' | hd'
      · exact hd d hd'
      · exact hes d hd'
    · show (sSeq (sSet 3 _) (sIf _ _ _)) _ _ = _
      unfold sSeq
      rw [List.set_cons_succ, List.set_cons_succ, List.set_cons_zero, s1, seq_nx]
      have tst : (dCmpT cGe (dVar 3) (dC (.int 1000000000000000000))) [some X, some (.lst 0), some (.t (.int c)), some (.t (.int r)), a4, a5, a6] [.l (ds.map .int)] = .ok false [.l (ds.map .int)] := by
        simp only [mkF, sSeq, sSet, sIf, sRet, sRetN, sExpr, sSkip, sBreak, dCmpT, dCmp, dVar, dC, dK, dBin, dAdd, dMul, apAdd, apMul, lstOf, dCall, dCons, dNil, dNotT, dAndT, dOrT, dAndV, dOrV, dNotV, dIf, dTru, apT, ap1, ap2, ap2c, bval, rd, g1, dMeth, rdIs, bind_ok, seq_nx, seq_rt, toS_ok, gN, List.map_cons, List.map_nil, List.replicate, List.cons_append, List.nil_append, List.getElem?_cons_zero, List.getElem?_cons_succ, List.set_cons_zero, List.set_cons_succ, List.length_cons, List.length_nil, cGe, decide_eq_false big]
      unfold sIf
      rw [tst, toS_ok, if_neg Bool.false_ne_true]
      exact e
theorem draws_ok (ns : List Int) (h : ns.length ≤ 63) : ∃ ds : List Int, ds.length ≤ 3780 ∧ (∀ d ∈ ds, 0 ≤ d ∧ d < 1000) ∧ F__law_draws [.fz (ns.map .int)] [] = .ok (.lst 0) [.l (ds.map .int)] := by
  have lp := forL_inv (ok := chk (ns.map PyData.int, none)) (g := gN 2) (s := outerS) (oI (.fz (ns.map .int))) 63 (fun _ => rfl) (ns.map .int) 0 [some (.fz (ns.map .int)), some (.lst 0), none, none, none, none, none] [.l []] ⟨none, none, none, none, none, [], rfl, rfl, by decide, fun d hd => by cases hd⟩ (by rw [List.length_map]; omega) ?_
  · obtain ⟨j, δ', μ', hj, e, a2, a3, a4, a5, a6, ds, rfl, rfl, hl, hd⟩ := lp
    refine ⟨ds.reverse, by rw [List.length_reverse]; omega, fun d hd' => hd d (List.mem_reverse.mp hd'), ?_⟩
    have fr : sFor (dSeqI (dVar 0)) (gN 2) outerS [some (.fz (ns.map .int)), some (.lst 0), none, none, none, none, none] [.l []] = .nx [some (.fz (ns.map .int)), some (.lst 0), a2, a3, a4, a5, a6] [.l (ds.map .int)] := for_run (p := (ns.map .int, none)) rfl e
    have rv : sExpr (dMeth isL gReverse (dVar 1) dNil) [some (.fz (ns.map .int)), some (.lst 0), a2, a3, a4, a5, a6] [.l (ds.map .int)] = .nx [some (.fz (ns.map .int)), some (.lst 0), a2, a3, a4, a5, a6] [.l (ds.reverse.map .int)] := by
      simp only [mkF, sSeq, sSet, sIf, sRet, sRetN, sExpr, sSkip, sBreak, dCmpT, dCmp, dVar, dC, dK, dBin, dAdd, dMul, apAdd, apMul, lstOf, dCall, dCons, dNil, dNotT, dAndT, dOrT, dAndV, dOrV, dNotV, dIf, dTru, apT, ap1, ap2, ap2c, bval, rd, g1, dMeth, rdIs, bind_ok, seq_nx, seq_rt, toS_ok, gN, List.map_cons, List.map_nil, List.replicate, List.cons_append, List.nil_append, List.getElem?_cons_zero, List.getElem?_cons_succ, List.set_cons_zero, List.set_cons_succ, List.length_cons, List.length_nil, isL, gReverse, if_true, List.map_reverse]
    have body : b__law_draws [some (.fz (ns.map .int)), none, none, none, none, none, none] [] = .rt (.lst 0) [.l (ds.reverse.map .int)] := by
      show (sSeq (sSet 1 (dLst true dNil)) (sSeq (sFor (dSeqI (dVar 0)) (gN 2) outerS) (sSeq (sExpr (dMeth isL gReverse (dVar 1) dNil)) (sRet (dVar 1))))) _ _ = _
      have t1 : sSet 1 (dLst true dNil) [some (.fz (ns.map .int)), none, none, none, none, none, none] [] = .nx [some (.fz (ns.map .int)), some (.lst 0), none, none, none, none, none] [.l []] := rfl
      unfold sSeq
      rw [t1, seq_nx, fr, seq_nx, rv, seq_nx]
      rfl
    have e3 := mkF_rt (n := 1) (m := 6) (live := true) (args := [.fz (ns.map .int)]) rfl body
    show mkF 1 6 true b__law_draws [.fz (ns.map .int)] [] = _
    rw [e3]
    rfl
  · intro x hx i δ μ hi hI
    obtain ⟨c, _, rfl⟩ := List.mem_map.mp hx
    exact outer_step hi c hI

/-! ## forms -/
def tupB (p : PyData → Bool) : PyData → Bool
  | .tuple xs => xs.all p
  | _ => false
mutual
/-- all tuples within have at most N items -/
def smN (N : Nat) : PyData → Bool
  | .tuple xs => decide (xs.length ≤ N) && smL N xs
  | _ => true
def smL (N : Nat) : List PyData → Bool
  | [] => true
  | x :: xs => smN N x && smL N xs
end
theorem smL_mem {N : Nat} : ∀ {xs : List PyData} {x : PyData}, smL N xs = true → x ∈ xs → smN N x = true
  | [], _, _, h => by cases h
  | y :: ys, x, h, hx => by
    rw [smL, Bool.and_eq_true] at h
    rcases List.mem_cons.mp hx with rfl | hx
    · exact h.1
    · exact smL_mem h.2 hx
theorem smL_of {N : Nat} : ∀ {xs : List PyData}, (∀ x ∈ xs, smN N x = true) → smL N xs = true
  | [], _ => rfl
  | y :: ys, h => by rw [smL, h y (by simp), smL_of fun x hx => h x (by simp [hx])]; rfl
theorem smN_tup {N : Nat} {xs : List PyData} (h : smN N (.tuple xs) = true) : xs.length ≤ N ∧ ∀ x ∈ xs, smN N x = true := by
  rw [smN, Bool.and_eq_true, decide_eq_true_eq] at h
  exact ⟨h.1, fun x hx => smL_mem h.2 hx⟩
theorem smN_of {N : Nat} {xs : List PyData} (h : xs.length ≤ N) (h2 : ∀ x ∈ xs, smN N x = true) : smN N (.tuple xs) = true := by
  rw [smN, decide_eq_true h, smL_of h2]
  rfl
mutual
theorem smN_mono {N M : Nat} (h : N ≤ M) : ∀ d : PyData, smN N d = true → smN M d = true
  | .tuple xs, q => by
    rw [smN, Bool.and_eq_true, decide_eq_true_eq] at q ⊢
    exact ⟨Nat.le_trans q.1 h, smL_mono h xs q.2⟩
  | .none, _ => by simp [smN]
  | .bool _, _ => by simp [smN]
  | .int _, _ => by simp [smN]
  | .str _, _ => by simp [smN]
  | .list _, _ => by simp [smN]
  | .dict _, _ => by simp [smN]
theorem smL_mono {N M : Nat} (h : N ≤ M) : ∀ ds : List PyData, smL N ds = true → smL M ds = true
  | [], _ => by simp [smL]
  | d :: ds, q => by
    rw [smL, Bool.and_eq_true] at q ⊢
    exact ⟨smN_mono h d q.1, smL_mono h ds q.2⟩
end
abbrev smB : PyData → Bool := smN 1000
theorem smB_tup {xs : List PyData} (h : smB (.tuple xs) = true) : xs.length ≤ 1000 ∧ ∀ x ∈ xs, smB x = true := smN_tup h
theorem blsOf_map (p : PyData → Bool) : ∀ xs : List PyData, blsOf (xs.map fun x => .bool (p x)) = some (xs.map p)
  | [] => rfl
  | x :: xs => by rw [List.map_cons, blsOf, blsOf_map p xs]; rfl
theorem all_ok {a : DE} {δ : Sl} {μ μ' : Mu} {xs : List PyData} (p : PyData → Bool) (h : a δ μ = .ok (.t (.list (xs.map fun x => .bool (p x)))) μ') : dCall (g1 fAll) (dCons a dNil) δ μ = .ok (.t (.bool (xs.all p))) μ' := by
  refine call1_ok h ?_
  unfold g1 ap1 rd
  dsimp only
  unfold fAll
  dsimp only
  rw [blsOf_map]
  simp only [Option.map_some, List.all_map]
  rfl
theorem isi_ok {a : DE} {δ : Sl} {μ μ' : Mu} {d : PyData} {n : String} {b : Bool} (h : a δ μ = .ok (.t d) μ') (e : isB n d = some b) : dCall gIsi (dCons a (dCons (dK (.ty n)) dNil)) δ μ = .ok (.t (.bool b)) μ' := by
  refine call2_ok h rfl ?_
  unfold gIsi rd
  dsimp only
  rw [e]
theorem and_t {a b : DE} {δ : Sl} {μ μ1 : Mu} {r : R D} (h : a δ μ = .ok (.t (.bool true)) μ1) (h2 : b δ μ1 = r) : dAndV a b δ μ = r := by
  unfold dAndV
  rw [h, bind_ok]
  exact h2
theorem and_f {a b : DE} {δ : Sl} {μ μ1 : Mu} (h : a δ μ = .ok (.t (.bool false)) μ1) : dAndV a b δ μ = .ok (.t (.bool false)) μ1 := by
  unfold dAndV
  rw [h, bind_ok]
  rfl
theorem and_b {a b : DE} {δ : Sl} {μ μ1 : Mu} {x y : Bool} (h : a δ μ = .ok (.t (.bool x)) μ1) (h2 : x = true → b δ μ1 = .ok (.t (.bool y)) μ1) : dAndV a b δ μ = .ok (.t (.bool (x && y))) μ1 := by
  cases x with
  | true => exact and_t h (by rw [Bool.true_and]; exact h2 rfl)
  | false => exact and_f h
theorem all_form {v w : Nat} {δ : Sl} {μ : Mu} {de : DE} {d : PyData} (p : PyData → Bool) (hv : dVar v δ μ = .ok (.t d) μ) (sm : smB d = true)
    (h : ∀ x, smB x = true → ∀ μ', de (δ.set w (some (.t x))) μ' = .ok (.t (.bool (p x))) μ') :
    (dAndV (dCall gIsi (dCons (dVar v) (dCons (dK (.ty "tuple")) dNil))) (dCall (g1 fAll) (dCons (dLc false [w] (dSeqI (dVar v)) (gN w) dYes de) dNil))) δ μ = .ok (.t (.bool (tupB p d))) μ := by
  by_cases ht : ∃ xs, d = .tuple xs
  · obtain ⟨xs, rfl⟩ := ht
    obtain ⟨hz, hx⟩ := smB_tup sm
    refine and_t (isi_ok (b := true) hv rfl) ?_
    refine all_ok p (dLc_all (fun x => .bool (p x)) ?_ (Nat.le_trans hz (by rw [sizeLine_eq]; decide)) fun x hx' μ' _ => ⟨δ.set w (some (.t x)), ?_, h x (hx x hx') μ'⟩)
    · unfold dSeqI
      rw [hv, bind_ok]
      rfl
    · unfold gN wipeD wipeD
      rw [List.set_set]
  · have e : isB "tuple" d = some false := by
      cases d <;> first | rfl | exact absurd ⟨_, rfl⟩ ht
    have e2 : tupB p d = false := by
      cases d <;> first | rfl | exact absurd ⟨_, rfl⟩ ht
    rw [e2]
    exact and_f (isi_ok hv e)
abbrev rowB : PyData → Bool := tupB isInt
abbrev prsB : PyData → Bool := tupB rowB
abbrev tabB : PyData → Bool := tupB prsB
theorem isB_int (d : PyData) : isB "int" d = some (isInt d) := rfl
theorem integer_ok (d : PyData) (μ : Mu) : F_is_integer [.t d] μ = .ok (.t (.bool (isInt d))) μ := mkF_t rfl (ret_ok (isi_ok rfl (isB_int d))) rfl
theorem row_ok (d : PyData) (sm : smB d = true) (μ : Mu) : F_is_row [.t d] μ = .ok (.t (.bool (rowB d))) μ := mkF_t rfl (ret_ok (all_form isInt rfl sm fun x _ μ' => call1_ok rfl (integer_ok x μ'))) rfl
theorem pairs_ok (d : PyData) (sm : smB d = true) (μ : Mu) : F_are_pairs [.t d] μ = .ok (.t (.bool (prsB d))) μ := mkF_t rfl (ret_ok (all_form rowB rfl sm fun x sx μ' => call1_ok rfl (row_ok x sx μ'))) rfl
theorem table_ok (d : PyData) (sm : smB d = true) (μ : Mu) : F_is_told_table [.t d] μ = .ok (.t (.bool (tabB d))) μ := mkF_t rfl (ret_ok (all_form prsB rfl sm fun x sx μ' => call1_ok rfl (pairs_ok x sx μ'))) rfl
theorem lrow_ok (d : PyData) (sm : smB d = true) (μ : Mu) : F__law_is_row [.t d] μ = .ok (.t (.bool (rowB d))) μ := mkF_t rfl (ret_ok (all_form isInt rfl sm fun x _ μ' => isi_ok rfl (isB_int x))) rfl
theorem lpairs_ok (d : PyData) (sm : smB d = true) (μ : Mu) : F__law_are_pairs [.t d] μ = .ok (.t (.bool (prsB d))) μ := mkF_t rfl (ret_ok (all_form rowB rfl sm fun x sx μ' => call1_ok rfl (lrow_ok x sx μ'))) rfl
/-- the number of items, of what has a table's form -/
def len2 : PyData → Bool
  | .tuple xs => xs.length == 2
  | _ => false
theorem len2_ok {δ : Sl} {μ : Mu} {a : DE} {d : PyData} (ha : a δ μ = .ok (.t d) μ) (h : tabB d = true) : dCmp cEq (dCall (g1 fLen) (dCons a dNil)) (dC (.int 2)) δ μ = .ok (.t (.bool (len2 d))) μ := by
  cases d with
  | tuple xs =>
    unfold dCmp
    rw [call1_ok (r := .ok (.t (.int (xs.length : Nat))) μ) ha rfl, bind_ok]
    show R.ok (D.t (PyData.bool (((xs.length : Nat) : Int) == 2))) μ = _
    have e : (((xs.length : Nat) : Int) == 2) = (xs.length == 2) := by
      by_cases q : xs.length = 2
      · rw [q]; rfl
      · rw [beq_false_of_ne q, beq_false_of_ne (by omega)]
    rw [e]
    rfl
  | _ => cases h
theorem pair_ok (d : PyData) (sm : smB d = true) (μ : Mu) : F_is_told_pair [.t d] μ = .ok (.t (.bool (tabB d && len2 d))) μ :=
  mkF_t rfl (ret_ok (and_b (call1_ok rfl (table_ok d sm μ)) fun h => len2_ok rfl h)) rfl
def formB (z : Str) (d : PyData) : Bool := if z = "row" then rowB d else if z = "fractions" then prsB d else if z = "table" then tabB d else tabB d && len2 d
theorem form_ok {z : Str} (hz : z ∈ (["fractions", "table", "pair", "row"] : List Str)) (d : PyData) (sm : smB d = true) (μ : Mu) : F_has_form [.t (.str z), .t d] μ = .ok (.t (.bool (formB z d))) μ := by
  have go : ∀ (F : DF) (b : Bool), ks_FORMS z = some true → kvs_FORMS.lookup z = some F → F [.t d] μ = .ok (.t (.bool b)) μ → F_has_form [.t (.str z), .t d] μ = .ok (.t (.bool b)) μ := by
    intro F b h1 h2 h3
    refine mkF_t rfl (μ' := μ) ?_ rfl
    have t : dInTab ks_FORMS (dVar 0) [some (.t (.str z)), some (.t d)] μ = .ok false μ := by
      unfold dInTab
      rw [show dVar 0 [some (D.t (.str z)), some (D.t d)] μ = .ok (.t (.str z)) μ from rfl, bind_ok]
      dsimp only
      rw [h1]
      rfl
    refine (seq_ok ((if_f t).trans rfl)).trans (ret_ok ?_)
    unfold dTab
    rw [show dVar 0 [some (D.t (.str z)), some (D.t d)] μ = .ok (.t (.str z)) μ from rfl, bind_ok]
    dsimp only
    rw [h2]
    dsimp only
    exact h3
  simp only [List.mem_cons, List.not_mem_nil, or_false] at hz
  rcases hz with rfl | rfl | rfl | rfl
  · exact go _ _ (by decide +kernel) (by rfl) (pairs_ok d sm μ)
  · exact go _ _ (by decide +kernel) (by rfl) (table_ok d sm μ)
  · exact go _ _ (by decide +kernel) (by rfl) (pair_ok d sm μ)
  · exact go _ _ (by decide +kernel) (by rfl) (row_ok d sm μ)

theorem eqs_ok {v : Nat} {δ : Sl} {μ : Mu} {z c : Str} (h : dVar v δ μ = .ok (.t (.str z)) μ) : dCmpT cEq (dVar v) (dC (.str c)) δ μ = .ok (z == c) μ := by
  unfold dCmpT
  rw [h, bind_ok]
  rfl
theorem eqsV_ok {v : Nat} {δ : Sl} {μ : Mu} {z c : Str} (h : dVar v δ μ = .ok (.t (.str z)) μ) : dCmp cEq (dVar v) (dC (.str c)) δ μ = .ok (.t (.bool (z == c))) μ := by
  unfold dCmp
  rw [h, bind_ok]
  rfl
theorem if_te {c : DT} {a b : DS} {δ : Sl} {μ μ' : Mu} {x : Bool} (h : c δ μ = .ok x μ') (e : x = true) : sIf c a b δ μ = a δ μ' := if_t (h.trans (by rw [e]))
theorem if_fe {c : DT} {a b : DS} {δ : Sl} {μ μ' : Mu} {x : Bool} (h : c δ μ = .ok x μ') (e : x = false) : sIf c a b δ μ = b δ μ' := if_f (h.trans (by rw [e]))
theorem due_ok {z : Str} (hz : z ∈ (["fractions", "table", "pair", "row"] : List Str)) (d : PyData) (sm : smB d = true) (μ : Mu) : F__law_due [.t (.str z), .t d] μ = .ok (.t (.bool (formB z d))) μ := by
  refine mkF_t rfl (μ' := μ) ?_ rfl
  show b__law_due [some (.t (.str z)), some (.t d), none, none] μ = _
  have q1 := eqs_ok (v := 0) (δ := [some (.t (.str z)), some (.t d), none, none]) (μ := μ) (z := z) (c := "row") rfl
  have q2 := eqs_ok (v := 0) (δ := [some (.t (.str z)), some (.t d), none, none]) (μ := μ) (z := z) (c := "fractions") rfl
  have r1 : (sSet 2 ((dAndV ((dCall gIsi (dCons (dVar 1) (dCons (dK (.ty "tuple")) dNil)))) ((dCall (g1 fAll) (dCons ((dLc false [3] (dSeqI (dVar 1)) (gN 3) (dYes) ((dCall F__law_are_pairs (dCons (dVar 3) dNil))))) dNil)))))) [some (.t (.str z)), some (.t d), none, none] μ = .nx [some (.t (.str z)), some (.t d), some (.t (.bool (tabB d))), none] μ :=
    set_ok' (all_form prsB rfl sm fun x sx μ' => call1_ok rfl (lpairs_ok x sx μ'))
  have last : ∀ t : Bool, (z == "table") = t → (dAndV (dVar 2) ((dOrV ((dCmp cEq (dVar 0) (dC (.str "table")))) ((dCmp cEq ((dCall (g1 fLen) (dCons (dVar 1) dNil))) (dC (.int 2))))))) [some (.t (.str z)), some (.t d), some (.t (.bool (tabB d))), none] μ = .ok (.t (.bool (tabB d && (t || len2 d)))) μ := by
    intro t ht
    refine and_b rfl fun h => ?_
    unfold dOrV
    rw [eqsV_ok (z := z) rfl, ht, bind_ok]
    cases t with
    | true => rfl
    | false => exact len2_ok rfl h
  simp only [List.mem_cons, List.not_mem_nil, or_false] at hz
  rcases hz with rfl | rfl | rfl | rfl
  · refine (seq_ok ((if_fe q1 (by decide +kernel)).trans rfl)).trans ?_
    refine seq_out ((if_te q2 (by decide +kernel)).trans (ret_ok (call1_ok rfl (lpairs_ok d sm μ))))
  · refine (seq_ok ((if_fe q1 (by decide +kernel)).trans rfl)).trans ?_
    refine (seq_ok ((if_fe q2 (by decide +kernel)).trans rfl)).trans ?_
    refine (seq_ok r1).trans (ret_ok ((last true (by decide +kernel)).trans ?_))
    rw [Bool.true_or, Bool.and_true]
    rfl
  · refine (seq_ok ((if_fe q1 (by decide +kernel)).trans rfl)).trans ?_
    refine (seq_ok ((if_fe q2 (by decide +kernel)).trans rfl)).trans ?_
    refine (seq_ok r1).trans (ret_ok ((last false (by decide +kernel)).trans ?_))
    rw [Bool.false_or]
    rfl
  · refine seq_out ((if_te q1 (by decide +kernel)).trans (ret_ok (call1_ok rfl (lrow_ok d sm μ))))
/-! ## names and numbers -/
/-- all signs of s stand in t -/
def inB (t : Str) (s : Str) : Bool := s.cps.toList.all fun c => decide (c ∈ t.cps.toList)
theorem signs_form {v w : Nat} {δ : Sl} {μ : Mu} {s t : Str} (hv : dVar v δ μ = .ok (.t (.str s)) μ) (hw : w < δ.length) (z : s.length ≤ 1000) :
    (dCall (g1 fAll) (dCons ((dLc false [w] (dSeqI (dVar v)) (gN w) (dYes) ((dCmp cIn (dVar w) (dC (.str t)))))) dNil)) δ μ = .ok (.t (.bool (inB t s))) μ := by
  have inner : dLc false [w] (dSeqI (dVar v)) (gN w) dYes (dCmp cIn (dVar w) (dC (.str t))) δ μ = .ok (.t (.list ((signsOf s).map fun x => .bool ((cIn x (.str t)).getD false)))) μ := by
    refine dLc_all (fun x => .bool ((cIn x (.str t)).getD false)) (xs := signsOf s) ?_ ?_ ?_
    · unfold dSeqI
      rw [hv, bind_ok]
      rfl
    · rw [signsOf_length]
      exact Nat.le_trans z (by rw [sizeLine_eq]; decide)
    · intro x hx μ' _
      refine ⟨δ.set w (some (.t x)), ?_, ?_⟩
      · unfold gN wipeD wipeD
        rw [List.set_set]
      · unfold signsOf at hx
        obtain ⟨c, _, rfl⟩ := List.mem_map.mp hx
        have e : dVar w (δ.set w (some (.t (.str ⟨#[c]⟩)))) μ' = .ok (.t (.str ⟨#[c]⟩)) μ' := by
          unfold dVar
          rw [List.getElem?_set_self hw]
        unfold dCmp
        rw [e, bind_ok]
        rfl
  refine (all_ok (xs := signsOf s) (fun x => (cIn x (.str t)).getD false) inner).trans ?_
  unfold signsOf inB
  rw [List.all_map]
  rfl
theorem len_ok {a : DE} {δ : Sl} {μ μ' : Mu} {s : Str} (h : a δ μ = .ok (.t (.str s)) μ') : dCall (g1 fLen) (dCons a dNil) δ μ = .ok (.t (.int (s.length : Nat))) μ' := call1_ok h rfl
def btw (a b : Int) (s : Str) : Bool := decide (a ≤ (s.length : Nat)) && decide (((s.length : Nat) : Int) ≤ b)
theorem chainT_ok {v : Nat} {δ : Sl} {μ : Mu} {s : Str} {a b : Int} (hv : dVar v δ μ = .ok (.t (.str s)) μ) : dChainT cLe cLe (dC (.int a)) (dCall (g1 fLen) (dCons (dVar v) dNil)) (dC (.int b)) δ μ = .ok (btw a b s) μ := by
  unfold dChainT
  rw [show dC (.int a) δ μ = .ok (.t (.int a)) μ from rfl, bind_ok, len_ok hv, bind_ok]
  show (R.ok (decide (a ≤ ((s.length : Nat) : Int))) μ).bind _ = _
  rw [bind_ok]
  unfold btw
  cases decide (a ≤ ((s.length : Nat) : Int)) with
  | true => rfl
  | false => rfl
theorem chain_ok {v : Nat} {δ : Sl} {μ : Mu} {s : Str} {a b : Int} (hv : dVar v δ μ = .ok (.t (.str s)) μ) : dChain cLe cLe (dC (.int a)) (dCall (g1 fLen) (dCons (dVar v) dNil)) (dC (.int b)) δ μ = .ok (.t (.bool (btw a b s))) μ := by
  unfold dChain bval
  rw [chainT_ok hv]
  rfl
abbrev smalls : Str := "abcdefghijklmnopqrstuvwxyz"
abbrev figs : Str := "0123456789"
def nameB (s : Str) : Bool := btw 1 12 s && inB smalls s
theorem name_form {v w : Nat} {δ : Sl} {μ : Mu} {s : Str} (hv : dVar v δ μ = .ok (.t (.str s)) μ) (hw : w < δ.length) (z : s.length ≤ 1000) :
    (dAndV ((dChain cLe cLe (dC (.int 1)) ((dCall (g1 fLen) (dCons (dVar v) dNil))) (dC (.int 12)))) ((dCall (g1 fAll) (dCons ((dLc false [w] (dSeqI (dVar v)) (gN w) (dYes) ((dCmp cIn (dVar w) (dC (.str smalls)))))) dNil)))) δ μ = .ok (.t (.bool (nameB s))) μ :=
  and_b (chain_ok hv) fun _ => signs_form hv hw z
theorem name_ok (s : Str) (z : s.length ≤ 1000) (μ : Mu) : F_is_name [.t (.str s)] μ = .ok (.t (.bool (nameB s))) μ := mkF_t rfl (ret_ok (name_form rfl (by simp) z)) rfl
/-- what number_in answers, where it can tell -/
def numB (s : Str) : Option PyData := if btw 1 2 s && inB figs s then (if s.length = 2 ∧ s.cps.toList.head? = some 48 then some .none else (PySem.intText? s).map .int) else some .none
theorem or_t {a b : DT} {δ : Sl} {μ μ1 : Mu} (h : a δ μ = .ok true μ1) : dOrT a b δ μ = .ok true μ1 := by
  unfold dOrT
  rw [h, bind_ok, if_pos rfl]
theorem or_f {a b : DT} {δ : Sl} {μ μ1 : Mu} {r : R Bool} (h : a δ μ = .ok false μ1) (h2 : b δ μ1 = r) : dOrT a b δ μ = r := by
  unfold dOrT
  rw [h, bind_ok, if_neg Bool.false_ne_true, h2]
theorem not_ok {a : DT} {δ : Sl} {μ μ1 : Mu} {x : Bool} (h : a δ μ = .ok x μ1) : dNotT a δ μ = .ok (!x) μ1 := by
  unfold dNotT
  rw [h, bind_ok]
theorem tru_ok {a : DE} {δ : Sl} {μ μ1 : Mu} {x : Bool} (h : a δ μ = .ok (.t (.bool x)) μ1) : dTru a δ μ = .ok x μ1 := by
  unfold dTru
  rw [h, bind_ok]
  rfl
theorem andT_f {a b : DT} {δ : Sl} {μ μ1 : Mu} (h : a δ μ = .ok false μ1) : dAndT a b δ μ = .ok false μ1 := by
  unfold dAndT
  rw [h, bind_ok, if_neg Bool.false_ne_true]
theorem andT_t {a b : DT} {δ : Sl} {μ μ1 : Mu} {r : R Bool} (h : a δ μ = .ok true μ1) (h2 : b δ μ1 = r) : dAndT a b δ μ = r := by
  unfold dAndT
  rw [h, bind_ok, if_pos rfl, h2]
theorem atI_zero {α : Type} (c : α) (r : List α) : atI (c :: r) 0 = some c := by
  unfold atI ixN
  rw [if_pos (by decide), if_pos (by rw [List.length_cons]; omega)]
  rfl
theorem number_in_ok (s : Str) (z : s.length ≤ 600) {r : PyData} (h : numB s = some r) (μ : Mu) : F_number_in [.t (.str s)] μ = .ok (.t r) μ := by
  refine mkF_t rfl (μ' := μ) ?_ rfl
  show b_number_in [some (.t (.str s)), none] μ = _
  have c1 := not_ok (chainT_ok (v := 0) (δ := [some (.t (.str s)), none]) (μ := μ) (s := s) (a := 1) (b := 2) rfl)
  have c2 := not_ok (tru_ok (signs_form (v := 0) (w := 1) (δ := [some (.t (.str s)), none]) (μ := μ) (s := s) (t := figs) rfl (by simp) (by omega)))
  have t1 : (dOrT ((dNotT ((dChainT cLe cLe (dC (.int 1)) ((dCall (g1 fLen) (dCons (dVar 0) dNil))) (dC (.int 2)))))) ((dNotT ((dTru ((dCall (g1 fAll) (dCons ((dLc false [1] (dSeqI (dVar 0)) (gN 1) (dYes) ((dCmp cIn (dVar 1) (dC (.str "0123456789")))))) dNil))))))))
      [some (.t (.str s)), none] μ = .ok (!(btw 1 2 s && inB figs s)) μ := by
    cases hb : btw 1 2 s with
    | false =>
      rw [hb] at c1
      exact or_t c1
    | true =>
      rw [hb] at c1
      refine or_f c1 (c2.trans ?_)
      rw [Bool.true_and]
  unfold numB at h
  split at h
  · rename_i hc
    rw [hc] at t1
    refine (seq_ok ((if_f t1).trans rfl)).trans ?_
    have hl : dCmpT cEq ((dCall (g1 fLen) (dCons (dVar 0) dNil))) (dC (.int 2)) [some (.t (.str s)), none] μ = .ok (((s.length : Nat) : Int) == 2) μ := by
      unfold dCmpT
      rw [len_ok (s := s) rfl, bind_ok]
      rfl
    have fin : ∀ i, PySem.intText? s = some i → sRet (dCall (g1 fInt) (dCons (dVar 0) dNil)) [some (.t (.str s)), none] μ = .rt (.t (.int i)) μ := by
      intro i hi
      refine ret_ok (call1_ok rfl ?_)
      show (match fInt (.str s) with
        | some r => R.ok (D.t r) μ
        | none => .bad) = _
      unfold fInt
      dsimp only
      rw [if_pos (by omega), hi]
      rfl
    rw [Bool.and_eq_true] at hc
    have ne : ∃ c r, s.cps.toList = c :: r := by
      have h1 := hc.1
      unfold btw at h1
      rw [Bool.and_eq_true, decide_eq_true_eq] at h1
      have hl' : s.cps.toList.length = s.length := Array.length_toList
      cases q : s.cps.toList with
      | nil =>
        rw [q] at hl'
        simp at hl'
        omega
      | cons c r => exact ⟨c, r, rfl⟩
    obtain ⟨c, r', hcr⟩ := ne
    have h0 : dCmpT cEq ((dIx (dVar 0) (dC (.int 0)))) (dC (.str "0")) [some (.t (.str s)), none] μ = .ok (decide (c = 48)) μ := by
      have e1 : dIx (dVar 0) (dC (.int 0)) [some (.t (.str s)), none] μ = .ok (.t (.str ⟨#[c]⟩)) μ := by
        show (match (atI s.cps.toList 0).map fun c => PyData.str ⟨#[c]⟩ with
          | some r => R.ok (D.t r) μ
          | none => .bad) = _
        rw [hcr, atI_zero]
        rfl
      unfold dCmpT
      rw [e1, bind_ok]
      show R.ok ((⟨#[c]⟩ : Str) == "0") μ = _
      have e2 : ((⟨#[c]⟩ : Str) == "0") = decide (c = 48) := by
        by_cases q : c = 48
        · subst q; rfl
        · rw [decide_eq_false q]
          refine beq_false_of_ne fun z => q ?_
          have z2 := congrArg (fun x : Str => x.cps.toList) z
          have z3 : [c] = [48] := z2
          cases z3
          rfl
      rw [e2]
    split at h
    · rename_i h2
      cases h
      rw [hcr] at h2
      have hc48 : c = 48 := Option.some.inj h2.2
      refine seq_out ((if_t (andT_t (hl.trans ?_) (h0.trans ?_))).trans rfl)
      · rw [h2.1]; rfl
      · rw [hc48]; rfl
    · rename_i h2
      obtain ⟨i, hi, rfl⟩ := Option.map_eq_some_iff.mp h
      refine (seq_ok ((if_f ?_).trans rfl)).trans (fin i hi)
      by_cases q : s.length = 2
      · refine andT_t (hl.trans (by rw [q]; rfl)) (h0.trans ?_)
        rw [decide_eq_false fun z => h2 ⟨q, by rw [hcr, z]; rfl⟩]
      · refine andT_f (hl.trans ?_)
        rw [beq_false_of_ne (by omega)]
  · rename_i hc
    cases h
    rw [Bool.eq_false_iff.mpr hc] at t1
    exact seq_out ((if_t t1).trans rfl)

def L100 : List PyData := (intsFrom 0 100).map fun x => (fStr x).getD .none
def numOf (s : Str) : Option PyData := if L100.any fun z => PyData.eqv z (.str s) then (PySem.intText? s).map .int else some .none
theorem ints_in : ∀ (n : Nat) (lo : Int) {x : PyData}, x ∈ intsFrom lo n → ∃ i : Int, x = .int i ∧ lo ≤ i ∧ i < lo + n
  | 0, _, _, h => by cases h
  | n + 1, lo, x, h => by
    rw [TV.intsFrom] at h
    rcases List.mem_cons.mp h with rfl | h
    · exact ⟨lo, rfl, Int.le_refl _, by omega⟩
    · obtain ⟨i, e, h1, h2⟩ := ints_in n (lo + 1) h
      exact ⟨i, e, by omega, by omega⟩
theorem fStr_some {i : Int} (h0 : 0 ≤ i) (h : i < 100) : fStr (.int i) = some (.str (toString i)) := by
  have e : i.natAbs.log2 < 1920 := by
    have h2 : i.natAbs < 2 ^ 7 := by have : (2:Nat) ^ 7 = 128 := rfl; omega
    by_cases z : i.natAbs = 0
    · rw [z]; decide
    · have := (Nat.log2_lt z).mpr h2
      omega
  unfold fStr
  dsimp only
  rw [if_pos e]
theorem L100_ok {δ : Sl} {μ : Mu} {w : Nat} (hw : w < δ.length) : dLc false [w] (dRange1 (dC (.int 100))) (gN w) dYes (dCall (g1 fStr) (dCons (dVar w) dNil)) δ μ = .ok (.t (.list L100)) μ := by
  refine dLc_all (fun x => (fStr x).getD .none) (xs := intsFrom 0 100) (dRange1_ok (n := 100) (by decide) rfl) (by rw [intsFrom_length, sizeLine_eq]; decide) ?_
  intro x hx μ' _
  obtain ⟨i, rfl, h0, h1⟩ := ints_in 100 0 hx
  refine ⟨δ.set w (some (.t (.int i))), ?_, ?_⟩
  · unfold gN wipeD wipeD
    rw [List.set_set]
  · have e : dVar w (δ.set w (some (.t (.int i)))) μ' = .ok (.t (.int i)) μ' := by
      unfold dVar
      rw [List.getElem?_set_self hw]
    refine call1_ok e ?_
    show (match fStr (.int i) with
      | some r => R.ok (D.t r) μ'
      | none => .bad) = _
    rw [fStr_some h0 (by omega)]
    rfl
theorem shp100 : shpL 15 L100 = true := by decide +kernel
theorem number_of_ok (s : Str) (z : s.length ≤ 600) (ok : PyData.canLay0 (.str s) = true) {r : PyData} (h : numOf s = some r) (μ : Mu) : F__law_number_of [.t (.str s)] μ = .ok (.t r) μ := by
  refine mkF_t rfl (μ' := μ) (ret_ok ?_) rfl
  have c : dCmpT cIn (dVar 0) ((dLc false [1] (dRange1 (dC (.int 100))) (gN 1) (dYes) ((dCall (g1 fStr) (dCons (dVar 1) dNil))))) [some (.t (.str s)), none] μ = .ok (L100.any fun z => PyData.eqv z (.str s)) μ := by
    unfold dCmpT
    rw [show dVar 0 [some (D.t (.str s)), none] μ = .ok (.t (.str s)) μ from rfl, bind_ok, L100_ok (by simp), bind_ok]
    show (match cIn (.str s) (.list L100) with
      | some r => R.ok r μ
      | none => .bad) = _
    have e : cIn (.str s) (.list L100) = some (L100.any fun z => PyData.eqv z (.str s)) := by
      show (if shp 15 (.str s) && shpL 15 L100 then some (L100.any fun z => PyData.eqv z (.str s)) else none) = _
      rw [shp100, show shp 15 (.str s) = true from ok]
      rfl
    rw [e]
  show dIf _ _ _ [some (D.t (.str s)), none] μ = _
  unfold dIf
  rw [c, bind_ok]
  unfold numOf at h
  split at h
  · rename_i hc
    rw [hc, if_pos rfl]
    obtain ⟨i, hi, rfl⟩ := Option.map_eq_some_iff.mp h
    refine call1_ok rfl ?_
    show (match fInt (.str s) with
      | some r => R.ok (D.t r) μ
      | none => .bad) = _
    unfold fInt
    dsimp only
    rw [if_pos (by omega), hi]
    rfl
  · rename_i hc
    cases h
    rw [if_neg hc]
    rfl
/-! ## the words that are drawn -/
abbrev alph : List Nat := [97, 107, 122, 57, 48, 49, 66]
def okN : PyData → Bool
  | .none => true
  | .int i => decide (0 ≤ i) && decide (i < 100)
  | _ => false
def sameN (s : Str) : Bool := match numB s, numOf s with
  | some a, some b => beqP a b && okN a
  | _, _ => false
theorem same0 : sameN ⟨#[]⟩ = true := by decide +kernel
theorem same1 : (alph.all fun c => sameN ⟨#[c]⟩) = true := by decide +kernel
theorem same2 : (alph.all fun c => alph.all fun d => sameN ⟨#[c, d]⟩) = true := by decide +kernel
theorem short100 : (L100.all fun z => match z with
  | .str t => decide (t.length ≤ 2)
  | _ => false) = true := by decide +kernel
theorem sameN_long {s : Str} (h : 3 ≤ s.length) : numB s = some .none ∧ numOf s = some .none := by
  constructor
  · unfold numB
    have e : btw 1 2 s = false := by
      unfold btw
      rw [decide_eq_false (show ¬ ((s.length : Nat) : Int) ≤ 2 by omega), Bool.and_false]
    rw [e]
    rfl
  · unfold numOf
    have e : (L100.any fun z => PyData.eqv z (.str s)) = false := by
      rw [List.any_eq_false]
      intro z hz q
      have k := List.all_eq_true.mp short100 z hz
      cases z with
      | str t =>
        have k : decide (t.length ≤ 2) = true := k
        rw [decide_eq_true_eq] at k
        have q' : (t == s) = true := by simpa [PyData.eqv] using q
        have := eq_of_beq q'
        rw [this] at k
        omega
      | _ => cases k
    rw [e]
    rfl
theorem num_same {s : Str} (ha : ∀ c ∈ s.cps.toList, c ∈ alph) : ∃ r, numB s = some r ∧ numOf s = some r ∧ okN r = true := by
  have fromB : sameN s = true → ∃ r, numB s = some r ∧ numOf s = some r ∧ okN r = true := by
    intro h
    unfold sameN at h
    split at h
    · rename_i a b e1 e2
      rw [Bool.and_eq_true] at h
      have := beqP_eq h.1
      subst this
      exact ⟨a, e1, e2, h.2⟩
    · cases h
  obtain ⟨⟨l⟩⟩ := s
  match l, ha with
  | [], _ => exact fromB same0
  | [c], ha => exact fromB (List.all_eq_true.mp same1 c (ha c (by simp)))
  | [c, d], ha => exact fromB (List.all_eq_true.mp (List.all_eq_true.mp same2 c (ha c (by simp))) d (ha d (by simp)))
  | c :: d :: e :: r, _ =>
    obtain ⟨h1, h2⟩ := sameN_long (s := ⟨⟨c :: d :: e :: r⟩⟩) (by show 3 ≤ (c :: d :: e :: r).length; simp)
    exact ⟨_, h1, h2, rfl⟩
/-! ## texts joined of drawn pieces -/
theorem glued_list : ∀ (ps : List Str) (acc : Array Nat), (ps.foldl (fun acc p => acc ++ (Str.empty).cps ++ p.cps) acc).toList = acc.toList ++ (ps.map fun p => p.cps.toList).flatten
  | [], acc => by simp
  | p :: ps, acc => by
    rw [List.foldl_cons, glued_list ps]
    simp [Str.empty]
theorem join_list (ps : List Str) : (Txt.join "" ps).cps.toList = (ps.map fun p => p.cps.toList).flatten := by
  have e : ("" : Str) = Str.empty := rfl
  rw [e]
  show ((ps.drop 1).foldl (fun acc p => acc ++ (Str.empty).cps ++ p.cps) (ps.headD Str.empty).cps).toList = _
  rw [glued_list]
  cases ps with
  | nil => rfl
  | cons p ps => simp
theorem sum_le {ps : List Str} {m : Nat} (h : ∀ p ∈ ps, p.length ≤ m) : (ps.map (·.length)).sum ≤ m * ps.length := by
  induction ps with
  | nil => simp
  | cons p ps ih =>
    have h1 := h p (by simp)
    have h2 := ih fun q hq => h q (by simp [hq])
    rw [List.map_cons, List.sum_cons, List.length_cons, Nat.mul_succ]
    omega
theorem join_len (ps : List Str) : (Txt.join "" ps).length = (ps.map (·.length)).sum := by
  have e : (Txt.join "" ps).length = (Txt.join "" ps).cps.toList.length := Array.length_toList.symm
  rw [e, join_list, List.length_flatten, List.map_map]
  congr 1
theorem strsOf_map : ∀ ps : List Str, strsOf (ps.map .str) = some ps
  | [] => rfl
  | p :: ps => by rw [List.map_cons, strsOf, strsOf_map ps]; rfl
theorem join_ok {a : DE} {δ : Sl} {μ μ' : Mu} {ps : List Str} (h : a δ μ = .ok (.t (.list (ps.map .str))) μ') (hp : ∀ p ∈ ps, p.length ≤ 2) (hn : ps.length ≤ 1000) : (dMeth isS (gM1 fJoin) (dC (.str "")) (dCons a dNil)) δ μ = .ok (.t (.str (Txt.join "" ps))) μ' := by
  have hs := sum_le hp
  unfold dMeth
  rw [show dC (.str "") δ μ = .ok (.t (.str "")) μ from rfl, bind_ok]
  rw [if_pos (show rdIs isS μ (.t (.str "")) = true from rfl), cons_ok h rfl, bind_ok]
  show (match fJoin (.str "") (.list (ps.map .str)) with
    | some r => R.ok (D.t r) μ'
    | none => .bad) = _
  have e : fJoin (.str "") (.list (ps.map .str)) = some (.str (Txt.join "" ps)) := by
    unfold fJoin itemsOf
    dsimp only
    rw [Option.bind_some, strsOf_map]
    dsimp only
    have e0 : ("" : Str).length = 0 := rfl
    rw [decide_eq_true (show (ps.map (·.length)).sum + ps.length * ("" : Str).length ≤ 16777216 by rw [e0]; omega), decide_eq_true (show (Txt.join "" ps).length ≤ sizeLine by rw [join_len, sizeLine_eq]; omega)]
    rfl
  rw [e]

/-! ## a spoilt term -/
theorem cut_sub {xs : List PyData} {lo hi : Option Int} {x : PyData} (h : x ∈ cutP xs lo hi) : x ∈ xs := by
  unfold cutP at h
  exact List.mem_of_mem_drop (List.mem_of_mem_take h)
theorem sl_tup {a : DE} {l h : DO} {δ : Sl} {μ : Mu} {xs : List PyData} {i j : Option Int} (ha : a δ μ = .ok (.t (.tuple xs)) μ) (hl : l δ μ = .ok i μ) (hh : h δ μ = .ok j μ) : dSl false a l h δ μ = .ok (.t (.tuple (cutP xs i j))) μ := by
  unfold dSl
  rw [ha, bind_ok, hl, bind_ok, hh, bind_ok]
  rfl
theorem some_ok {a : DE} {δ : Sl} {μ μ' : Mu} {i : Int} (h : a δ μ = .ok (.t (.int i)) μ') : dSomeO a δ μ = .ok (some i) μ' := by
  unfold dSomeO
  rw [h, bind_ok]
theorem add_tup {a b : DE} {δ : Sl} {μ μ1 μ2 : Mu} {xs ys : List PyData} (ha : a δ μ = .ok (.t (.tuple xs)) μ1) (hb : b δ μ1 = .ok (.t (.tuple ys)) μ2) (z : xs.length + ys.length ≤ 10000) : dAdd false a b δ μ = .ok (.t (.tuple (xs ++ ys))) μ2 := by
  unfold dAdd
  rw [ha, bind_ok, hb, bind_ok]
  unfold apAdd lstOf
  dsimp only
  unfold ap2 rd
  dsimp only
  unfold fAdd
  dsimp only
  rw [if_pos (Nat.le_trans z (by rw [sizeLine_eq]; decide))]
theorem add_int {a b : DE} {δ : Sl} {μ μ1 μ2 : Mu} {x y : Int} (ha : a δ μ = .ok (.t (.int x)) μ1) (hb : b δ μ1 = .ok (.t (.int y)) μ2) : dAdd false a b δ μ = .ok (.t (.int (x + y))) μ2 := by
  unfold dAdd
  rw [ha, bind_ok, hb, bind_ok]
  rfl
theorem int_ok {a : DE} {δ : Sl} {μ μ' : Mu} {i : Int} (h : a δ μ = .ok (.t (.int i)) μ') : dCall (g1 fInt) (dCons a dNil) δ μ = .ok (.t (.int i)) μ' := call1_ok h rfl
theorem mod_ok {a b : DE} {δ : Sl} {μ μ1 μ2 : Mu} {x y : Int} (ha : a δ μ = .ok (.t (.int x)) μ1) (hb : b δ μ1 = .ok (.t (.int y)) μ2) (hy : y ≠ 0) : dBin fMod a b δ μ = .ok (.t (.int (x.fmod y))) μ2 := by
  unfold dBin
  rw [ha, bind_ok, hb, bind_ok]
  unfold ap2 rd
  dsimp only
  rw [fMod_ok hy]
/-- int(_law_next(draws)) % n -/
theorem drawn {v k : Nat} {δ : Sl} {μ : Mu} {b : DE} {n : Int} (hv : ∀ μ', dVar v δ μ' = .ok (.lst k) μ') (dr : Dr k μ) (hb : ∀ μ', Mv k μ μ' → b δ μ' = .ok (.t (.int n)) μ') (hn : 0 < n) :
    ∃ i μ', 0 ≤ i ∧ i < n ∧ Mv k μ μ' ∧ dBin fMod (dCall (g1 fInt) (dCons (dCall F__law_next (dCons (dVar v) dNil)) dNil)) b δ μ = .ok (.t (.int i)) μ' := by
  obtain ⟨d, μ', _, _, e, mv⟩ := next_ok dr
  exact ⟨d.fmod n, μ', Int.fmod_nonneg_of_pos d hn, Int.fmod_lt_of_pos d hn, mv, mod_ok (int_ok (call1_ok (hv μ) e)) (hb μ' mv) (by omega)⟩
theorem eqi_ok {a : DE} {δ : Sl} {μ μ' : Mu} {i c : Int} (h : a δ μ = .ok (.t (.int i)) μ') : dCmpT cEq a (dC (.int c)) δ μ = .ok (i == c) μ' := by
  unfold dCmpT
  rw [h, bind_ok]
  rfl
theorem isB_tup {d : PyData} : isB "tuple" d = some (isT d) := rfl
/-- what a def's call that draws gives -/
def Gives (k : Nat) (μ : Mu) (P : PyData → Prop) (r : R D) : Prop := ∃ y μ', r = .ok (.t y) μ' ∧ P y ∧ Mv k μ μ'
theorem pick_gives {v k : Nat} {δ : Sl} {μ : Mu} {as : DE} {xs : List PyData} {P : PyData → Prop} (hv : dVar v δ μ = .ok (.lst k) μ) (dr : Dr k μ) (h : as δ μ = .ok (.t (.list xs)) μ) (hx : xs ≠ []) (hP : ∀ x ∈ xs, P x) : Gives k μ P (dCall F__law_pick (dCons (dVar v) (dCons as dNil)) δ μ) := by
  obtain ⟨y, μ', hy, e, mv⟩ := pick_ok dr hx
  exact ⟨y, μ', call2_ok hv h e, hP y hy, mv⟩
theorem shp_mem : ∀ {m : Nat} {xs : List PyData} {x : PyData}, shpL m xs = true → x ∈ xs → shp m x = true := by
  intro m xs x h hx
  rw [shpL_all] at h
  exact List.all_eq_true.mp h x hx
theorem shp_le : ∀ {m n : Nat} {d : PyData}, m ≤ n → shp m d = true → shp n d = true
  | m, n, .none, _, _ => by simp [shp]
  | m, n, .bool _, _, _ => by simp [shp]
  | m, n, .int _, _, _ => by simp [shp]
  | m, n, .str x, _, h => by rw [shp] at h ⊢; exact h
  | 0, n, .tuple xs, _, h => by simp [shp] at h
  | m + 1, n + 1, .tuple xs, hmn, h => by
    rw [shp, shpL_all] at h ⊢
    exact List.all_eq_true.mpr fun x hx => shp_le (by omega) (List.all_eq_true.mp h x hx)
  | 0, n, .list xs, _, h => by simp [shp] at h
  | m + 1, n + 1, .list xs, hmn, h => by
    rw [shp, shpL_all] at h ⊢
    exact List.all_eq_true.mpr fun x hx => shp_le (by omega) (List.all_eq_true.mp h x hx)
  | 0, n, .dict _, _, h => by simp [shp] at h
  | m + 1, n, .dict _, _, h => by simp [shp] at h
theorem tup_nil {δ : Sl} {μ : Mu} : dTup dNil δ μ = .ok (.t (.tuple [])) μ := dTup_ok rfl rfl (by simp)
theorem tup_one {a : DE} {δ : Sl} {μ μ' : Mu} {x : PyData} (h : a δ μ = .ok (.t x) μ') : dTup (dCons a dNil) δ μ = .ok (.t (.tuple [x])) μ' := dTup_ok (cons_ok h rfl) rfl (by simp)
def Out (k : Nat) (μ : Mu) (P : PyData → Prop) (r : RS) : Prop := ∃ y μ', r = .rt (.t y) μ' ∧ P y ∧ Mv k μ μ'
theorem out_ret {k : Nat} {μ μ0 : Mu} {P : PyData → Prop} {d : DE} {δ : Sl} (mv : Mv k μ μ0) (h : Gives k μ0 P (d δ μ0)) : Out k μ P (sRet d δ μ0) := by
  obtain ⟨y, μ', e, hP, mv2⟩ := h
  exact ⟨y, μ', ret_ok e, hP, mv.trans mv2⟩
theorem out_seq {k : Nat} {μ μ0 : Mu} {P : PyData → Prop} {a b : DS} {δ : Sl} (h : Out k μ P (a δ μ0)) : Out k μ P (sSeq a b δ μ0) := by
  obtain ⟨y, μ', e, hP, mv⟩ := h
  exact ⟨y, μ', seq_out e, hP, mv⟩
theorem out_eq {k : Nat} {μ : Mu} {P : PyData → Prop} {r r' : RS} (e : r = r') (h : Out k μ P r') : Out k μ P r := by rw [e]; exact h
theorem spoilt_step {k N n : Nat} (hN : 1 ≤ N) (hN2 : N ≤ 400) (G : DF) (m : Nat) (d : PyData) (μ : Mu) (hm : m ≤ 16) (sh : shp m d = true) (sm : smN N d = true) (dr : Dr k μ)
    (hG : ∀ (x : PyData) (μ' : Mu), shp m (.tuple [x]) = true → smN N x = true → Dr k μ' → Gives k μ' (fun y => smN (2 * N + 1) y = true) (G [.lst k, .t x] μ')) :
    Gives k μ (fun y => smN (2 * N + 1) y = true) (mkF 2 2 false (b__law_spoilt (fun _ => G) n) [.lst k, .t d] μ) := by
  have body : Out k μ (fun y => smN (2 * N + 1) y = true) (b__law_spoilt (fun _ => G) n [some (.lst k), some (.t d), none, none] μ) := by
    have smd : smN (2 * N + 1) d = true := smN_mono (by omega) d sm
    have s1 : smN (2 * N + 1) (.tuple []) = true := smN_of (by simp) (by simp)
    have pick9 : ∀ μ0, Mv k μ μ0 → ∀ δ, dVar 0 δ μ0 = .ok (.lst k) μ0 → dVar 1 δ μ0 = .ok (.t d) μ0 → Out k μ (fun y => smN (2 * N + 1) y = true) (sRet ((dCall F__law_pick (dCons (dVar 0) (dCons ((dLst false ((dCons (dC .none) (dCons (dC (.str "ada")) (dCons (dC (.str "")) (dCons (dC (.int 5)) (dCons ((dTup (dNil))) (dCons ((dTup ((dCons (dC (.int 1)) dNil)))) (dCons ((dTup ((dCons ((dTup (dNil))) dNil)))) (dCons ((dTup ((dCons (dC (.str "a")) dNil)))) (dCons (dVar 1) dNil)))))))))))) dNil)))) δ μ0) := by
      intro μ0 mv δ h0 h1
      refine out_ret mv (pick_gives (xs := [.none, .str "ada", .str "", .int 5, .tuple [], .tuple [.int 1], .tuple [.tuple []], .tuple [.str "a"], d]) h0 (mv.dr dr.lt) ?_ (by simp) ?_)
      · exact dLst_ok (cons_ok rfl (cons_ok rfl (cons_ok rfl (cons_ok rfl (cons_ok tup_nil (cons_ok (tup_one rfl) (cons_ok (tup_one tup_nil) (cons_ok (tup_one rfl) (cons_ok h1 rfl))))))))) rfl (by simp)
      · intro x hx
        simp only [List.mem_cons, List.not_mem_nil, or_false] at hx
        rcases hx with rfl | rfl | rfl | rfl | rfl | rfl | rfl | rfl | rfl
        · simp [smN]
        · simp [smN]
        · simp [smN]
        · simp [smN]
        · exact s1
        · exact smN_of (by simp) (by simp [smN])
        · exact smN_of (by simp) (by simpa using s1)
        · exact smN_of (by simp) (by simp [smN])
        · exact smd
    cases hT : isT d with
    | false =>
      refine out_seq (out_eq (if_te (or_t ((not_ok (tru_ok (isi_ok (d := d) rfl isB_tup))).trans (by rw [hT]; rfl))) rfl) (pick9 μ (Mv.refl dr) _ rfl rfl))
    | true =>
      obtain ⟨xs, rfl⟩ : ∃ xs, d = .tuple xs := by
        cases d <;> first | exact ⟨_, rfl⟩ | cases hT
      obtain ⟨hl, hxs⟩ := smN_tup sm
      obtain ⟨i, μ1, i0, i1, mv1, e1⟩ := drawn (v := 0) (k := k) (δ := [some (.lst k), some (.t (.tuple xs)), none, none]) (μ := μ) (b := dC (.int 6)) (n := 6) (fun _ => rfl) dr (fun _ _ => rfl) (by decide)
      have c1 := or_f ((not_ok (tru_ok (isi_ok (a := dVar 1) (δ := [some (.lst k), some (.t (.tuple xs)), none, none]) (μ := μ) (μ' := μ) (d := .tuple xs) rfl isB_tup))).trans (show _ = R.ok false μ from rfl)) (eqi_ok (c := 0) e1)
      by_cases hi : (i == 0) = true
      · exact out_seq (out_eq (if_te c1 hi) (pick9 μ1 mv1 _ rfl rfl))
      · refine out_eq ((seq_ok ((if_fe c1 (Bool.eq_false_iff.mpr hi)).trans rfl))) ?_
        have ceq : cEq (.tuple xs) (.tuple []) = some (PyData.eqv (.tuple xs) (.tuple [])) := by
          show (if shp 16 (.tuple xs) && shp 16 (.tuple []) then some (PyData.eqv (.tuple xs) (.tuple [])) else none) = _
          rw [shp_le hm sh]
          rfl
        have c2 : dCmpT cEq (dVar 1) (dTup dNil) [some (.lst k), some (.t (.tuple xs)), none, none] μ1 = .ok (PyData.eqv (.tuple xs) (.tuple [])) μ1 := by
          unfold dCmpT
          rw [show dVar 1 [some (D.lst k), some (.t (.tuple xs)), none, none] μ1 = .ok (.t (.tuple xs)) μ1 from rfl, bind_ok, tup_nil, bind_ok]
          show (match cEq (.tuple xs) (.tuple []) with
            | some r => R.ok r μ1
            | none => .bad) = _
          rw [ceq]
        by_cases he : PyData.eqv (.tuple xs) (.tuple []) = true
        · refine out_seq (out_eq (if_te c2 he) ?_)
          refine out_ret mv1 (pick_gives (xs := [.tuple [.int 0], .tuple [.str ""], .tuple [.tuple []], .none]) rfl (mv1.dr dr.lt) ?_ (by simp) ?_)
          · exact dLst_ok (cons_ok (tup_one rfl) (cons_ok (tup_one rfl) (cons_ok (tup_one tup_nil) (cons_ok rfl rfl)))) rfl (by simp)
          · intro x hx
            simp only [List.mem_cons, List.not_mem_nil, or_false] at hx
            rcases hx with rfl | rfl | rfl | rfl
            · exact smN_of (by simp) (by simp [smN])
            · exact smN_of (by simp) (by simp [smN])
            · exact smN_of (by simp) (by simpa using s1)
            · simp [smN]
        · have ne : xs ≠ [] := fun z => by
            subst z
            exact he (by decide +kernel)
          have pos : 0 < xs.length := List.length_pos_iff.mpr ne
          refine out_eq (seq_ok ((if_fe c2 (Bool.eq_false_iff.mpr he)).trans rfl)) ?_
          obtain ⟨j, μ2, j0, j1, mv2, e2⟩ := drawn (v := 0) (k := k) (δ := [some (.lst k), some (.t (.tuple xs)), none, none]) (μ := μ1) (b := dCall (g1 fLen) (dCons (dVar 1) dNil)) (n := (xs.length : Nat)) (fun _ => rfl) (mv1.dr dr.lt) (fun _ _ => call1_ok rfl rfl) (by omega)
          refine out_eq (seq_ok (set_ok' e2)) ?_
          obtain ⟨q, μ3, q0, q1, mv3, e3⟩ := drawn (v := 0) (k := k) (δ := [some (.lst k), some (.t (.tuple xs)), some (.t (.int j)), none]) (μ := μ2) (b := dC (.int 5)) (n := 5) (fun _ => rfl) (mv2.dr (by rw [mv1.len]; exact dr.lt)) (fun _ _ => rfl) (by decide)
          refine out_eq (seq_ok (set_ok' e3)) ?_
          have mv := (mv1.trans mv2).trans mv3
          have dr3 : Dr k μ3 := mv.dr dr.lt
          have lows : ∀ μ', dSl false (dVar 1) dNoO (dSomeO (dVar 2)) [some (.lst k), some (.t (.tuple xs)), some (.t (.int j)), some (.t (.int q))] μ' = .ok (.t (.tuple (cutP xs none (some j)))) μ' := fun μ' => sl_tup rfl rfl (some_ok rfl)
          have plus : ∀ μ', dAdd false (dVar 2) (dC (.int 1)) [some (.lst k), some (.t (.tuple xs)), some (.t (.int j)), some (.t (.int q))] μ' = .ok (.t (.int (j + 1))) μ' := fun μ' => add_int rfl rfl
          have highs : ∀ μ', dSl false (dVar 1) (dSomeO (dAdd false (dVar 2) (dC (.int 1)))) dNoO [some (.lst k), some (.t (.tuple xs)), some (.t (.int j)), some (.t (.int q))] μ' = .ok (.t (.tuple (cutP xs (some (j + 1)) none))) μ' := fun μ' => sl_tup rfl (some_ok (plus μ')) rfl
          have mids : ∀ μ', dSl false (dVar 1) (dSomeO (dVar 2)) (dSomeO (dAdd false (dVar 2) (dC (.int 1)))) [some (.lst k), some (.t (.tuple xs)), some (.t (.int j)), some (.t (.int q))] μ' = .ok (.t (.tuple (cutP xs (some j) (some (j + 1))))) μ' := fun μ' => sl_tup rfl (some_ok rfl) (some_ok (plus μ'))
          have lc := cutP_length xs none (some j)
          have hc := cutP_length xs (some (j + 1)) none
          have mc := cutP_length xs (some j) (some (j + 1))
          have up : ∀ x ∈ xs, smN (2 * N + 1) x = true := fun x hx => smN_mono (by omega) x (hxs x hx)
          have k0 := eqi_ok (a := dVar 3) (δ := [some (.lst k), some (.t (.tuple xs)), some (.t (.int j)), some (.t (.int q))]) (μ := μ3) (μ' := μ3) (i := q) (c := 0) rfl
          have k1 := eqi_ok (a := dVar 3) (δ := [some (.lst k), some (.t (.tuple xs)), some (.t (.int j)), some (.t (.int q))]) (μ := μ3) (μ' := μ3) (i := q) (c := 1) rfl
          by_cases hq : (q == 0) = true
          · refine out_seq (out_eq (if_te k0 hq) (out_ret mv ⟨_, μ3, add_tup (lows μ3) (highs μ3) (by omega), ?_, Mv.refl dr3⟩))
            refine smN_of (by rw [List.length_append]; omega) fun x hx => ?_
            rcases List.mem_append.mp hx with hx | hx
            · exact up x (cut_sub hx)
            · exact up x (cut_sub hx)
          · refine out_eq (seq_ok ((if_fe k0 (Bool.eq_false_iff.mpr hq)).trans rfl)) ?_
            refine out_ret mv ?_
            by_cases hq1 : (q == 1) = true
            · refine ⟨.tuple (xs ++ cutP xs (some j) (some (j + 1))), μ3, ?_, ?_, Mv.refl dr3⟩
              · unfold dIf
                rw [k1, bind_ok, hq1, if_pos rfl]
                exact add_tup rfl (mids μ3) (by omega)
              · refine smN_of (by rw [List.length_append]; omega) fun x hx => ?_
                rcases List.mem_append.mp hx with hx | hx
                · exact up x hx
                · exact up x (cut_sub hx)
            · have at_ : ∃ x, atI xs j = some x ∧ x ∈ xs := by
                have e : atI xs j = xs[j.toNat]? := by
                  unfold atI ixN
                  rw [if_pos j0, if_pos j1]
                  rfl
                rw [e, List.getElem?_eq_getElem (by omega)]
                exact ⟨_, rfl, List.getElem_mem _⟩
              obtain ⟨x, ex, hx⟩ := at_
              have ix : dIx (dVar 1) (dVar 2) [some (.lst k), some (.t (.tuple xs)), some (.t (.int j)), some (.t (.int q))] μ3 = .ok (.t x) μ3 := by
                show (match atI xs j with
                  | some r => R.ok (D.t r) μ3
                  | none => .bad) = _
                rw [ex]
              have shx : shp m (.tuple [x]) = true := by
                cases m with
                | zero => simp [shp] at sh
                | succ m =>
                  rw [shp] at sh ⊢
                  rw [shpL, shp_mem sh hx]
                  rfl
              obtain ⟨y, μ4, ey, hy, mv4⟩ := hG x μ3 shx (hxs x hx) dr3
              refine ⟨.tuple (cutP xs none (some j) ++ [y] ++ cutP xs (some (j + 1)) none), μ4, ?_, ?_, mv4⟩
              · unfold dIf
                rw [k1, bind_ok, Bool.eq_false_iff.mpr hq1, if_neg Bool.false_ne_true]
                exact add_tup (add_tup (lows μ3) (tup_one (call2_ok rfl ix ey)) (by simp; omega)) (highs μ4) (by simp; omega)
              · refine smN_of (by simp; omega) fun z hz => ?_
                rcases List.mem_append.mp hz with hz | hz
                · rcases List.mem_append.mp hz with hz | hz
                  · exact up z (cut_sub hz)
                  · rw [List.mem_singleton] at hz
                    rw [hz]
                    exact hy
                · exact up z (cut_sub hz)
  obtain ⟨y, μ', e, hy, mv⟩ := body
  exact ⟨y, μ', mkF_t rfl e mv.len, hy, mv⟩
theorem spoilt_ok {k N : Nat} (hN : 1 ≤ N) (hN2 : N ≤ 400) : ∀ (m : Nat) (d : PyData) (μ : Mu), m ≤ 16 → shp m d = true → smN N d = true → Dr k μ → Gives k μ (fun y => smN (2 * N + 1) y = true) (F__law_spoilt (m + 1) [.lst k, .t d] μ)
  | 0, d, μ, hm, sh, sm, dr => spoilt_step hN hN2 (F__law_spoilt 0) 0 d μ hm sh sm dr fun x μ' h _ _ => by simp [shp] at h
  | m + 1, d, μ, hm, sh, sm, dr => spoilt_step hN hN2 (F__law_spoilt (m + 1)) (m + 1) d μ hm sh sm dr fun x μ' h sx dx => by
    rw [shp, shpL, Bool.and_eq_true] at h
    exact spoilt_ok hN hN2 m x μ' (by omega) h.1 sx dx

/-! ## words -/
theorem for_eq {di : DI} {g : DG} {s : DS} {δ : Sl} {μ μ1 : Mu} {p : It'} (h1 : di δ μ = .ok p μ1) : sFor di g s δ μ = forL (chk p) g s p.1 δ μ1 := by
  unfold sFor
  rw [h1, toS_ok]
theorem part_sub {x y : Str} {p : Str} (h : p ∈ Txt.split x y) : p.length ≤ x.length ∧ ∀ c ∈ p.cps.toList, c ∈ x.cps.toList := by
  unfold Txt.split at h
  have whole : p ∈ [x] → p.length ≤ x.length ∧ ∀ c ∈ p.cps.toList, c ∈ x.cps.toList := fun z => by
    rw [List.mem_singleton] at z
    rw [z]
    exact ⟨Nat.le_refl _, fun c hc => hc⟩
  split at h
  · exact whole h
  · split at h
    · exact whole h
    · unfold Builtin.Str.partsBetween at h
      obtain ⟨⟨i, j⟩, _, rfl⟩ := List.mem_map.mp h
      unfold Builtin.Str.strSub
      refine ⟨?_, fun c hc => ?_⟩
      · show (x.cps.extract i j).size ≤ x.cps.size
        rw [Array.size_extract]
        omega
      · have h2 : c ∈ List.take (j - i) (List.drop i x.cps.toList) := by simpa using hc
        exact List.mem_of_mem_drop (List.mem_of_mem_take h2)
def okC (c : Nat) : Bool := if !decide (([c] : List Nat) < [33]) then !decide (([126] : List Nat) < [c]) else false
def badW (w : Str) : Bool := (w == "") || !(w.cps.toList.all okC)
def badP : PyData → Bool
  | .str t => badW t
  | _ => false
def wordsP (ws : List Str) : PyData := if ws.any badW then .none else .list (ws.map .str)
theorem split_meth {δ : Sl} {μ : Mu} {a : DE} {s : Str} (h : a δ μ = .ok (.t (.str s)) μ) (z : s.length ≤ 1000) : (dMeth isS (gM1 fSplit) a (dCons (dC (.str " ")) dNil)) δ μ = .ok (.t (.list ((Txt.split s " ").map .str))) μ := by
  unfold dMeth
  rw [h, bind_ok, if_pos (show rdIs isS μ (.t (.str s)) = true from rfl), cons_ok rfl rfl, bind_ok]
  show (match fSplit (.str s) (.str " ") with
    | some r => R.ok (D.t r) μ
    | none => .bad) = _
  have e : fSplit (.str s) (.str " ") = some (strL (Txt.split s " ")) := by
    unfold fSplit
    dsimp only
    have a1 : (Txt.split s " ").all (fun x => decide (x.length ≤ sizeLine)) = true := List.all_eq_true.mpr fun p hp => decide_eq_true (by have := (part_sub hp).1; rw [sizeLine_eq]; omega)
    rw [a1, decide_eq_true (show s.length + 2 ≤ sizeLine by rw [sizeLine_eq]; omega)]
    rfl
  rw [e]
  rfl
theorem bang_form {v w : Nat} {δ : Sl} {μ : Mu} {s : Str} (hv : dVar v δ μ = .ok (.t (.str s)) μ) (hw : w < δ.length) (z : s.length ≤ 1000) :
    (dCall (g1 fAll) (dCons ((dLc false [w] (dSeqI (dVar v)) (gN w) (dYes) ((dChain cLe cLe (dC (.str "!")) (dVar w) (dC (.str "~")))))) dNil)) δ μ = .ok (.t (.bool (s.cps.toList.all okC))) μ := by
  have inner : dLc false [w] (dSeqI (dVar v)) (gN w) dYes (dChain cLe cLe (dC (.str "!")) (dVar w) (dC (.str "~"))) δ μ = .ok (.t (.list ((signsOf s).map fun x => .bool (match x with
      | .str t => t.cps.toList.all okC
      | _ => false)))) μ := by
    refine dLc_all (fun x => .bool (match x with
      | .str t => t.cps.toList.all okC
      | _ => false)) (xs := signsOf s) ?_ ?_ ?_
    · unfold dSeqI
      rw [hv, bind_ok]
      rfl
    · rw [signsOf_length]
      exact Nat.le_trans z (by rw [sizeLine_eq]; decide)
    · intro x hx μ' _
      refine ⟨δ.set w (some (.t x)), ?_, ?_⟩
      · unfold gN wipeD wipeD
        rw [List.set_set]
      · unfold signsOf at hx
        obtain ⟨c, _, rfl⟩ := List.mem_map.mp hx
        have e : dVar w (δ.set w (some (.t (.str ⟨#[c]⟩)))) μ' = .ok (.t (.str ⟨#[c]⟩)) μ' := by
          unfold dVar
          rw [List.getElem?_set_self hw]
        unfold dChain bval dChainT
        rw [show dC (.str "!") (δ.set w (some (.t (.str ⟨#[c]⟩)))) μ' = .ok (.t (.str "!")) μ' from rfl, bind_ok, e, bind_ok]
        show ((R.ok (!decide (([c] : List Nat) < [33])) μ').bind _).bind _ = _
        rw [bind_ok]
        show _ = R.ok (D.t (PyData.bool (okC c && true))) μ'
        rw [Bool.and_true]
        unfold okC
        cases decide (([c] : List Nat) < [33]) with
        | true => rfl
        | false => rfl
  refine (all_ok (xs := signsOf s) (fun x => match x with
      | .str t => t.cps.toList.all okC
      | _ => false) inner).trans ?_
  unfold signsOf
  rw [List.all_map]
  have e : (fun c => okC c && true) = okC := by funext c; rw [Bool.and_true]
  show R.ok (D.t (PyData.bool (s.cps.toList.all fun c => okC c && true))) μ = _
  rw [e]
theorem words_ok (s : Str) (z : s.length ≤ 100) (μ : Mu) : F_words_of [.t (.str s)] μ = .ok (.t (wordsP (Txt.split s " "))) μ := by
  refine mkF_t rfl (μ' := μ) ?_ rfl
  show b_words_of [some (.t (.str s)), none, none, none] μ = _
  refine (seq_ok (set_ok' (split_meth rfl (by omega)))).trans ?_
  let ws := Txt.split s " "
  have body : ∀ x ∈ ws.map PyData.str, ∀ δ, (∃ a, δ = [some (.t (.str s)), some (.t (.list (ws.map .str))), a, none]) → ∃ δ1 δ2, gN 2 (.t x) δ μ = .nx δ1 μ ∧ (∃ a, δ2 = [some (.t (.str s)), some (.t (.list (ws.map .str))), a, none]) ∧
      (sIf ((dOrT ((dCmpT cEq (dVar 2) (dC (.str "")))) ((dNotT ((dTru ((dCall (g1 fAll) (dCons ((dLc false [3] (dSeqI (dVar 2)) (gN 3) (dYes) ((dChain cLe cLe (dC (.str "!")) (dVar 3) (dC (.str "~")))))) dNil))))))))) (sRet (dC .none)) sSkip) δ1 μ = if badP x then .rt (.t .none) μ else .nx δ2 μ := by
    rintro x hx δ ⟨a, rfl⟩
    obtain ⟨w, hw, rfl⟩ := List.mem_map.mp hx
    have wl := (part_sub hw).1
    refine ⟨_, [some (.t (.str s)), some (.t (.list (ws.map .str))), some (.t (.str w)), none], rfl, ⟨_, rfl⟩, ?_⟩
    have c1 := eqs_ok (v := 2) (δ := [some (.t (.str s)), some (.t (.list (ws.map .str))), some (.t (.str w)), none]) (μ := μ) (z := w) (c := "") rfl
    have c2 := not_ok (tru_ok (bang_form (v := 2) (w := 3) (δ := [some (.t (.str s)), some (.t (.list (ws.map .str))), some (.t (.str w)), none]) (μ := μ) (s := w) rfl (by simp) (by omega)))
    show _ = if badW w then _ else _
    unfold badW
    cases hE : (w == "") with
    | true =>
      rw [hE] at c1
      rw [Bool.true_or, if_pos rfl]
      exact (if_t (or_t c1)).trans rfl
    | false =>
      rw [hE] at c1
      rw [Bool.false_or]
      have c3 := or_f c1 c2
      cases hA : (w.cps.toList.all okC) with
      | true =>
        rw [hA] at c3
        exact (if_f c3).trans rfl
      | false =>
        rw [hA] at c3
        exact (if_t c3).trans rfl
  obtain ⟨f1, f2⟩ := forL_find (ok := chk (ws.map PyData.str, none)) (g := gN 2) (v := .t .none) (μ := μ) (s := sIf ((dOrT ((dCmpT cEq (dVar 2) (dC (.str "")))) ((dNotT ((dTru ((dCall (g1 fAll) (dCons ((dLc false [3] (dSeqI (dVar 2)) (gN 3) (dYes) ((dChain cLe cLe (dC (.str "!")) (dVar 3) (dC (.str "~")))))) dNil))))))))) (sRet (dC .none)) sSkip)
    (fun δ => ∃ a, δ = [some (.t (.str s)), some (.t (.list (ws.map .str))), a, none]) badP rfl (ws.map .str) [some (.t (.str s)), some (.t (.list (ws.map .str))), none, none] ⟨_, rfl⟩ body
  have anys : (ws.map PyData.str).any badP = ws.any badW := by rw [List.any_map]; rfl
  rw [anys] at f1 f2
  unfold wordsP
  cases hb : ws.any badW with
  | true =>
    have e := f1 hb
    rw [if_pos rfl]
    exact seq_out ((for_eq (p := (ws.map .str, none)) rfl).trans e)
  | false =>
    obtain ⟨δ', e, a, rfl⟩ := f2 hb
    rw [if_neg Bool.false_ne_true]
    exact (seq_ok (for_run (p := (ws.map .str, none)) rfl e)).trans rfl
theorem line_ok (s : Str) (z : s.length ≤ 100) (μ : Mu) : F__law_line [.t (.str s)] μ = .ok (.t (wordsP (Txt.split s " "))) μ := words_ok s z μ
/-! ## repr -/
theorem repr_ok {a : DE} {δ : Sl} {μ μ' : Mu} {d : PyData} (h : a δ μ = .ok (.t d) μ') (ok : repOk d = true) : dCall (g1 fRepr) (dCons a dNil) δ μ = .ok (.t (.str d.shown)) μ' := by
  refine call1_ok h ?_
  unfold g1 ap1 rd
  dsimp only
  unfold fRepr
  rw [ok]
  rfl
theorem strs_all : ∀ {ws : List Str} {n : Nat}, (∀ w ∈ ws, w.length ≤ n ∧ ∀ c ∈ w.cps.toList, c < 16 ^ 8) → PyData.showableAll (ws.map .str) = true ∧ PyData.leavesShortAll 2000 (ws.map .str) = true ∧ PyData.bulkAll (ws.map .str) ≤ ws.length * (n + 1) ∧ PyData.depthAll (ws.map .str) = 0
  | [], _, _ => ⟨rfl, rfl, by simp [PyData.bulkAll], by simp [PyData.depthAll]⟩
  | w :: ws, n, h => by
    obtain ⟨h1, h2⟩ := h w (by simp)
    obtain ⟨i1, i2, i3, i4⟩ := strs_all (ws := ws) (n := n) fun v hv => h v (by simp [hv])
    refine ⟨?_, ?_, ?_, ?_⟩
    · rw [List.map_cons, PyData.showableAll, i1]; rfl
    · rw [List.map_cons, PyData.leavesShortAll, i2, PyData.leavesShort, Bool.and_true]
      exact List.all_eq_true.mpr fun c hc => decide_eq_true (h2 c hc)
    · rw [List.map_cons, PyData.bulkAll, PyData.bulk, List.length_cons, Nat.succ_mul]
      have : w.cps.size ≤ n := h1
      omega
    · rw [List.map_cons, PyData.depthAll, i4]
      simp [PyData.depth]
theorem words_rep (s : Str) (z : s.length ≤ 60) (hs : ∀ c ∈ s.cps.toList, c < 16 ^ 8) : repOk (wordsP (Txt.split s " ")) = true := by
  unfold wordsP
  split
  · decide +kernel
  · obtain ⟨i1, i2, i3, i4⟩ := strs_all (ws := Txt.split s " ") (n := 60) fun w hw => ⟨Nat.le_trans (part_sub hw).1 z, fun c hc => hs c ((part_sub hw).2 c hc)⟩
    have hl := PyProof.Rows.split_le s " "
    have hb : PyData.bulk (.list ((Txt.split s " ").map .str)) ≤ 8000 := by
      rw [PyData.bulk]
      have : (Txt.split s " ").length * 61 ≤ 62 * 61 := Nat.mul_le_mul_right _ (by omega)
      omega
    have hd : PyData.depth (.list ((Txt.split s " ").map .str)) ≤ 50 := by
      rw [PyData.depth, i4]
      decide
    unfold repOk
    rw [PyData.showable, i1, PyData.leavesShort, i2, decide_eq_true hb, decide_eq_true hd]
    rfl
theorem two_rep : ((List.range 100).all fun n => repOk (.list [.bool true, .int (n : Nat)]) && repOk (.list [.bool false, .int (n : Nat)])) = true := by decide +kernel
theorem pair_rep (b : Bool) {r : PyData} (h : okN r = true) : repOk (.list [.bool b, r]) = true := by
  cases r with
  | none => cases b <;> decide +kernel
  | int i =>
    unfold okN at h
    simp only [Bool.and_eq_true, decide_eq_true_eq] at h
    have q := List.all_eq_true.mp two_rep i.toNat (by rw [List.mem_range]; omega)
    rw [Bool.and_eq_true] at q
    have e : ((i.toNat : Nat) : Int) = i := by omega
    rw [e] at q
    cases b with
    | true => exact q.1
    | false => exact q.2
  | _ => cases h
theorem ne_same {a b : DE} {δ : Sl} {μ μ1 μ2 : Mu} {x : Str} (h : a δ μ = .ok (.t (.str x)) μ1) (h2 : b δ μ1 = .ok (.t (.str x)) μ2) : dCmpT cNe a b δ μ = .ok false μ2 := by
  unfold dCmpT
  rw [h, bind_ok, h2, bind_ok]
  show R.ok (!(x == x)) μ2 = _
  rw [beq_self_eq_true]
  rfl

/-! ## the law -/
def Sh (δ : Sl) : Prop := δ.length = 14 ∧ δ[1]? = some (some (.lst 1))
theorem Sh.set {δ : Sl} (h : Sh δ) {i : Nat} (x : Option D) (hi : i ≠ 1) : Sh (δ.set i x) := ⟨by rw [List.length_set]; exact h.1, by rw [List.getElem?_set_ne hi]; exact h.2⟩
theorem Sh.var {δ : Sl} (h : Sh δ) (μ : Mu) : dVar 1 δ μ = .ok (.lst 1) μ := by unfold dVar; rw [h.2]
theorem var_set {δ : Sl} {i : Nat} {x : D} (h : i < δ.length) (μ : Mu) : dVar i (δ.set i (some x)) μ = .ok x μ := by unfold dVar; rw [List.getElem?_set_self h]
theorem var_keep {δ : Sl} {i j : Nat} {x : Option D} (h : i ≠ j) (μ : Mu) : dVar i (δ.set j x) μ = dVar i δ μ := by unfold dVar; rw [List.getElem?_set_ne (Ne.symm h)]
theorem lc_set (δ : Sl) (w : Nat) (x : PyData) (μ : Mu) : gN w (.t x) (wipeD δ [w]) μ = .nx (δ.set w (some (.t x))) μ := by
  unfold gN wipeD wipeD
  rw [List.set_set]
/-- ''.join([_law_pick(draws, pieces) for at in range(int(_law_next(draws)) % n)]) -/
theorem text_drawn {δ : Sl} {μ : Mu} {A : DE} {n : Nat} {ps : List Str} (sh : Sh δ) (dr : Dr 1 μ) (hn : 0 < n) (hn2 : n ≤ 1000) (hA : ∀ δ μ, A δ μ = .ok (.t (.list (ps.map .str))) μ) (hps : ps ≠ []) (h2 : ∀ p ∈ ps, p.length ≤ 2) :
    ∃ qs μ', (dMeth isS (gM1 fJoin) (dC (.str "")) (dCons ((dLc false [11] (dRange1 ((dBin fMod ((dCall (g1 fInt) (dCons ((dCall F__law_next (dCons (dVar 1) dNil))) dNil))) (dC (.int n))))) (gN 11) (dYes) ((dCall F__law_pick (dCons (dVar 1) (dCons A dNil)))))) dNil)) δ μ = .ok (.t (.str (Txt.join "" qs))) μ' ∧ Mv 1 μ μ' ∧ qs.length ≤ n ∧ ∀ q ∈ qs, q ∈ ps := by
  obtain ⟨i, μ1, i0, i1, mv1, e1⟩ := drawn (v := 1) (k := 1) (δ := δ) (μ := μ) (b := dC (.int n)) (n := (n : Nat)) (fun μ' => sh.var μ') dr (fun _ _ => rfl) (by omega)
  have ei : i = ((i.toNat : Nat) : Int) := by omega
  rw [ei] at e1
  have hi := dRange1_ok (n := i.toNat) (by omega) e1
  have dr1 := mv1.dr dr.lt
  obtain ⟨ys, μ2, e2, mv2, hl, hP⟩ := dLc_draw (vs := [11]) (g := gN 11) (de := dCall F__law_pick (dCons (dVar 1) (dCons A dNil))) (δ := δ) (j := 1) (fun y => ∃ p ∈ ps, y = .str p) hi (by rw [intsFrom_length, sizeLine_eq]; omega) dr1 (fun x hx μ' _ dr' => by
    obtain ⟨y, μ3, e, hy, mv⟩ := pick_gives (v := 1) (k := 1) (δ := δ.set 11 (some (.t x))) (μ := μ') (as := A) (xs := ps.map .str) (P := fun y => ∃ p ∈ ps, y = .str p) ((sh.set _ (by decide)).var μ') dr' (hA _ _) (by simpa using hps) (fun z hz => by
      obtain ⟨p, hp, rfl⟩ := List.mem_map.mp hz
      exact ⟨p, hp, rfl⟩)
    exact ⟨_, y, μ3, lc_set δ 11 x μ', e, hy, mv⟩)
  have back : ∀ ys : List PyData, (∀ y ∈ ys, ∃ p ∈ ps, y = .str p) → ∃ qs : List Str, ys = qs.map .str ∧ ∀ q ∈ qs, q ∈ ps := by
    intro ys
    induction ys with
    | nil => exact fun _ => ⟨[], rfl, by simp⟩
    | cons y ys ih =>
      intro h
      obtain ⟨p, hp, rfl⟩ := h y (by simp)
      obtain ⟨qs, rfl, hq⟩ := ih fun z hz => h z (by simp [hz])
      exact ⟨p :: qs, rfl, fun q hq' => by
        rcases List.mem_cons.mp hq' with rfl | hq'
        · exact hp
        · exact hq q hq'⟩
  obtain ⟨qs, rfl, hq⟩ := back ys hP
  rw [List.length_map, intsFrom_length] at hl
  exact ⟨qs, μ2, join_ok e2 (fun p hp => h2 p (hq p hp)) (by omega), mv1.trans mv2, by omega, hq⟩
theorem join_mem {ps qs : List Str} (h : ∀ q ∈ qs, q ∈ ps) {c : Nat} (hc : c ∈ (Txt.join "" qs).cps.toList) : ∃ p ∈ ps, c ∈ p.cps.toList := by
  rw [join_list] at hc
  obtain ⟨l, hl, hcl⟩ := List.mem_flatten.mp hc
  obtain ⟨q, hq, rfl⟩ := List.mem_map.mp hl
  exact ⟨q, h q hq, hcl⟩
theorem join_short {ps qs : List Str} {n : Nat} (h : ∀ q ∈ qs, q ∈ ps) (h2 : ∀ p ∈ ps, p.length ≤ 2) (hn : qs.length ≤ n) : (Txt.join "" qs).length ≤ 2 * n := by
  rw [join_len]
  have := sum_le fun q hq => h2 q (h q hq)
  omega
abbrev pcs1 : List Str := ["a", "b", " ", "0", "7", "~", "!", "(", "A", "\t", "-", "z", "  "]
abbrev pcs2 : List Str := ["a", "k", "z", "9", "0", "1", "", "", "B"]
theorem pcs1_ok : (pcs1.all fun p => decide (p.length ≤ 2) && p.cps.toList.all fun c => decide (c < 128)) = true := by decide +kernel
theorem pcs2_ok : (pcs2.all fun p => decide (p.length ≤ 2) && p.cps.toList.all fun c => decide (c ∈ alph)) = true := by decide +kernel
theorem pcs_len {ps : List Str} {f : Nat → Bool} (h : (ps.all fun p => decide (p.length ≤ 2) && p.cps.toList.all f) = true) : (∀ p ∈ ps, p.length ≤ 2) ∧ ∀ p ∈ ps, ∀ c ∈ p.cps.toList, f c = true := by
  refine ⟨fun p hp => ?_, fun p hp c hc => ?_⟩
  · have := List.all_eq_true.mp h p hp
    rw [Bool.and_eq_true, decide_eq_true_eq] at this
    exact this.1
  · have := List.all_eq_true.mp h p hp
    rw [Bool.and_eq_true] at this
    exact List.all_eq_true.mp this.2 c hc
abbrev lineD : DE := (dMeth isS (gM1 fJoin) (dC (.str "")) (dCons ((dLc false [11] (dRange1 ((dBin fMod ((dCall (g1 fInt) (dCons ((dCall F__law_next (dCons (dVar 1) dNil))) dNil))) (dC (.int 9))))) (gN 11) (dYes) ((dCall F__law_pick (dCons (dVar 1) (dCons ((dLst false ((dCons (dC (.str "a")) (dCons (dC (.str "b")) (dCons (dC (.str " ")) (dCons (dC (.str "0")) (dCons (dC (.str "7")) (dCons (dC (.str "~")) (dCons (dC (.str "!")) (dCons (dC (.str "(")) (dCons (dC (.str "A")) (dCons (dC (.str "\t")) (dCons (dC (.str "-")) (dCons (dC (.str "z")) (dCons (dC (.str "  ")) dNil)))))))))))))))) dNil)))))) dNil))
abbrev wordD : DE := (dMeth isS (gM1 fJoin) (dC (.str "")) (dCons ((dLc false [11] (dRange1 ((dBin fMod ((dCall (g1 fInt) (dCons ((dCall F__law_next (dCons (dVar 1) dNil))) dNil))) (dC (.int 15))))) (gN 11) (dYes) ((dCall F__law_pick (dCons (dVar 1) (dCons ((dLst false ((dCons (dC (.str "a")) (dCons (dC (.str "k")) (dCons (dC (.str "z")) (dCons (dC (.str "9")) (dCons (dC (.str "0")) (dCons (dC (.str "1")) (dCons (dC (.str "")) (dCons (dC (.str "")) (dCons (dC (.str "B")) dNil)))))))))))) dNil)))))) dNil))
abbrev smallD : DE := (dAndV ((dChain cLe cLe (dC (.int 1)) ((dCall (g1 fLen) (dCons (dVar 4) dNil))) (dC (.int 12)))) ((dCall (g1 fAll) (dCons ((dLc false [12] (dSeqI (dVar 4)) (gN 12) (dYes) ((dCmp cIn (dVar 12) (dC (.str "abcdefghijklmnopqrstuvwxyz")))))) dNil))))
abbrev test1 : DT := (dCmpT cNe ((dCall (g1 fRepr) (dCons ((dCall F_words_of (dCons (dVar 3) dNil))) dNil))) ((dCall (g1 fRepr) (dCons ((dCall F__law_line (dCons (dVar 3) dNil))) dNil))))
abbrev test2 : DT := (dCmpT cNe ((dCall (g1 fRepr) (dCons ((dLst false ((dCons ((dCall F_is_name (dCons (dVar 4) dNil))) (dCons ((dCall F_number_in (dCons (dVar 4) dNil))) dNil))))) dNil))) ((dCall (g1 fRepr) (dCons ((dLst false ((dCons (dVar 5) (dCons ((dCall F__law_number_of (dCons (dVar 4) dNil))) dNil))))) dNil))))
abbrev turnS : DS := (sSeq (sSet 3 lineD) (sSeq (sIf test1 (sRet (dC (.bool false))) sSkip) (sSeq (sSet 4 wordD) (sSeq (sSet 5 smallD) (sIf test2 (sRet (dC (.bool false))) sSkip)))))
def Inv1 (δ : Sl) (μ : Mu) : Prop := Sh δ ∧ Dr 1 μ
theorem lst1 (δ : Sl) (μ : Mu) : (dLst false (dCons (dC (.str "a")) (dCons (dC (.str "b")) (dCons (dC (.str " ")) (dCons (dC (.str "0")) (dCons (dC (.str "7")) (dCons (dC (.str "~")) (dCons (dC (.str "!")) (dCons (dC (.str "(")) (dCons (dC (.str "A")) (dCons (dC (.str "\t")) (dCons (dC (.str "-")) (dCons (dC (.str "z")) (dCons (dC (.str "  ")) dNil)))))))))))))) δ μ = .ok (.t (.list (pcs1.map .str))) μ := dLst_ok rfl rfl (by simp)
theorem lst2 (δ : Sl) (μ : Mu) : (dLst false (dCons (dC (.str "a")) (dCons (dC (.str "k")) (dCons (dC (.str "z")) (dCons (dC (.str "9")) (dCons (dC (.str "0")) (dCons (dC (.str "1")) (dCons (dC (.str "")) (dCons (dC (.str "")) (dCons (dC (.str "B")) dNil)))))))))) δ μ = .ok (.t (.list (pcs2.map .str))) μ := dLst_ok rfl rfl (by simp)
theorem turn_ok {δ : Sl} {μ : Mu} (h : Inv1 δ μ) : ∃ δ' μ', turnS δ μ = .nx δ' μ' ∧ Inv1 δ' μ' := by
  obtain ⟨sh, dr⟩ := h
  obtain ⟨l1, c1⟩ := pcs_len pcs1_ok
  obtain ⟨l2, c2⟩ := pcs_len pcs2_ok
  obtain ⟨qs, μ1, e1, mv1, n1, m1⟩ := text_drawn (n := 9) (ps := pcs1) sh dr (by decide) (by decide) lst1 (by simp) l1
  generalize hx : Txt.join "" qs = x at e1
  have lx : x.length ≤ 18 := by rw [← hx]; exact join_short m1 l1 n1
  have cx : ∀ c ∈ x.cps.toList, c < 16 ^ 8 := fun c hc => by
    rw [← hx] at hc
    obtain ⟨p, hp, hcp⟩ := join_mem m1 hc
    have := c1 p hp c hcp
    rw [decide_eq_true_eq] at this
    exact Nat.lt_trans this (by decide)
  have sh1 := sh.set (some (.t (.str x))) (i := 3) (by decide)
  have v3 : ∀ μ, dVar 3 (δ.set 3 (some (.t (.str x)))) μ = .ok (.t (.str x)) μ := fun μ => var_set (by rw [sh.1]; decide) μ
  have rep := words_rep x (by omega) cx
  have t1 : test1 (δ.set 3 (some (.t (.str x)))) μ1 = .ok false μ1 := ne_same (repr_ok (call1_ok (v3 μ1) (words_ok x (by omega) μ1)) rep) (repr_ok (call1_ok (v3 μ1) (line_ok x (by omega) μ1)) rep)
  have dr1 := mv1.dr dr.lt
  obtain ⟨rs, μ2, e2, mv2, n2, m2⟩ := text_drawn (n := 15) (ps := pcs2) sh1 dr1 (by decide) (by decide) lst2 (by simp) l2
  generalize hy : Txt.join "" rs = y at e2
  have ly : y.length ≤ 30 := by rw [← hy]; exact join_short m2 l2 n2
  have cy : ∀ c ∈ y.cps.toList, c ∈ alph := fun c hc => by
    rw [← hy] at hc
    obtain ⟨p, hp, hcp⟩ := join_mem m2 hc
    have := c2 p hp c hcp
    rw [decide_eq_true_eq] at this
    exact this
  generalize hδ : (δ.set 3 (some (D.t (.str x)))) = δ1 at sh1 t1 e2
  have sh2 := sh1.set (some (.t (.str y))) (i := 4) (by decide)
  have v4 : ∀ μ, dVar 4 (δ1.set 4 (some (.t (.str y)))) μ = .ok (.t (.str y)) μ := fun μ => var_set (by rw [sh1.1]; decide) μ
  have s3 : smallD (δ1.set 4 (some (.t (.str y)))) μ2 = .ok (.t (.bool (nameB y))) μ2 := name_form (v4 μ2) (by rw [sh2.1]; decide) (by omega)
  generalize hδ2 : (δ1.set 4 (some (D.t (.str y)))) = δ2 at sh2 v4 s3
  have sh3 := sh2.set (some (.t (.bool (nameB y)))) (i := 5) (by decide)
  have v5 : ∀ μ, dVar 5 (δ2.set 5 (some (.t (.bool (nameB y))))) μ = .ok (.t (.bool (nameB y))) μ := fun μ => var_set (by rw [sh2.1]; decide) μ
  have v4' : ∀ μ, dVar 4 (δ2.set 5 (some (.t (.bool (nameB y))))) μ = .ok (.t (.str y)) μ := fun μ => (var_keep (by decide) μ).trans (v4 μ)
  obtain ⟨r, r1, r2, r3⟩ := num_same cy
  have lay : PyData.canLay0 (.str y) = true := by
    rw [PyData.canLay0]
    refine Array.all_eq_true'.mpr fun c hc => decide_eq_true ?_
    have := cy c (by simpa using hc)
    simp only [alph, List.mem_cons, List.not_mem_nil, or_false] at this
    omega
  have rep2 := pair_rep (nameB y) r3
  have t2 : test2 (δ2.set 5 (some (.t (.bool (nameB y))))) μ2 = .ok false μ2 :=
    ne_same (repr_ok (dLst_ok (cons_ok (call1_ok (v4' μ2) (name_ok y (by omega) μ2)) (cons_ok (call1_ok (v4' μ2) (number_in_ok y (by omega) r1 μ2)) rfl)) rfl (by simp)) rep2)
      (repr_ok (dLst_ok (cons_ok (v5 μ2) (cons_ok (call1_ok (v4' μ2) (number_of_ok y (by omega) lay r2 μ2)) rfl)) rfl (by simp)) rep2)
  refine ⟨_, μ2, ?_, sh3, mv2.dr (by rw [mv1.len]; exact dr.lt)⟩
  refine (seq_ok (set_ok' e1)).trans ?_
  rw [hδ]
  refine (seq_ok ((if_f t1).trans rfl)).trans ?_
  refine (seq_ok (set_ok' e2)).trans ?_
  rw [hδ2]
  refine (seq_ok (set_ok' s3)).trans ?_
  exact (if_f t2).trans rfl

abbrev S1 : DS := (sSet 1 ((dCall F__law_draws (dCons (dVar 0) dNil))))
abbrev S2 : DS := (sSet 1 ((dCall F__law_more (dCons (dVar 1) (dCons (dC (.int 200)) dNil)))))
abbrev S3 : DS := (sIf ((dCmpT cNe ((dLst false ((dCons ((dCall F_words_of (dCons (dC (.str "a b")) dNil))) (dCons ((dCall F_is_name (dCons (dC (.str "abcdefghijkl")) dNil))) (dCons ((dCall F_is_name (dCons (dC (.str "abcdefghijklm")) dNil))) (dCons ((dCall F_number_in (dCons (dC (.str "07")) dNil))) (dCons ((dCall F_number_in (dCons (dC (.str "99")) dNil))) dNil)))))))) ((dLst false ((dCons ((dLst false ((dCons (dC (.str "a")) (dCons (dC (.str "b")) dNil))))) (dCons (dC (.bool true)) (dCons (dC (.bool false)) (dCons (dC .none) (dCons (dC (.int 99)) dNil)))))))))) (sRet (dC (.bool false))) sSkip)
abbrev S4 : DS := (sFor (dRange1 (dC (.int 6))) (gN 2) (sSeq (sSet 3 ((dMeth isS (gM1 fJoin) (dC (.str "")) (dCons ((dLc false [11] (dRange1 ((dBin fMod ((dCall (g1 fInt) (dCons ((dCall F__law_next (dCons (dVar 1) dNil))) dNil))) (dC (.int 9))))) (gN 11) (dYes) ((dCall F__law_pick (dCons (dVar 1) (dCons ((dLst false ((dCons (dC (.str "a")) (dCons (dC (.str "b")) (dCons (dC (.str " ")) (dCons (dC (.str "0")) (dCons (dC (.str "7")) (dCons (dC (.str "~")) (dCons (dC (.str "!")) (dCons (dC (.str "(")) (dCons (dC (.str "A")) (dCons (dC (.str "\t")) (dCons (dC (.str "-")) (dCons (dC (.str "z")) (dCons (dC (.str "  ")) dNil)))))))))))))))) dNil)))))) dNil))))   (sSeq (sIf ((dCmpT cNe ((dCall (g1 fRepr) (dCons ((dCall F_words_of (dCons (dVar 3) dNil))) dNil))) ((dCall (g1 fRepr) (dCons ((dCall F__law_line (dCons (dVar 3) dNil))) dNil))))) (sRet (dC (.bool false))) sSkip)   (sSeq (sSet 4 ((dMeth isS (gM1 fJoin) (dC (.str "")) (dCons ((dLc false [11] (dRange1 ((dBin fMod ((dCall (g1 fInt) (dCons ((dCall F__law_next (dCons (dVar 1) dNil))) dNil))) (dC (.int 15))))) (gN 11) (dYes) ((dCall F__law_pick (dCons (dVar 1) (dCons ((dLst false ((dCons (dC (.str "a")) (dCons (dC (.str "k")) (dCons (dC (.str "z")) (dCons (dC (.str "9")) (dCons (dC (.str "0")) (dCons (dC (.str "1")) (dCons (dC (.str "")) (dCons (dC (.str "")) (dCons (dC (.str "B")) dNil)))))))))))) dNil)))))) dNil))))   (sSeq (sSet 5 ((dAndV ((dChain cLe cLe (dC (.int 1)) ((dCall (g1 fLen) (dCons (dVar 4) dNil))) (dC (.int 12)))) ((dCall (g1 fAll) (dCons ((dLc false [12] (dSeqI (dVar 4)) (gN 12) (dYes) ((dCmp cIn (dVar 12) (dC (.str "abcdefghijklmnopqrstuvwxyz")))))) dNil))))))   (sIf ((dCmpT cNe ((dCall (g1 fRepr) (dCons ((dLst false ((dCons ((dCall F_is_name (dCons (dVar 4) dNil))) (dCons ((dCall F_number_in (dCons (dVar 4) dNil))) dNil))))) dNil))) ((dCall (g1 fRepr) (dCons ((dLst false ((dCons (dVar 5) (dCons ((dCall F__law_number_of (dCons (dVar 4) dNil))) dNil))))) dNil))))) (sRet (dC (.bool false))) sSkip))))))
abbrev S5 : DS := (sIf ((dCmpT cNe ((dLc false [4] (dSeqI ((dLst false ((dCons (dC (.str "")) (dCons (dC (.str "0")) (dCons (dC (.str "00")) (dCons (dC (.str "100")) (dCons (dC (.str "-1")) (dCons (dC (.str "5")) (dCons (dC (.str "+5")) (dCons (dC (.str " 5")) (dCons (dC (.str "5 ")) dNil))))))))))))) (gN 4) (dYes) ((dCall (g1 fRepr) (dCons ((dCall F_number_in (dCons (dVar 4) dNil))) dNil))))) ((dLst false ((dCons (dC (.str "None")) (dCons (dC (.str "0")) (dCons (dC (.str "None")) (dCons (dC (.str "None")) (dCons (dC (.str "None")) (dCons (dC (.str "5")) (dCons (dC (.str "None")) (dCons (dC (.str "None")) (dCons (dC (.str "None")) dNil)))))))))))))) (sRet (dC (.bool false))) sSkip)
abbrev S6 : DS := (sSet 6 ((dLst false ((dCons ((dTup ((dCons ((dTup ((dCons ((dTup ((dCons (dC (.int 1)) (dCons (dC (.int 2)) dNil))))) dNil)))) (dCons ((dTup ((dCons ((dTup ((dCons (dC (.int 1)) (dCons (dC (.int 2)) dNil))))) dNil)))) dNil))))) (dCons ((dTup ((dCons ((dTup ((dCons (dC (.int 1)) (dCons (dC (.int 1)) dNil))))) (dCons ((dTup ((dCons (dC (.int 2)) (dCons (dC (.int 1)) dNil))))) dNil))))) (dCons ((dTup ((dCons ((dTup ((dCons ((dTup ((dCons (dC (.int 1)) (dCons (dC (.int 2)) dNil))))) dNil)))) (dCons ((dTup ((dCons ((dTup ((dCons (dC (.int 1)) (dCons (dC (.int 2)) dNil))))) dNil)))) (dCons ((dTup (dNil))) dNil)))))) (dCons ((dTup ((dCons (dC (.int 0)) (dCons (dC (.int 1)) (dCons (dC (.int 1)) dNil)))))) (dCons ((dTup ((dCons ((dTup (dNil))) (dCons ((dTup ((dCons ((dTup ((dCons (dC (.int 1)) dNil)))) dNil)))) dNil))))) dNil)))))))))
abbrev S7 : DS := (sFor (dSeqI ((dAdd false ((dAdd false (dVar 6) ((dLc false [2] (dRange1 (dC (.int 12))) (gN 2) (dYes) ((dCall (F__law_spoilt 6) (dCons (dVar 1) (dCons ((dCall F__law_pick (dCons (dVar 1) (dCons (dVar 6) dNil)))) dNil)))))))) ((dLst false ((dCons ((dTup (dNil))) (dCons (dC .none) (dCons (dC (.str "")) (dCons (dC (.int 0)) dNil)))))))))) (gN 7) (sSeq (sSet 8 ((dLst false ((dCons (dC (.str "fractions")) (dCons (dC (.str "table")) (dCons (dC (.str "pair")) (dCons (dC (.str "row")) dNil))))))))   (sIf ((dCmpT cNe ((dLc false [13] (dSeqI (dVar 8)) (gN 13) (dYes) ((dCall F_has_form (dCons (dVar 13) (dCons (dVar 7) dNil)))))) ((dLc false [13] (dSeqI (dVar 8)) (gN 13) (dYes) ((dCall F__law_due (dCons (dVar 13) (dCons (dVar 7) dNil)))))))) (sRet (dC (.bool false))) sSkip)))
abbrev S8 : DS := (sFor (dSeqI ((dLst false ((dCons (dC (.str "")) (dCons (dC (.str "Form")) (dCons (dC (.str "term")) dNil))))))) (gN 9) (sTryQ kindOf 10 "!number" (sSeq (sExpr ((dCall F_has_form (dCons (dVar 9) (dCons ((dTup (dNil))) dNil)))))   (sRet (dC (.bool false))))))
abbrev S9 : DS := (sRet (dC (.bool true)))
theorem cmp_ok {f : Cm} {a b : DE} {δ : Sl} {μ μ1 μ2 : Mu} {p q : PyData} {r : Bool} (ha : a δ μ = .ok (.t p) μ1) (hb : b δ μ1 = .ok (.t q) μ2) (e : f p q = some r) : dCmpT f a b δ μ = .ok r μ2 := by
  unfold dCmpT
  rw [ha, bind_ok, hb, bind_ok]
  unfold ap2c rd
  dsimp only
  rw [e]
theorem seqI_ok {a : DE} {δ : Sl} {μ μ' : Mu} {xs : List PyData} (h : a δ μ = .ok (.t (.list xs)) μ') : dSeqI a δ μ = .ok (xs, none) μ' := by
  unfold dSeqI
  rw [h, bind_ok]
  rfl
theorem addL_ok {a b : DE} {δ : Sl} {μ μ1 μ2 : Mu} {xs ys : List PyData} (ha : a δ μ = .ok (.t (.list xs)) μ1) (hb : b δ μ1 = .ok (.t (.list ys)) μ2) (z : xs.length + ys.length ≤ 10000) : dAdd false a b δ μ = .ok (.t (.list (xs ++ ys))) μ2 := by
  unfold dAdd
  rw [ha, bind_ok, hb, bind_ok]
  unfold apAdd lstOf
  dsimp only
  rw [if_pos (Nat.le_trans z (by rw [sizeLine_eq]; decide))]
  rfl
theorem s3_ok (δ : Sl) (μ : Mu) : S3 δ μ = .nx δ μ := by
  refine (if_f (cmp_ok (μ1 := μ) (p := .list [wordsP (Txt.split "a b" " "), .bool (nameB "abcdefghijkl"), .bool (nameB "abcdefghijklm"), .none, .int 99]) (q := .list [.list [.str "a", .str "b"], .bool true, .bool false, .none, .int 99]) ?_ ?_ (by kernel_rfl))).trans rfl
  · exact dLst_ok (cons_ok (call1_ok rfl (words_ok "a b" (by decide) μ)) (cons_ok (call1_ok rfl (name_ok "abcdefghijkl" (by decide) μ)) (cons_ok (call1_ok rfl (name_ok "abcdefghijklm" (by decide) μ)) (cons_ok (call1_ok rfl (number_in_ok "07" (by decide) (by kernel_rfl) μ)) (cons_ok (call1_ok rfl (number_in_ok "99" (by decide) (by kernel_rfl) μ)) rfl))))) rfl (by simp)
  · exact dLst_ok (cons_ok (dLst_ok (ps := [.str "a", .str "b"]) rfl rfl (by simp)) rfl) rfl (by simp)
abbrev nine : List Str := ["", "0", "00", "100", "-1", "5", "+5", " 5", "5 "]
theorem nine_ok : (nine.all fun s => decide (s.length ≤ 600) && match numB s with
  | some r => repOk r
  | none => false) = true := by decide +kernel
def rep9 : PyData → PyData
  | .str s => match numB s with
    | some r => .str r.shown
    | none => .none
  | _ => .none
theorem s5_ok {δ : Sl} (sh : Sh δ) (μ : Mu) : S5 δ μ = .nx δ μ := by
  refine (if_f (cmp_ok (μ1 := μ) (p := .list ((nine.map PyData.str).map rep9)) (q := .list [.str "None", .str "0", .str "None", .str "None", .str "None", .str "5", .str "None", .str "None", .str "None"]) ?_ ?_ (by kernel_rfl))).trans rfl
  · refine dLc_all rep9 (xs := nine.map .str) (seqI_ok (dLst_ok rfl rfl (by simp))) (by rw [List.length_map, sizeLine_eq]; decide) ?_
    intro x hx μ' _
    obtain ⟨s, hs, rfl⟩ := List.mem_map.mp hx
    refine ⟨_, lc_set δ 4 _ μ', ?_⟩
    have k := List.all_eq_true.mp nine_ok s hs
    rw [Bool.and_eq_true, decide_eq_true_eq] at k
    obtain ⟨k1, k2⟩ := k
    cases hr : numB s with
    | none => rw [hr] at k2; cases k2
    | some r =>
      rw [hr] at k2
      have e := repr_ok (call1_ok (var_set (δ := δ) (i := 4) (x := .t (.str s)) (by rw [sh.1]; decide) μ') (number_in_ok s k1 hr μ')) k2
      unfold rep9
      dsimp only
      rw [hr]
      exact e
  · exact dLst_ok rfl rfl (by simp)
abbrev P12 : PyData := .tuple [.int 1, .int 2]
abbrev terms : List PyData := [.tuple [.tuple [P12], .tuple [P12]], .tuple [.tuple [.int 1, .int 1], .tuple [.int 2, .int 1]], .tuple [.tuple [P12], .tuple [P12], .tuple []], .tuple [.int 0, .int 1, .int 1], .tuple [.tuple [], .tuple [.tuple [.int 1]]]]
theorem terms_ok : (terms.all fun d => shp 5 d && smN 5 d) = true := by decide +kernel
theorem s6_ok (δ : Sl) (μ : Mu) : S6 δ μ = .nx (δ.set 6 (some (.t (.list terms)))) μ := set_ok' (by kernel_rfl)
abbrev rest4 : List PyData := [.tuple [], .none, .str "", .int 0]
theorem rest_sm : (rest4.all smB) = true := by decide +kernel
theorem same4 : ∀ b1 b2 b3 b4 : Bool, cNe (.list [.bool b1, .bool b2, .bool b3, .bool b4]) (.list [.bool b1, .bool b2, .bool b3, .bool b4]) = some false := by
  intro b1 b2 b3 b4
  cases b1 <;> cases b2 <;> cases b3 <;> cases b4 <;> kernel_rfl
abbrev kinds4 : List Str := ["fractions", "table", "pair", "row"]
abbrev checkS : DS := (sSeq (sSet 8 ((dLst false ((dCons (dC (.str "fractions")) (dCons (dC (.str "table")) (dCons (dC (.str "pair")) (dCons (dC (.str "row")) dNil))))))))
  (sIf ((dCmpT cNe ((dLc false [13] (dSeqI (dVar 8)) (gN 13) (dYes) ((dCall F_has_form (dCons (dVar 13) (dCons (dVar 7) dNil)))))) ((dLc false [13] (dSeqI (dVar 8)) (gN 13) (dYes) ((dCall F__law_due (dCons (dVar 13) (dCons (dVar 7) dNil)))))))) (sRet (dC (.bool false))) sSkip))
theorem check_ok {δ : Sl} {μ : Mu} {d : PyData} (sh : Sh δ) (sm : smB d = true) : ∃ δ', checkS (δ.set 7 (some (.t d))) μ = .nx δ' μ ∧ Sh δ' := by
  have sh7 := sh.set (some (.t d)) (i := 7) (by decide)
  have v7 : ∀ μ, dVar 7 (δ.set 7 (some (.t d))) μ = .ok (.t d) μ := fun μ => var_set (by rw [sh.1]; decide) μ
  generalize δ.set 7 (some (D.t d)) = δ1 at sh7 v7
  have sh8 := sh7.set (some (.t (.list (kinds4.map .str)))) (i := 8) (by decide)
  have v8 : ∀ μ, dVar 8 (δ1.set 8 (some (.t (.list (kinds4.map .str))))) μ = .ok (.t (.list (kinds4.map .str))) μ := fun μ => var_set (by rw [sh7.1]; decide) μ
  have v7' : ∀ μ, dVar 7 (δ1.set 8 (some (.t (.list (kinds4.map .str))))) μ = .ok (.t d) μ := fun μ => (var_keep (by decide) μ).trans (v7 μ)
  have s1 : sSet 8 ((dLst false ((dCons (dC (.str "fractions")) (dCons (dC (.str "table")) (dCons (dC (.str "pair")) (dCons (dC (.str "row")) dNil))))))) δ1 μ = .nx (δ1.set 8 (some (.t (.list (kinds4.map .str))))) μ := set_ok' (dLst_ok rfl rfl (by simp))
  generalize δ1.set 8 (some (D.t (.list (kinds4.map .str)))) = δ2 at sh8 v8 v7' s1
  have lc : ∀ F : DF, (∀ z ∈ kinds4, ∀ μ, F [.t (.str z), .t d] μ = .ok (.t (.bool (formB z d))) μ) → dLc false [13] (dSeqI (dVar 8)) (gN 13) dYes (dCall F (dCons (dVar 13) (dCons (dVar 7) dNil))) δ2 μ = .ok (.t (.list [.bool (formB "fractions" d), .bool (formB "table" d), .bool (formB "pair" d), .bool (formB "row" d)])) μ := by
    intro F hF
    refine dLc_all (fun x => match x with
      | .str z => .bool (formB z d)
      | _ => .none) (xs := kinds4.map .str) (seqI_ok (v8 μ)) (by rw [List.length_map, sizeLine_eq]; decide) ?_
    intro x hx μ' _
    obtain ⟨z, hz, rfl⟩ := List.mem_map.mp hx
    exact ⟨_, lc_set δ2 13 _ μ', call2_ok (var_set (by rw [sh8.1]; decide) μ') ((var_keep (by decide) μ').trans (v7' μ')) (hF z hz μ')⟩
  refine ⟨δ2, (seq_ok s1).trans ((if_f (cmp_ok (lc _ fun z hz μ => form_ok hz d sm μ) (lc _ fun z hz μ => due_ok hz d sm μ) (same4 _ _ _ _))).trans rfl), sh8⟩
theorem s7_ok {δ : Sl} {μ : Mu} (h : Inv1 δ μ) (h6 : ∀ μ, dVar 6 δ μ = .ok (.t (.list terms)) μ) : ∃ δ' μ', S7 δ μ = .nx δ' μ' ∧ Inv1 δ' μ' := by
  obtain ⟨sh, dr⟩ := h
  have hi : dRange1 (dC (.int 12)) δ μ = .ok (intsFrom 0 12, none) μ := dRange1_ok (n := 12) (by decide) rfl
  obtain ⟨ys, μ2, e2, mv2, hl, hP⟩ := dLc_draw (vs := [2]) (g := gN 2) (de := dCall (F__law_spoilt 6) (dCons (dVar 1) (dCons ((dCall F__law_pick (dCons (dVar 1) (dCons (dVar 6) dNil)))) dNil))) (δ := δ) (j := 1) (fun y => smB y = true) hi (by rw [intsFrom_length, sizeLine_eq]; decide) dr (fun x hx μ' _ dr' => by
    have shx := sh.set (some (.t x)) (i := 2) (by decide)
    have v6 : dVar 6 (δ.set 2 (some (.t x))) μ' = .ok (.t (.list terms)) μ' := (var_keep (by decide) μ').trans (h6 μ')
    obtain ⟨d, μ3, e3, hd, mv3⟩ := pick_gives (v := 1) (k := 1) (P := fun d => (shp 5 d && smN 5 d) = true) (shx.var μ') dr' v6 (by simp) (fun z hz => List.all_eq_true.mp terms_ok z hz)
    rw [Bool.and_eq_true] at hd
    obtain ⟨y, μ4, e4, hy, mv4⟩ := spoilt_ok (k := 1) (N := 5) (by decide) (by decide) 5 d μ3 (by decide) hd.1 hd.2 (mv3.dr dr'.lt)
    exact ⟨_, y, μ4, lc_set δ 2 x μ', call2_ok (shx.var μ') e3 e4, smN_mono (by decide) y hy, mv3.trans mv4⟩)
  rw [intsFrom_length] at hl
  have items : dSeqI ((dAdd false ((dAdd false (dVar 6) ((dLc false [2] (dRange1 (dC (.int 12))) (gN 2) (dYes) ((dCall (F__law_spoilt 6) (dCons (dVar 1) (dCons ((dCall F__law_pick (dCons (dVar 1) (dCons (dVar 6) dNil)))) dNil)))))))) ((dLst false ((dCons ((dTup (dNil))) (dCons (dC .none) (dCons (dC (.str "")) (dCons (dC (.int 0)) dNil))))))))) δ μ = .ok (terms ++ ys ++ rest4, none) μ2 :=
    seqI_ok (addL_ok (addL_ok (h6 μ) e2 (by rw [hl]; decide)) (dLst_ok (ps := rest4) (cons_ok tup_nil rfl) rfl (by simp)) (by rw [List.length_append, hl]; decide))
  have good : ∀ x ∈ terms ++ ys ++ rest4, smB x = true := by
    intro x hx
    rcases List.mem_append.mp hx with hx | hx
    · rcases List.mem_append.mp hx with hx | hx
      · have := List.all_eq_true.mp terms_ok x hx
        rw [Bool.and_eq_true] at this
        exact smN_mono (by decide) x this.2
      · exact hP x hx
    · exact List.all_eq_true.mp rest_sm x hx
  obtain ⟨j, δ', μ', _, e, I⟩ := forL_inv (ok := chk (terms ++ ys ++ rest4, none)) (g := gN 7) (s := checkS) (fun _ δ μ => Sh δ ∧ Dr 1 μ) (terms ++ ys ++ rest4).length (fun _ => rfl) (terms ++ ys ++ rest4) 0 δ μ2 ⟨sh, mv2.dr dr.lt⟩ (by omega) (fun x hx i δ μ _ hI => by
    obtain ⟨δ2, e, sh2⟩ := check_ok (μ := μ) hI.1 (good x hx)
    exact ⟨_, μ, δ2, μ, rfl, ⟨sh2, hI.2⟩, .inl e⟩)
  exact ⟨δ', μ', (for_eq items).trans e, I⟩
theorem refused {z : Str} (hz : z ∈ (["", "Form", "term"] : List Str)) (μ : Mu) : F_has_form [.t (.str z), .t (.tuple [])] μ = .ex "BadNumber" none μ := by
  refine mkF_ex (δ := [some (.t (.str z)), some (.t (.tuple []))]) rfl (μ' := μ) ?_ rfl
  have k : ks_FORMS z = some false := by
    simp only [List.mem_cons, List.not_mem_nil, or_false] at hz
    rcases hz with rfl | rfl | rfl <;> decide +kernel
  have t : dInTab ks_FORMS (dVar 0) [some (.t (.str z)), some (.t (.tuple []))] μ = .ok true μ := by
    unfold dInTab
    rw [show dVar 0 [some (D.t (.str z)), some (D.t (.tuple []))] μ = .ok (.t (.str z)) μ from rfl, bind_ok]
    dsimp only
    rw [k]
    rfl
  show sSeq _ _ [some (D.t (.str z)), some (D.t (.tuple []))] μ = _
  unfold sSeq
  rw [show (sIf ((dInTab ks_FORMS (dVar 0))) (sRaise "BadNumber") sSkip) [some (D.t (.str z)), some (D.t (.tuple []))] μ = .ex "BadNumber" none [some (.t (.str z)), some (.t (.tuple []))] μ from (if_t t).trans rfl]
  rfl
abbrev tryS : DS := (sTryQ kindOf 10 "!number" (sSeq (sExpr ((dCall F_has_form (dCons (dVar 9) (dCons ((dTup (dNil))) dNil))))) (sRet (dC (.bool false)))))
theorem try_ok {δ : Sl} {μ : Mu} {z : Str} (sh : Sh δ) (hz : z ∈ (["", "Form", "term"] : List Str)) : ∃ δ', tryS (δ.set 9 (some (.t (.str z)))) μ = .nx δ' μ ∧ Sh δ' := by
  have sh9 := sh.set (some (.t (.str z))) (i := 9) (by decide)
  have v9 : dVar 9 (δ.set 9 (some (.t (.str z)))) μ = .ok (.t (.str z)) μ := var_set (by rw [sh.1]; decide) μ
  generalize δ.set 9 (some (D.t (.str z))) = δ1 at sh9 v9
  refine ⟨δ1.set 10 none, ?_, sh9.set none (by decide)⟩
  have b : (sSeq (sExpr ((dCall F_has_form (dCons (dVar 9) (dCons ((dTup (dNil))) dNil))))) (sRet (dC (.bool false)))) δ1 μ = .ex "BadNumber" none δ1 μ := by
    unfold sSeq sExpr
    rw [call2_ok v9 tup_nil (refused hz μ)]
    rfl
  unfold tryS sTryQ
  rw [b]
  try dsimp only
  rw [show kindOf "BadNumber" = some ("!number" : Str) from by kernel_rfl]
  try dsimp only
  rw [if_pos (show 10 < δ1.length by rw [sh9.1]; decide), show cNe (.str "!number") (.str "!number") = some false from by kernel_rfl]
theorem s8_ok {δ : Sl} {μ : Mu} (sh : Sh δ) : ∃ δ', S8 δ μ = .nx δ' μ := by
  have items : dSeqI ((dLst false ((dCons (dC (.str "")) (dCons (dC (.str "Form")) (dCons (dC (.str "term")) dNil)))))) δ μ = .ok ((["", "Form", "term"] : List Str).map .str, none) μ := seqI_ok (dLst_ok rfl rfl (by simp))
  obtain ⟨j, δ', μ', _, e, I⟩ := forL_inv (ok := chk ((["", "Form", "term"] : List Str).map PyData.str, none)) (g := gN 9) (s := tryS) (fun _ δ μ' => Sh δ ∧ μ' = μ) 3 (fun _ => rfl) ((["", "Form", "term"] : List Str).map .str) 0 δ μ ⟨sh, rfl⟩ (by simp) (fun x hx i δ μ _ hI => by
    obtain ⟨z, hz, rfl⟩ := List.mem_map.mp hx
    obtain ⟨δ2, e, sh2⟩ := try_ok (μ := μ) hI.1 hz
    exact ⟨_, μ, δ2, μ, rfl, ⟨sh2, hI.2⟩, .inl e⟩)
  obtain ⟨_, rfl⟩ := I
  exact ⟨δ', (for_eq items).trans e⟩
theorem s4_ok {δ : Sl} {μ : Mu} (h : Inv1 δ μ) : ∃ δ' μ', S4 δ μ = .nx δ' μ' ∧ Inv1 δ' μ' := by
  have items : dRange1 (dC (.int 6)) δ μ = .ok (intsFrom 0 6, none) μ := dRange1_ok (n := 6) (by decide) rfl
  obtain ⟨j, δ', μ', _, e, I⟩ := forL_inv (ok := chk (intsFrom 0 6, none)) (g := gN 2) (s := turnS) (fun _ δ μ => Inv1 δ μ) 6 (fun _ => rfl) (intsFrom 0 6) 0 δ μ h (by rw [intsFrom_length]; decide) (fun x hx i δ μ _ hI => by
    obtain ⟨δ2, μ2, e, I2⟩ := turn_ok (δ := δ.set 2 (some (.t x))) (μ := μ) ⟨hI.1.set _ (by decide), hI.2⟩
    exact ⟨_, μ, δ2, μ2, rfl, I2, .inl e⟩)
  exact ⟨δ', μ', (for_eq items).trans e, I⟩
theorem yes (ns : List Int) (h : ns.length ≤ 63) : ∃ μ, F_law [.fz (ns.map .int)] [] = .ok (.t (.bool true)) μ := by
  obtain ⟨ds, l1, g1, e1⟩ := draws_ok ns h
  obtain ⟨μ1, es, mv, gd, e2⟩ := more_ok (k := 0) (n := 200) (μ := [.l (ds.map .int)]) g1 (by omega) rfl
  let δ0 : Sl := [some (.fz (ns.map .int)), none, none, none, none, none, none, none, none, none, none, none, none, none]
  let δ2 : Sl := [some (.fz (ns.map .int)), some (.lst 1), none, none, none, none, none, none, none, none, none, none, none, none]
  have l2 : μ1.length = 1 := mv.len
  have t1 : S1 δ0 [] = .nx [some (.fz (ns.map .int)), some (.lst 0), none, none, none, none, none, none, none, none, none, none, none, none] [.l (ds.map .int)] := set_ok' (call1_ok rfl e1)
  have t2 : S2 [some (.fz (ns.map .int)), some (.lst 0), none, none, none, none, none, none, none, none, none, none, none, none] [.l (ds.map .int)] = .nx δ2 (μ1 ++ [.l (es.map .int)]) := set_ok' (call2_ok rfl rfl e2)
  have i2 : Inv1 δ2 (μ1 ++ [.l (es.map .int)]) := by
    refine ⟨⟨rfl, rfl⟩, es, gd, ?_⟩
    rw [List.getElem?_append_right (by omega), l2]
    rfl
  obtain ⟨δ4, μ4, t4, i4⟩ := s4_ok i2
  have sh6 := i4.1.set (some (.t (.list terms))) (i := 6) (by decide)
  obtain ⟨δ7, μ7, t7, i7⟩ := s7_ok (δ := δ4.set 6 (some (.t (.list terms)))) (μ := μ4) ⟨sh6, i4.2⟩ (fun μ => var_set (by rw [i4.1.1]; decide) μ)
  obtain ⟨δ8, t8⟩ := s8_ok (μ := μ7) i7.1
  have body : b_law δ0 [] = .rt (.t (.bool true)) μ7 := by
    show sSeq S1 (sSeq S2 (sSeq S3 (sSeq S4 (sSeq S5 (sSeq S6 (sSeq S7 (sSeq S8 S9))))))) δ0 [] = _
    rw [seq_ok t1, seq_ok t2, seq_ok (s3_ok _ _), seq_ok t4, seq_ok (s5_ok i4.1 _), seq_ok (s6_ok _ _), seq_ok t7, seq_ok t8]
    rfl
  exact ⟨_, mkF_rt (n := 1) (m := 13) (live := false) (args := [.fz (ns.map .int)]) rfl body⟩
theorem run0 (w : World) : HandSHeadRun.RunEq Rw (PySem.W.view Rw.prog [36]) hk ob 4000 loose (w.withFollow "special-get-raises" false) := by
  intro os
  kernel_rfl
theorem run1 (w : World) : HandSHeadRun.RunEq Rw (PySem.W.view Rw.prog [36]) hk ob 4000 loose (w.withFollow "special-get-raises" true) := by
  intro os
  kernel_rfl
theorem run (w : World) : HandSHeadRun.RunEq Rw (PySem.W.view Rw.prog [36]) hk ob 4000 loose w := PySem.W.byRow2 "special-get-raises" (P := fun w => HandSHeadRun.RunEq Rw (PySem.W.view Rw.prog [36]) hk ob 4000 loose w) run0 run1 w
end TW
open PySem PySem.W PySem.Calls PyProof.Rows
theorem PySem.Challenge.cw_loopsheld_k21_lines_and_forms_holds : PySem.Challenge.rw_loopsheld_k21_lines_and_forms.Holds := by
  w_on; o_law
  refine HandSHeadRun.head_any (r := OpenLaw.row PySem.Challenge.rw_loopsheld_k21_lines_and_forms) (q := view (OpenLaw.row PySem.Challenge.rw_loopsheld_k21_lines_and_forms).prog [36]) (H := TW.hk) (ob := TW.ob) (M := 4000) (loose := TW.loose) (d := HandSHeadRun.topDef (OpenLaw.row PySem.Challenge.rw_loopsheld_k21_lines_and_forms).prog 36) (kwd := []) TW.ob_eq
    (by kernel_rfl) (fun s => by kernel_rfl) TW.run (by kernel_rfl) (by kernel_rfl) (by kernel_rfl) (by rfl) (by first | assumption | decide +kernel) (by decide +kernel) ⟨rfl, rfl, rfl, rfl, rfl, by decide +kernel⟩ ?hw ?hc
  case hw => w_witness2
  case hc =>
    refine TV.walk_fe (l := PySem.Challenge.rw_loopsheld_k21_lines_and_forms) (n := 63) (k := 10) (x := "law") (F := TW.F_law) rfl (by decide) (by kernel_rfl) ⟨rfl, by decide, by decide⟩ (by kernel_rfl) ?top TW.yes
    intro w mg h Y G
    obtain ⟨K, kin, c⟩ := Y
    exact ⟨K, kin, fun base _ _ => TW.h_law ⟨c, h, kin, G⟩ base⟩
