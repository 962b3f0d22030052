import PyProof.Rows.All
import Wide.All
import OpenK.AllK
import Wide.FinOn
import HandS.ForMost
import HandS.ForExc
import HandS.Star
import HandS.TupAny
import HandS.TupMul
import HandS.Deep
import HandS.Wide
import HandS.Style
import HandS.Flow
import PyProof.StrBlock2
import HandS.IsInst
import HandS.RaiseMore
import HandS.Conv
import HandS.ExcOwn
import HandS.Defaults
import HandS.TryOnly
import HandS.HeadEnd
import HandS.HeadHook2
import HandS.Head2
import HandS.SetFor
import HandS.Text
import PyProof.ReprBulk
import HandS.HeadHook1
import HandS.ExcIs
import HandS.HotCalls
import HandS.HeadHook3
import HandS.More
import HandS.Head0
import HandS.Head1
import HandS.ExcInit
import HandS.ExcField
import HandS.ClsMeth
import KE.KStateDown
import Lean
import PySem.Challenge.RW_loopsheld_k20_texts_of_terms
set_option Elab.async false
set_option linter.all false
set_option maxRecDepth 100000
set_option maxHeartbeats 0
/-! TV: a layer of tree values over the hand layer. Data are trees (PyData); lists that a def goes on changing are live, by number. -/
namespace TV
open PySem PySem.Spec PyProof.Rows L2

/-! ## values, live objects, answers -/
inductive D where
  | t (x : PyData)
  | lst (n : Nat)
  | fz (xs : List PyData)
  | tupR (xs : List D)
  | ref (a : Addr)
  | ty (n : String)
  | glo (x : Str)
inductive O where
  | l (xs : List PyData)
  | ins (c : Str) (fs : List (Str × PyData))
abbrev Mu := List O
abbrev Sl := List (Option D)
inductive R (α : Type) where
  | ok (a : α) (μ : Mu)
  | ex (c : Str) (p : Option (List (Str × PyData))) (μ : Mu)
  | bad
inductive RS where
  | nx (δ : Sl) (μ : Mu)
  | bk (δ : Sl) (μ : Mu)
  | ct (δ : Sl) (μ : Mu)
  | rt (x : D) (μ : Mu)
  | ex (c : Str) (p : Option (List (Str × PyData))) (δ : Sl) (μ : Mu)
  | bad
abbrev DE := Sl → Mu → R D
abbrev DS := Sl → Mu → RS
abbrev DF := List D → Mu → R D
def R.bind {α β : Type} (r : R α) (k : α → Mu → R β) : R β := match r with
  | .ok a μ => k a μ
  | .ex c p μ => .ex c p μ
  | .bad => .bad
def RS.seq (r : RS) (k : DS) : RS := match r with
  | .nx δ μ => k δ μ
  | r => r
/-- an expression's answer on the way to a statement's -/
def R.toS {α : Type} (r : R α) (δ : Sl) (k : α → Mu → RS) : RS := match r with
  | .ok a μ => k a μ
  | .ex c p μ => .ex c p δ μ
  | .bad => .bad

/-! ## the relation -/
structure Gd where
  K : PySem.W.Frag
  mg : Str → Option Value
structure Wd where
  H : Hp
  m : Nat → Addr
  N : Nat
def Wd.off (w : Wd) (a : Addr) : Prop := ∀ n, n < w.N → w.m n ≠ a
mutual
def Rel (G : Gd) (w : Wd) : PyData → V → Prop
  | .none, v => v = .non
  | .bool b, v => v = .bl b
  | .int i, v => v = .int i
  | .str x, v => v = .str x ∧ x.length ≤ sizeLine
  | .list xs, v => ∃ a vs, v = .ref a ∧ w.H a = some (.lst vs) ∧ w.off a ∧ xs.length ≤ sizeLine ∧ RelL G w xs vs
  | .tuple xs, v => ∃ a vs, v = .ref a ∧ SqT G.K w.H a vs ∧ xs.length ≤ sizeLine ∧ RelL G w xs vs
  | .dict _, _ => False
def RelL (G : Gd) (w : Wd) : List PyData → List V → Prop
  | [], vs => vs = []
  | x :: xs, vs => ∃ v r, vs = v :: r ∧ Rel G w x v ∧ RelL G w xs r
end
/-- named data -/
def RelF (G : Gd) (w : Wd) : List (Str × PyData) → List (Str × V) → Prop
  | [], vs => vs = []
  | (n, x) :: xs, vs => ∃ v r, vs = (n, v) :: r ∧ Rel G w x v ∧ RelF G w xs r
def Holds (G : Gd) (w : Wd) : O → HO → Prop
  | .l xs, .lst vs => xs.length ≤ sizeLine ∧ RelL G w xs vs
  | .ins c fs, .ins C _ vfs => G.mg c = some (.ref C) ∧ RelF G w fs vfs
  | _, _ => False
structure Live (G : Gd) (w : Wd) (μ : Mu) : Prop where
  len : μ.length = w.N
  inj : ∀ i j, i < w.N → j < w.N → w.m i = w.m j → i = j
  at_ : ∀ i o, μ[i]? = some o → ∃ ho, w.H (w.m i) = some ho ∧ Holds G w o ho
/-- what grows: the live ones keep their places, all else that is tracked stays -/
structure Ext (w w' : Wd) : Prop where
  le : w.N ≤ w'.N
  ms : ∀ n, n < w.N → w'.m n = w.m n
  keep : ∀ a o, w.H a = some o → w.off a → w'.H a = some o ∧ w'.off a
def XRel (G : Gd) (w : Wd) : Option (List (Str × PyData)) → Option Addr → Prop
  | none, none => True
  | some fs, some a => ∃ vfs, w.H a = some (.xd vfs) ∧ RelF G w fs vfs
  | _, _ => False
mutual
def RelD (G : Gd) (w : Wd) : D → V → Prop
  | .t x, v => Rel G w x v
  | .lst n, v => n < w.N ∧ v = .ref (w.m n)
  | .fz xs, v => ∃ a vs, v = .ref a ∧ ((∃ o, w.H a = some (.frz o (.lst vs))) ∨ ∀ H, SqL G.K H a vs) ∧ xs.length ≤ sizeLine ∧ RelL G w xs vs
  | .tupR xs, v => ∃ a vs, v = .ref a ∧ SqT G.K w.H a vs ∧ xs.length ≤ sizeLine ∧ RelDL G w xs vs
  | .ref a, v => v = .ref a
  | .ty n, v => v = .ty n
  | .glo x, v => ∃ a, G.mg x = some (.ref a) ∧ v = .ref a
def RelDL (G : Gd) (w : Wd) : List D → List V → Prop
  | [], vs => vs = []
  | x :: xs, vs => ∃ v r, vs = v :: r ∧ RelD G w x v ∧ RelDL G w xs r
end
def Slots (G : Gd) (w : Wd) (δ : Sl) (σ : L2.St) : Prop := δ.length = σ.length ∧ ∀ (i : Nat) (d : D), δ[i]? = some (some d) → ∃ v : V, σ[i]? = some (some v) ∧ RelD G w d v

theorem Ext.refl (w : Wd) : Ext w w := ⟨Nat.le_refl _, fun _ _ => rfl, fun _ _ e o => ⟨e, o⟩⟩
theorem Ext.trans {a b c : Wd} (x : Ext a b) (y : Ext b c) : Ext a c :=
  ⟨Nat.le_trans x.le y.le, fun n h => (y.ms n (Nat.lt_of_lt_of_le h x.le)).trans (x.ms n h), fun q o e f => (fun z => y.keep q o z.1 z.2) (x.keep q o e f)⟩

section
variable {G : Gd} {w w' : Wd} {μ : Mu}
theorem Live.get (L : Live G w μ) {n : Nat} (h : n < w.N) : ∃ ho, w.H (w.m n) = some ho ∧ ∃ o, μ[n]? = some o ∧ Holds G w o ho := by
  have q : n < μ.length := by rw [L.len]; exact h
  obtain ⟨ho, e, r⟩ := L.at_ n μ[n] (List.getElem?_eq_getElem q)
  exact ⟨ho, e, _, List.getElem?_eq_getElem q, r⟩
/-- what is a tuple, or locked, is not live -/
theorem Live.off_of (L : Live G w μ) {a : Addr} {u : HO} (h : w.H a = some u) (k : ∀ o : O, ¬ Holds G w o u) : w.off a := fun n hn e => by
  obtain ⟨ho, q, o, _, r⟩ := L.get hn
  rw [e, h] at q
  cases q
  exact k o r
theorem Live.off_new (L : Live G w μ) {a : Addr} (h : w.H a = none) : w.off a := fun n hn e => by
  obtain ⟨ho, q, _⟩ := L.get hn
  rw [e, h] at q
  cases q
theorem SqT.ext (L : Live G w μ) (E : Ext w w') {a : Addr} {vs : List V} (h : SqT G.K w.H a vs) : SqT G.K w'.H a vs := by
  rcases h with (h | ⟨o, h⟩) | h
  · exact .inl (.inl (E.keep _ _ h (L.off_of h (by intro o; cases o <;> exact id))).1)
  · exact .inl (.inr ⟨o, (E.keep _ _ h (L.off_of h (by intro o; cases o <;> exact id))).1⟩)
  · exact .inr h
mutual
theorem Rel.ext (L : Live G w μ) (E : Ext w w') : ∀ (d : PyData) (v : V), Rel G w d v → Rel G w' d v
  | .none, _, h => by simpa [Rel] using h
  | .bool _, _, h => by simpa [Rel] using h
  | .int _, _, h => by simpa [Rel] using h
  | .str _, _, h => by simpa [Rel] using h
  | .dict _, _, h => by simp [Rel] at h
  | .list xs, v, h => by
    rw [Rel] at h ⊢
    obtain ⟨a, vs, e, r, f, z, l⟩ := h
    exact ⟨a, vs, e, (E.keep _ _ r f).1, (E.keep _ _ r f).2, z, RelL.ext L E xs vs l⟩
  | .tuple xs, v, h => by
    rw [Rel] at h ⊢
    obtain ⟨a, vs, e, r, z, l⟩ := h
    exact ⟨a, vs, e, SqT.ext L E r, z, RelL.ext L E xs vs l⟩
theorem RelL.ext (L : Live G w μ) (E : Ext w w') : ∀ (ds : List PyData) (vs : List V), RelL G w ds vs → RelL G w' ds vs
  | [], _, h => by simpa [RelL] using h
  | d :: ds, vs, h => by
    rw [RelL] at h ⊢
    obtain ⟨v, r, e, h1, h2⟩ := h
    exact ⟨v, r, e, Rel.ext L E d v h1, RelL.ext L E ds r h2⟩
end
theorem RelF.ext (L : Live G w μ) (E : Ext w w') : ∀ (ds : List (Str × PyData)) (vs : List (Str × V)), RelF G w ds vs → RelF G w' ds vs
  | [], _, h => by simpa [RelF] using h
  | (n, d) :: ds, vs, h => by
    rw [RelF] at h ⊢
    obtain ⟨v, r, e, h1, h2⟩ := h
    exact ⟨v, r, e, Rel.ext L E d v h1, RelF.ext L E ds r h2⟩
theorem Holds.ext (L : Live G w μ) (E : Ext w w') {o : O} {ho : HO} (h : Holds G w o ho) : Holds G w' o ho := by
  cases o with
  | l xs =>
    cases ho with
    | lst vs => exact ⟨h.1, RelL.ext L E xs vs h.2⟩
    | _ => exact h.elim
  | ins c fs =>
    cases ho with
    | ins C dx vfs => exact ⟨h.1, RelF.ext L E fs vfs h.2⟩
    | _ => exact h.elim
mutual
theorem RelD.ext (L : Live G w μ) (E : Ext w w') : ∀ (d : D) (v : V), RelD G w d v → RelD G w' d v
  | .t x, v, h => by rw [RelD] at h ⊢; exact Rel.ext L E x v h
  | .lst n, v, h => by
    rw [RelD] at h ⊢
    exact ⟨Nat.lt_of_lt_of_le h.1 E.le, by rw [E.ms n h.1]; exact h.2⟩
  | .fz xs, v, h => by
    rw [RelD] at h ⊢
    obtain ⟨a, vs, e, r, z, l⟩ := h
    refine ⟨a, vs, e, ?_, z, RelL.ext L E xs vs l⟩
    rcases r with ⟨o, r⟩ | r
    · exact .inl ⟨o, (E.keep _ _ r (L.off_of r (by intro o; cases o <;> exact id))).1⟩
    · exact .inr r
  | .tupR xs, v, h => by
    rw [RelD] at h ⊢
    obtain ⟨a, vs, e, r, z, l⟩ := h
    exact ⟨a, vs, e, SqT.ext L E r, z, RelDL.ext L E xs vs l⟩
  | .ref _, _, h => by simpa [RelD] using h
  | .ty _, _, h => by simpa [RelD] using h
  | .glo _, _, h => by simpa [RelD] using h
theorem RelDL.ext (L : Live G w μ) (E : Ext w w') : ∀ (ds : List D) (vs : List V), RelDL G w ds vs → RelDL G w' ds vs
  | [], _, h => by simpa [RelDL] using h
  | d :: ds, vs, h => by
    rw [RelDL] at h ⊢
    obtain ⟨v, r, e, h1, h2⟩ := h
    exact ⟨v, r, e, RelD.ext L E d v h1, RelDL.ext L E ds r h2⟩
end
theorem Slots.ext (L : Live G w μ) (E : Ext w w') {δ : Sl} {σ : L2.St} (S : Slots G w δ σ) : Slots G w' δ σ :=
  ⟨S.1, fun i d e => (fun ⟨v, h1, h2⟩ => ⟨v, h1, RelD.ext L E d v h2⟩) (S.2 i d e)⟩
/-- a new object that is no live one -/
def Wd.put (w : Wd) (a : Addr) (o : HO) : Wd := ⟨upd w.H a o, w.m, w.N⟩
theorem Ext.new (L : Live G w μ) {a : Addr} {o : HO} (h : w.H a = none) : Ext w (w.put a o) :=
  ⟨Nat.le_refl _, fun _ _ => rfl, fun b u e f => ⟨by show upd w.H a o b = some u; rw [upd_ne (ne_of_none e h)]; exact e, f⟩⟩
theorem Live.new (L : Live G w μ) {a : Addr} {o : HO} (h : w.H a = none) : Live G (w.put a o) μ :=
  ⟨L.len, L.inj, fun i q e => (fun ⟨ho, z, r⟩ => ⟨ho, by show upd w.H a o (w.m i) = some ho; rw [upd_ne (ne_of_none z h)]; exact z, Holds.ext L (Ext.new L h) r⟩) (L.at_ i q e)⟩
/-- a new live object -/
def Wd.add (w : Wd) (a : Addr) (o : HO) : Wd := ⟨upd w.H a o, fun n => if n = w.N then a else w.m n, w.N + 1⟩
theorem Wd.add_at (w : Wd) (a : Addr) (o : HO) : (w.add a o).m w.N = a := if_pos rfl
theorem Wd.add_lt (w : Wd) (a : Addr) (o : HO) {n : Nat} (h : n < w.N) : (w.add a o).m n = w.m n := if_neg (Nat.ne_of_lt h)
theorem Ext.add (L : Live G w μ) {a : Addr} {o : HO} (h : w.H a = none) : Ext w (w.add a o) := by
  refine ⟨Nat.le_succ _, fun n q => Wd.add_lt w a o q, fun b u e f => ⟨by show upd w.H a o b = some u; rw [upd_ne (ne_of_none e h)]; exact e, fun n hn => ?_⟩⟩
  by_cases q : n = w.N
  · rw [q, Wd.add_at]
    exact fun z => by rw [z] at h; rw [h] at e; cases e
  · have q2 : n < w.N := by have : n < w.N + 1 := hn; omega
    rw [Wd.add_lt w a o q2]
    exact f n q2
theorem Live.add (L : Live G w μ) {a : Addr} {q : O} {o : HO} (h : w.H a = none) (r : Holds G w q o) : Live G (w.add a o) (μ ++ [q]) := by
  have E := Ext.add (a := a) (o := o) L h
  refine ⟨by rw [List.length_append, L.len]; rfl, fun i j hi hj e => ?_, fun i u e => ?_⟩
  · have hi : i < w.N + 1 := hi
    have hj : j < w.N + 1 := hj
    have nn : ∀ k, k < w.N → w.m k ≠ a := L.off_new h
    by_cases p : i = w.N
    · by_cases p2 : j = w.N
      · rw [p, p2]
      · have : j < w.N := by omega
        rw [p, Wd.add_at, Wd.add_lt w a o this] at e
        exact absurd e.symm (nn j this)
    · have q1 : i < w.N := by omega
      by_cases p2 : j = w.N
      · rw [p2, Wd.add_at, Wd.add_lt w a o q1] at e
        exact absurd e (nn i q1)
      · have q2 : j < w.N := by omega
        rw [Wd.add_lt w a o q1, Wd.add_lt w a o q2] at e
        exact L.inj i j q1 q2 e
  · by_cases p : i < w.N
    · rw [List.getElem?_append_left (by rw [L.len]; exact p)] at e
      obtain ⟨ho, z, r'⟩ := L.at_ i u e
      refine ⟨ho, ?_, Holds.ext L E r'⟩
      rw [Wd.add_lt w a o p]
      show upd w.H a o (w.m i) = some ho
      rw [upd_ne (ne_of_none z h)]
      exact z
    · rw [List.getElem?_append_right (by rw [L.len]; omega), L.len] at e
      have p2 : i = w.N := by
        have := (List.getElem?_eq_some_iff.mp e).1
        simp at this
        omega
      subst p2
      simp at e
      subst e
      refine ⟨o, ?_, Holds.ext L E r⟩
      rw [Wd.add_at]
      exact upd_same
/-- the live object at n is changed -/
theorem Ext.set (L : Live G w μ) {n : Nat} (o : HO) (h : n < w.N) : Ext w ⟨upd w.H (w.m n) o, w.m, w.N⟩ :=
  ⟨Nat.le_refl _, fun _ _ => rfl, fun b u e f => ⟨by show upd w.H (w.m n) o b = some u; rw [upd_ne (fun z => f n h z.symm)]; exact e, f⟩⟩
theorem Live.set (L : Live G w μ) {n : Nat} {q : O} {o : HO} (h : n < w.N) (r : Holds G w q o) : Live G ⟨upd w.H (w.m n) o, w.m, w.N⟩ (μ.set n q) := by
  have E := Ext.set (o := o) L h
  refine ⟨by rw [List.length_set]; exact L.len, L.inj, fun i u e => ?_⟩
  by_cases p : n = i
  · subst p
    rw [List.getElem?_set_self (by rw [L.len]; exact h)] at e
    cases e
    exact ⟨o, upd_same, Holds.ext L E r⟩
  · rw [List.getElem?_set_ne p] at e
    obtain ⟨ho, z, r'⟩ := L.at_ i u e
    have hi : i < w.N := by have := (List.getElem?_eq_some_iff.mp e).1; rw [L.len] at this; exact this
    refine ⟨ho, ?_, Holds.ext L E r'⟩
    show upd w.H (w.m n) o (w.m i) = some ho
    rw [upd_ne fun z => p (L.inj n i h hi z.symm)]
    exact z
/-- the last live objects are let go (what they hold stays, never changed again) -/
def Wd.cut (w : Wd) (n : Nat) : Wd := ⟨w.H, w.m, n⟩
mutual
theorem Rel.re (hH : w'.H = w.H) (ho : ∀ a, w.off a → w'.off a) : ∀ (d : PyData) (v : V), Rel G w d v → Rel G w' d v
  | .none, _, h => by simpa [Rel] using h
  | .bool _, _, h => by simpa [Rel] using h
  | .int _, _, h => by simpa [Rel] using h
  | .str _, _, h => by simpa [Rel] using h
  | .dict _, _, h => by simp [Rel] at h
  | .list xs, v, q => by
    rw [Rel] at q ⊢
    obtain ⟨a, vs, e, r, f, z, l⟩ := q
    exact ⟨a, vs, e, by rw [hH]; exact r, ho a f, z, RelL.re hH ho xs vs l⟩
  | .tuple xs, v, q => by
    rw [Rel] at q ⊢
    obtain ⟨a, vs, e, r, z, l⟩ := q
    exact ⟨a, vs, e, by rw [hH]; exact r, z, RelL.re hH ho xs vs l⟩
theorem RelL.re (hH : w'.H = w.H) (ho : ∀ a, w.off a → w'.off a) : ∀ (ds : List PyData) (vs : List V), RelL G w ds vs → RelL G w' ds vs
  | [], _, h => by simpa [RelL] using h
  | d :: ds, vs, q => by
    rw [RelL] at q ⊢
    obtain ⟨v, r, e, h1, h2⟩ := q
    exact ⟨v, r, e, Rel.re hH ho d v h1, RelL.re hH ho ds r h2⟩
end
theorem RelF.re (hH : w'.H = w.H) (ho : ∀ a, w.off a → w'.off a) : ∀ (ds : List (Str × PyData)) (vs : List (Str × V)), RelF G w ds vs → RelF G w' ds vs
  | [], _, h => by simpa [RelF] using h
  | (_, d) :: ds, vs, q => by
    rw [RelF] at q ⊢
    obtain ⟨v, r, e, h1, h2⟩ := q
    exact ⟨v, r, e, Rel.re hH ho d v h1, RelF.re hH ho ds r h2⟩
theorem Holds.re (hH : w'.H = w.H) (ho : ∀ a, w.off a → w'.off a) {o : O} {u : HO} (r : Holds G w o u) : Holds G w' o u := by
  cases o with
  | l xs =>
    cases u with
    | lst vs => exact ⟨r.1, RelL.re hH ho xs vs r.2⟩
    | _ => exact r.elim
  | ins c fs =>
    cases u with
    | ins C dx vfs => exact ⟨r.1, RelF.re hH ho fs vfs r.2⟩
    | _ => exact r.elim
theorem Wd.cut_off {n : Nat} (h : n ≤ w.N) : ∀ a, w.off a → (w.cut n).off a := fun a f k hk => f k (Nat.lt_of_lt_of_le hk h)
theorem Rel.cut {n : Nat} (h : n ≤ w.N) (d : PyData) (v : V) (r : Rel G w d v) : Rel G (w.cut n) d v := Rel.re (w := w) (w' := w.cut n) rfl (Wd.cut_off h) d v r
theorem RelL.cut {n : Nat} (h : n ≤ w.N) (d : List PyData) (v : List V) (r : RelL G w d v) : RelL G (w.cut n) d v := RelL.re (w := w) (w' := w.cut n) rfl (Wd.cut_off h) d v r
theorem RelF.cut {n : Nat} (h : n ≤ w.N) (d : List (Str × PyData)) (v : List (Str × V)) (r : RelF G w d v) : RelF G (w.cut n) d v := RelF.re (w := w) (w' := w.cut n) rfl (Wd.cut_off h) d v r
theorem Live.cut (L : Live G w μ) {n : Nat} (h : n ≤ w.N) : Live G (w.cut n) (μ.take n) := by
  refine ⟨by rw [List.length_take, L.len]; exact Nat.min_eq_left h, fun i j hi hj e => L.inj i j (Nat.lt_of_lt_of_le hi h) (Nat.lt_of_lt_of_le hj h) e, fun i u e => ?_⟩
  rw [List.getElem?_take] at e
  split at e
  · obtain ⟨ho, z, r⟩ := L.at_ i u e
    exact ⟨ho, z, Holds.re (w := w) (w' := w.cut n) rfl (Wd.cut_off h) r⟩
  · cases e
theorem Ext.cut {w₀ : Wd} (E : Ext w₀ w) {n : Nat} (h0 : w₀.N ≤ n) (h : n ≤ w.N) : Ext w₀ (w.cut n) :=
  ⟨h0, fun k hk => E.ms k hk, fun a o e f => ⟨(E.keep a o e f).1, fun k hk => (E.keep a o e f).2 k (Nat.lt_of_lt_of_le hk h)⟩⟩
end
end TV

/-! TV, second part: readings of expressions over trees. -/
namespace TV
open PySem PySem.Spec PyProof.Rows L2

/-! ## what is wanted of an answer -/
section
variable {α β γ ε : Type} {G : Gd} {W : WX} {σ : L2.St} {rel : Wd → α → β → Prop} {rel2 : Wd → γ → ε → Prop} {w w' : Wd} {μ : Mu}
def Pst (G : Gd) (W : WX) (σ : L2.St) (rel : Wd → α → β → Prop) (Q : β → Hp → Prop) (w : Wd) : R α → Prop
  | .ok x μ' => ∀ v w', Ext w w' → Live G w' μ' → rel w' x v → Q v w'.H
  | .ex c p μ' => ∀ C d w', G.mg c = some (.ref C) → Ext w w' → Live G w' μ' → XRel G w' p d → W (.ref C) d σ w'.H
  | .bad => False
theorem Pst.ext {Q : β → Hp → Prop} {r : R α} (E : Ext w w') (h : Pst G W σ rel Q w r) : Pst G W σ rel Q w' r := by
  cases r with
  | ok x μ' => exact fun v w2 E2 L2 r2 => h v w2 (E.trans E2) L2 r2
  | ex c p μ' => exact fun C d w2 g E2 L2 r2 => h C d w2 g (E.trans E2) L2 r2
  | bad => exact h
theorem Pst.bind {Q : ε → Hp → Prop} {P : β → Hp → Prop} {r : R α} {k : α → Mu → R γ} (h : Pst G W σ rel2 Q w (r.bind k))
    (hk : ∀ x v w' μ', Ext w w' → Live G w' μ' → rel w' x v → Pst G W σ rel2 Q w' (k x μ') → P v w'.H) : Pst G W σ rel P w r := by
  cases r with
  | ok x μ' => exact fun v w2 E2 L2 r2 => hk x v w2 μ' E2 L2 r2 (Pst.ext E2 h)
  | ex c p μ' => exact h
  | bad => exact h
def lift (G : Gd) (W : WX) (rel : Wd → α → β → Prop) (d : Sl → Mu → R α) : L2.St → Hp → (β → Hp → Prop) → Prop :=
  fun σ H Q => ∃ w δ μ, w.H = H ∧ Live G w μ ∧ Slots G w δ σ ∧ Pst G W σ rel Q w (d δ μ)
end
theorem _root_.L2.PE.imp {X : Cx} {e : Expr} {t t' : TE} (h : PE X e t) (f : ∀ σ H Q, t' σ H Q → t σ H Q) : PE X e t' := ⟨fun pins s σ H Q I q => h.run pins s σ H Q I (f _ _ _ q)⟩
theorem _root_.L2.PT.imp {X : Cx} {e : Expr} {t t' : TT} (h : PT X e t) (f : ∀ σ H Q, t' σ H Q → t σ H Q) : PT X e t' := ⟨fun pins s σ H Q I q => h.run pins s σ H Q I (f _ _ _ q)⟩
theorem _root_.L2.PW.imp {X : Cx} {e : Expr} {t t' : TT} (h : PW X e t) (f : ∀ σ H Q, t' σ H Q → t σ H Q) : PW X e t' := ⟨fun wh pins s σ H Q I q => h.run wh pins s σ H Q I (f _ _ _ q)⟩
theorem _root_.L2.PA.imp {X : Cx} {e : List Expr} {t t' : TA} (h : PA X e t) (f : ∀ σ H Q, t' σ H Q → t σ H Q) : PA X e t' := ⟨fun ps pins s σ H Q I q => h.run ps pins s σ H Q I (f _ _ _ q)⟩
theorem _root_.L2.PO.imp {X : Cx} {e : Option Expr} {t t' : TO} (h : PO X e t) (f : ∀ σ H Q, t' σ H Q → t σ H Q) : PO X e t' := ⟨fun pins s σ H Q I q => h.run pins s σ H Q I (f _ _ _ q)⟩

def gx (X : Cx) : Gd := ⟨X.K, X.mg⟩
abbrev LE (X : Cx) (W : WX) (e : Expr) (d : DE) : Prop := PE X e (lift (gx X) W (RelD (gx X)) d)
abbrev DT := Sl → Mu → R Bool
abbrev DA := Sl → Mu → R (List D)
abbrev DO := Sl → Mu → R (Option Int)
abbrev sameR {α : Type} : Wd → α → α → Prop := fun _ b c => c = b
abbrev LT (X : Cx) (W : WX) (e : Expr) (d : DT) : Prop := PT X e (lift (gx X) W sameR d)
abbrev LW (X : Cx) (W : WX) (e : Expr) (d : DT) : Prop := PW X e (lift (gx X) W sameR d)
abbrev LA (X : Cx) (W : WX) (es : List Expr) (d : DA) : Prop := PA X es (lift (gx X) W (RelDL (gx X)) d)
abbrev LO (X : Cx) (W : WX) (e : Option Expr) (d : DO) : Prop := PO X e (lift (gx X) W sameR d)

/-! ## reading data off values -/
def rd (μ : Mu) : D → Option PyData
  | .t x => some x
  | .fz xs => some (.list xs)
  | .lst n => match μ[n]? with
    | some (.l xs) => some (.list xs)
    | _ => none
  | _ => none
/-- as it stands now -/
def Now (G : Gd) (w : Wd) : PyData → V → Prop
  | .list xs, v => ∃ a vs, v = .ref a ∧ SqL G.K w.H a vs ∧ xs.length ≤ sizeLine ∧ RelL G w xs vs
  | d, v => Rel G w d v
section
variable {G : Gd} {w w' : Wd} {μ : Mu}
theorem Now.of_rel : ∀ {d : PyData} {v : V}, Rel G w d v → Now G w d v
  | .list xs, v, h => by
    rw [Rel] at h
    obtain ⟨a, vs, e, r, _, z, l⟩ := h
    exact ⟨a, vs, e, .inl (.inl r), z, l⟩
  | .none, _, h => h
  | .bool _, _, h => h
  | .int _, _, h => h
  | .str _, _, h => h
  | .tuple _, _, h => h
  | .dict _, _, h => h
theorem now_of (L : Live G w μ) {x : D} {p : PyData} {v : V} (h : rd μ x = some p) (r : RelD G w x v) : Now G w p v := by
  cases x with
  | t y =>
    rw [RelD] at r
    cases h
    exact Now.of_rel r
  | fz xs =>
    rw [RelD] at r
    cases h
    obtain ⟨a, vs, e, q, z, l⟩ := r
    refine ⟨a, vs, e, ?_, z, l⟩
    rcases q with ⟨o, q⟩ | q
    · exact .inl (.inr ⟨o, q⟩)
    · exact q w.H
  | lst n =>
    rw [RelD] at r
    simp only [rd] at h
    split at h
    · rename_i xs e
      cases h
      obtain ⟨ho, z, hh⟩ := L.at_ _ _ e
      cases ho with
      | lst vs => exact ⟨_, vs, r.2, .inl (.inl z), hh.1, hh.2⟩
      | _ => exact hh.elim
    · cases h
  | tupR xs => cases h
  | ref a => cases h
  | ty n => cases h
  | glo x => cases h
theorem RelL.length : ∀ {ds : List PyData} {vs : List V}, RelL G w ds vs → ds.length = vs.length
  | [], _, h => by rw [RelL] at h; subst h; rfl
  | d :: ds, vs, h => by
    rw [RelL] at h
    obtain ⟨v, r, rfl, _, h2⟩ := h
    rw [List.length_cons, List.length_cons, RelL.length h2]
theorem RelL.get : ∀ {ds : List PyData} {vs : List V} {i : Nat} {d : PyData}, RelL G w ds vs → ds[i]? = some d → ∃ v, vs[i]? = some v ∧ Rel G w d v
  | [], _, _, _, _, e => by simp at e
  | d :: ds, vs, i, x, h, e => by
    rw [RelL] at h
    obtain ⟨v, r, rfl, h1, h2⟩ := h
    cases i with
    | zero => simp at e; subst e; exact ⟨v, rfl, h1⟩
    | succ i =>
      obtain ⟨u, q, z⟩ := RelL.get (i := i) h2 (by simpa using e)
      exact ⟨u, by simpa using q, z⟩
theorem RelL.append : ∀ {ds es : List PyData} {vs us : List V}, RelL G w ds vs → RelL G w es us → RelL G w (ds ++ es) (vs ++ us)
  | [], _, _, _, h, k => by rw [RelL] at h; subst h; exact k
  | d :: ds, es, vs, us, h, k => by
    rw [RelL] at h
    obtain ⟨v, r, rfl, h1, h2⟩ := h
    show RelL G w (d :: (ds ++ es)) (v :: (r ++ us))
    rw [RelL]
    exact ⟨v, _, rfl, h1, RelL.append h2 k⟩
theorem RelL.one {d : PyData} {v : V} (h : Rel G w d v) : RelL G w [d] [v] := by
  rw [RelL]
  exact ⟨v, [], rfl, h, by rw [RelL]⟩
theorem RelL.nil : RelL G w [] [] := by rw [RelL]
theorem RelL.cons {d : PyData} {v : V} {ds : List PyData} {vs : List V} (h : Rel G w d v) (k : RelL G w ds vs) : RelL G w (d :: ds) (v :: vs) := by
  rw [RelL]
  exact ⟨v, vs, rfl, h, k⟩
theorem RelL.take : ∀ {ds : List PyData} {vs : List V} (n : Nat), RelL G w ds vs → RelL G w (ds.take n) (vs.take n)
  | ds, vs, 0, h => by simpa using RelL.nil
  | [], _, n + 1, h => by rw [RelL] at h; subst h; simpa using RelL.nil
  | d :: ds, vs, n + 1, h => by
    rw [RelL] at h
    obtain ⟨v, r, rfl, h1, h2⟩ := h
    simpa using RelL.cons h1 (RelL.take n h2)
theorem RelL.drop : ∀ {ds : List PyData} {vs : List V} (n : Nat), RelL G w ds vs → RelL G w (ds.drop n) (vs.drop n)
  | ds, vs, 0, h => by simpa using h
  | [], _, n + 1, h => by rw [RelL] at h; subst h; simpa using RelL.nil
  | d :: ds, vs, n + 1, h => by
    rw [RelL] at h
    obtain ⟨v, r, rfl, h1, h2⟩ := h
    simpa using RelL.drop n h2
theorem RelL.reverse : ∀ {ds : List PyData} {vs : List V}, RelL G w ds vs → RelL G w ds.reverse vs.reverse
  | [], _, h => by rw [RelL] at h; subst h; exact RelL.nil
  | d :: ds, vs, h => by
    rw [RelL] at h
    obtain ⟨v, r, rfl, h1, h2⟩ := h
    simpa using RelL.append (RelL.reverse h2) (RelL.one h1)
theorem RelL.set {d : PyData} {v : V} (h : Rel G w d v) : ∀ {ds : List PyData} {vs : List V} (i : Nat), RelL G w ds vs → RelL G w (ds.set i d) (vs.set i v)
  | [], _, _, k => by rw [RelL] at k; subst k; exact RelL.nil
  | d' :: ds, vs, i, k => by
    rw [RelL] at k
    obtain ⟨v', r, rfl, h1, h2⟩ := k
    cases i with
    | zero => exact RelL.cons h h2
    | succ i => exact RelL.cons h1 (RelL.set h i h2)
theorem RelL.eraseIdx : ∀ {ds : List PyData} {vs : List V} (i : Nat), RelL G w ds vs → RelL G w (ds.eraseIdx i) (vs.eraseIdx i)
  | [], _, _, k => by rw [RelL] at k; subst k; exact RelL.nil
  | d' :: ds, vs, i, k => by
    rw [RelL] at k
    obtain ⟨v', r, rfl, h1, h2⟩ := k
    cases i with
    | zero => exact h2
    | succ i => exact RelL.cons h1 (RelL.eraseIdx i h2)
theorem RelL.rep {ds : List PyData} {vs : List V} (h : RelL G w ds vs) : ∀ k : Nat, RelL G w (List.replicate k ds).flatten (List.replicate k vs).flatten
  | 0 => RelL.nil
  | k + 1 => by
    rw [List.replicate_succ, List.flatten_cons, List.replicate_succ, List.flatten_cons]
    exact RelL.append h (RelL.rep h k)
theorem RelL.eq_nil {ds : List PyData} {vs : List V} (h : RelL G w ds vs) : ds = [] ↔ vs = [] := by
  have := h.length
  constructor <;> intro e <;> subst e <;> simp at this <;> assumption
/-! ### for the library's readings of data -/
mutual
theorem Rel.dp : ∀ (d : PyData) (v : V), Rel G w d v → Dp G.K w.H v d
  | .none, _, h => by rw [Rel] at h; subst h; exact .non
  | .bool _, _, h => by rw [Rel] at h; subst h; exact .bl _
  | .int _, _, h => by rw [Rel] at h; subst h; exact .int _
  | .str _, _, h => by rw [Rel] at h; rw [h.1]; exact .str _
  | .list xs, _, h => by
    rw [Rel] at h
    obtain ⟨a, vs, rfl, r, _, _, l⟩ := h
    exact .lst (.inl (.inl r)) (RelL.dp xs vs l)
  | .tuple xs, _, h => by
    rw [Rel] at h
    obtain ⟨a, vs, rfl, r, _, l⟩ := h
    exact .tup r (RelL.dp xs vs l)
  | .dict _, _, h => by simp [Rel] at h
theorem RelL.dp : ∀ (ds : List PyData) (vs : List V), RelL G w ds vs → DpAll G.K w.H vs ds
  | [], _, h => by rw [RelL] at h; subst h; exact .nil
  | d :: ds, vs, h => by
    rw [RelL] at h
    obtain ⟨v, r, rfl, h1, h2⟩ := h
    exact .cons (Rel.dp d v h1) (RelL.dp ds r h2)
end
theorem Now.dp : ∀ {d : PyData} {v : V}, Now G w d v → Dp G.K w.H v d
  | .list xs, _, h => by
    obtain ⟨a, vs, rfl, r, _, l⟩ := h
    exact .lst r (RelL.dp xs vs l)
  | .none, _, h => Rel.dp _ _ h
  | .bool _, _, h => Rel.dp _ _ h
  | .int _, _, h => Rel.dp _ _ h
  | .str _, _, h => Rel.dp _ _ h
  | .tuple _, _, h => Rel.dp _ _ h
  | .dict _, _, h => Rel.dp _ _ h
theorem Now.int {i : Int} {v : V} (h : Now G w (.int i) v) : v = .int i := by simpa [Now, Rel] using h
theorem Now.bool {b : Bool} {v : V} (h : Now G w (.bool b) v) : v = .bl b := by simpa [Now, Rel] using h
theorem Now.none {v : V} (h : Now G w .none v) : v = .non := by simpa [Now, Rel] using h
theorem Now.str {x : Str} {v : V} (h : Now G w (.str x) v) : v = .str x ∧ x.length ≤ sizeLine := by simpa [Now, Rel] using h
theorem Now.tup {xs : List PyData} {v : V} (h : Now G w (.tuple xs) v) : ∃ a vs, v = .ref a ∧ SqT G.K w.H a vs ∧ xs.length ≤ sizeLine ∧ RelL G w xs vs := by
  have h : Rel G w (.tuple xs) v := h
  rw [Rel] at h
  exact h
theorem Rel.int (i : Int) : Rel G w (.int i) (.int i) := by rw [Rel]
theorem Rel.bool (i : Bool) : Rel G w (.bool i) (.bl i) := by rw [Rel]
theorem Rel.nil_ : Rel G w .none .non := by rw [Rel]
theorem Rel.str {x : Str} (h : x.length ≤ sizeLine) : Rel G w (.str x) (.str x) := by rw [Rel]; exact ⟨rfl, h⟩
theorem RelD.t {d : PyData} {v : V} (h : Rel G w d v) : RelD G w (.t d) v := by rw [RelD]; exact h
/-- a new tuple -/
theorem Rel.newT (L : Live G w μ) {xs : List PyData} {vs : List V} (h : RelL G w xs vs) (z : xs.length ≤ sizeLine) {a : Addr} (n : w.H a = none) : Rel G (w.put a (.tup vs)) (.tuple xs) (.ref a) := by
  rw [Rel]
  exact ⟨a, vs, rfl, .inl (.inl upd_same), z, RelL.ext L (Ext.new L n) xs vs h⟩
theorem Rel.newF (L : Live G w μ) {xs : List PyData} {vs : List V} (h : RelL G w xs vs) (z : xs.length ≤ sizeLine) {a : Addr} (n : w.H a = none) : Rel G (w.put a (.lst vs)) (.list xs) (.ref a) := by
  rw [Rel]
  exact ⟨a, vs, rfl, upd_same, L.off_new n, z, RelL.ext L (Ext.new L n) xs vs h⟩
end
/-- a new list: live, or never changed -/
def newL (live : Bool) (xs : List PyData) (μ : Mu) : R D := if live then .ok (.lst μ.length) (μ ++ [.l xs]) else .ok (.t (.list xs)) μ
section
variable {G : Gd} {W : WX} {σ : L2.St} {w : Wd} {μ : Mu} {Q : VK}
theorem newL_ok {live : Bool} {xs : List PyData} {vs : List V} (h : Pst G W σ (RelD G) Q w (newL live xs μ)) (L : Live G w μ) (r : RelL G w xs vs) (z : xs.length ≤ sizeLine) {p : Addr} (n : w.H p = none) : Q (.ref p) (upd w.H p (.lst vs)) := by
  cases live with
  | true =>
    refine h (.ref p) (w.add p (.lst vs)) (Ext.add L n) (Live.add L n ⟨z, r⟩) ?_
    rw [RelD]
    refine ⟨by rw [L.len]; exact Nat.lt_succ_self _, ?_⟩
    rw [L.len, Wd.add_at]
  | false => exact h (.ref p) (w.put p (.lst vs)) (Ext.new L n) (Live.new L n) (RelD.t (Rel.newF L r z n))
theorem newT_ok {xs : List PyData} {vs : List V} (h : Pst G W σ (RelD G) Q w (.ok (.t (.tuple xs)) μ)) (L : Live G w μ) (r : RelL G w xs vs) (z : xs.length ≤ sizeLine) {p : Addr} (n : w.H p = none) : Q (.ref p) (upd w.H p (.tup vs)) :=
  h (.ref p) (w.put p (.tup vs)) (Ext.new L n) (Live.new L n) (RelD.t (Rel.newT L r z n))
/-- the same heap -/
theorem here_ok {α β : Type} {rel : Wd → α → β → Prop} {P : β → Hp → Prop} {x : α} {v : β} (h : Pst G W σ rel P w (.ok x μ)) (L : Live G w μ) (r : rel w x v) : P v w.H := h v w (Ext.refl w) L r
end

/-! ## names and constants -/
def dVar (i : Nat) : DE := fun δ μ => match δ[i]? with
  | some (some d) => .ok d μ
  | _ => .bad
def dC (p : PyData) : DE := fun _ μ => .ok (.t p) μ
section
variable {X : Cx} {W : WX} {pos : Pos}
theorem le_var (i : Nat) {x : Str} (hN : X.N[i]? = some x) (hv : Vis X.env.scope x) (hd : (x == ("__debug__" : Str)) = false := by decide) (hcd : (x == ("__classdict__" : Str)) = false := by decide) : LE X W (.Name x pos) (dVar i) := by
  refine (pe_var hN hv hd hcd).imp fun σ H Q ⟨w, δ, μ, e, L, S, h⟩ => ?_
  subst e
  unfold dVar at h
  split at h
  · rename_i d q
    obtain ⟨v, q2, r⟩ := S.2 i d q
    exact ⟨v, q2, here_ok h L r⟩
  · exact h.elim
theorem le_const {e : Expr} {p : PyData} {v : V} (he : PE X e (tC v)) (r : ∀ w, Rel (gx X) w p v) : LE X W e (dC p) := he.imp fun σ H Q ⟨w, δ, μ, e, L, S, h⟩ => by
  subst e
  exact here_ok h L (RelD.t (r w))
theorem le_int {i : Int} {j : Nat} : LE X W (.Constant (.int i) j pos) (dC (.int i)) := le_const pe_int fun _ => Rel.int i
theorem le_bl {i : Bool} {j : Nat} : LE X W (.Constant (.bool i) j pos) (dC (.bool i)) := le_const pe_bl fun _ => Rel.bool i
theorem le_non {j : Nat} : LE X W (.Constant .none j pos) (dC .none) := le_const pe_non fun _ => Rel.nil_
theorem le_str {x : Str} {j : Nat} (h : x.length ≤ sizeLine := by decide) : LE X W (.Constant (.str x) j pos) (dC (.str x)) := le_const pe_str fun _ => Rel.str h
theorem le_gint {x : Str} {i : Int} (hg : Gl X x) (hm : ∃ t, X.mg x = some (.int i t)) (hd : (x == ("__debug__" : Str)) = false := by decide) : LE X W (.Name x pos) (dC (.int i)) := by
  obtain ⟨t, hm⟩ := hm
  exact le_const (v := .int i) (pe_glob hg hm ⟨t, rfl⟩ hd) fun _ => Rel.int i
theorem le_gstr {x z : Str} (hg : Gl X x) (hm : ∃ t, X.mg x = some (.str z t)) (h : z.length ≤ sizeLine := by decide) (hd : (x == ("__debug__" : Str)) = false := by decide) : LE X W (.Name x pos) (dC (.str z)) := by
  obtain ⟨t, hm⟩ := hm
  exact le_const (v := .str z) (pe_glob hg hm ⟨t, rfl⟩ hd) fun _ => Rel.str h
end

/-! ## operators -/
def ap2 (f : PyData → PyData → Option PyData) (x y : D) (μ : Mu) : R D := match rd μ x, rd μ y with
  | some p, some q => match f p q with
    | some r => .ok (.t r) μ
    | none => .bad
  | _, _ => .bad
def dBin (f : PyData → PyData → Option PyData) (a b : DE) : DE := fun δ μ => (a δ μ).bind fun x μ1 => (b δ μ1).bind fun y μ2 => ap2 f x y μ2
def Op2 (X : Cx) (g : Value → Value → Sem Value) (f : PyData → PyData → Option PyData) : Prop :=
  ∃ r : R2, OpR X g r ∧ ∀ (w : Wd) (μ : Mu) (p q d : PyData) (x y : V) (Q : VK), Live (gx X) w μ → f p q = some d → Now (gx X) w p x → Now (gx X) w q y →
    (∀ v w', Ext w w' → Live (gx X) w' μ → Rel (gx X) w' d v → Q v w'.H) → r x y w.H Q
theorem Op2.or {X : Cx} {g : Value → Value → Sem Value} {f f' : PyData → PyData → Option PyData} (h : Op2 X g f) (h' : Op2 X g f') : Op2 X g (fun p q => match f p q with | some d => some d | none => f' p q) := by
  obtain ⟨r, o, k⟩ := h
  obtain ⟨r', o', k'⟩ := h'
  refine ⟨_, o.or o', fun w μ p q d x y Q L e hp hq hQ => ?_⟩
  dsimp only at e
  cases ef : f p q with
  | some d' =>
    rw [ef] at e
    exact .inl (k w μ p q d x y Q L (ef.trans e) hp hq hQ)
  | none =>
    rw [ef] at e
    exact .inr (k' w μ p q d x y Q L e hp hq hQ)
section
variable {X : Cx} {W : WX} {a b : Expr} {da db : DE} {pos : Pos}
/-- two values one after the other -/
theorem two {γ ε : Type} {rel2 : Wd → γ → ε → Prop} {k : D → D → Mu → R γ} {Q : ε → Hp → Prop} {P : V → V → Hp → Prop} {σ : L2.St} {H : Hp} {G : Gd}
    (h : lift G W rel2 (fun δ μ => (da δ μ).bind fun x μ1 => (db δ μ1).bind fun y μ2 => k x y μ2) σ H Q)
    (hk : ∀ w μ x y v u, Live G w μ → RelD G w x v → RelD G w y u → Pst G W σ rel2 Q w (k x y μ) → P v u w.H) :
    lift G W (RelD G) da σ H fun v H1 => lift G W (RelD G) db σ H1 fun u H2 => P v u H2 := by
  obtain ⟨w, δ, μ, e, L, S, h⟩ := h
  refine ⟨w, δ, μ, e, L, S, Pst.bind h fun x v w1 μ1 E1 L1 r1 h1 => ?_⟩
  refine ⟨w1, δ, μ1, rfl, L1, S.ext L E1, Pst.bind h1 fun y u w2 μ2 E2 L2 r2 h2 => ?_⟩
  exact hk w2 μ2 x y v u L2 (RelD.ext L1 E2 _ _ r1) r2 h2
theorem ap2_ok {g : Value → Value → Sem Value} {f : PyData → PyData → Option PyData} {G : Gd} {σ : L2.St} {w : Wd} {μ : Mu} {x y : D} {v u : V} {Q : VK} (L : Live G w μ) (r1 : RelD G w x v) (r2 : RelD G w y u)
    (h : Pst G W σ (RelD G) Q w (ap2 f x y μ)) : ∃ p q d, f p q = some d ∧ Now G w p v ∧ Now G w q u ∧ ∀ v w', Ext w w' → Live G w' μ → Rel G w' d v → Q v w'.H := by
  unfold ap2 at h
  split at h
  · rename_i p q e1 e2
    split at h
    · rename_i d e3
      exact ⟨p, q, d, e3, now_of L e1 r1, now_of L e2 r2, fun v w' E L' r => h v w' E L' (RelD.t r)⟩
    · exact h.elim
  · exact h.elim
theorem le_bin {op : Operator} {f : PyData → PyData → Option PyData} (h : Op2 X (binaryOp op) f) (ha : LE X W a da) (hb : LE X W b db) : LE X W (.BinOp a op b pos) (dBin f da db) := by
  obtain ⟨r, o, k⟩ := h
  refine (pe_op o ha hb).imp fun σ H Q h => ?_
  exact two h fun w μ x y v u L r1 r2 h2 => (fun ⟨p, q, d, e, n1, n2, hq⟩ => k w μ p q d v u Q L e n1 n2 hq) (ap2_ok (g := binaryOp op) L r1 r2 h2)
end
/-- + of ints, texts, tuples -/
def fAdd : PyData → PyData → Option PyData
  | .int i, .int j => some (.int (i + j))
  | .str x, .str y => if x.length + y.length ≤ sizeLine then some (.str (x ++ y)) else none
  | .tuple xs, .tuple ys => if xs.length + ys.length ≤ sizeLine then some (.tuple (xs ++ ys)) else none
  | _, _ => none
def fSub : PyData → PyData → Option PyData
  | .int i, .int j => some (.int (i - j))
  | _, _ => none
def mulOk (i j : Int) : Bool := decide (i.natAbs.log2 + j.natAbs.log2 < 1000000) || (decide (-(2 ^ 64) < i) && decide (i < 2 ^ 64)) || (decide (-(2 ^ 64) < j) && decide (j < 2 ^ 64))
def fMul : PyData → PyData → Option PyData
  | .int i, .int j => if mulOk i j then some (.int (i * j)) else none
  | .tuple xs, .int k => if !xs.isEmpty && decide (2 ≤ k) && decide (k ≤ 1000) && decide (xs.length ≤ 1000) then some (.tuple (List.replicate k.toNat xs).flatten) else none
  | .str x, .int k => if decide (1 ≤ k) && decide (k ≤ 1000) && decide (x.length ≤ 1000) && decide ((Txt.mul x k).length ≤ sizeLine) then some (.str (Txt.mul x k)) else none
  | _, _ => none
def divOk (j : Int) : Bool := (decide (j ≠ 0) && decide (j.natAbs < 1073741824)) || (decide (0 < j) && decide (j.natAbs.log2 < 9000))
def fDiv : PyData → PyData → Option PyData
  | .int i, .int j => if divOk j then some (.int (i.fdiv j)) else none
  | _, _ => none
def fMod : PyData → PyData → Option PyData
  | .int i, .int j => if j = 0 then none else some (.int (i.fmod j))
  | _, _ => none
def fShl : PyData → PyData → Option PyData
  | .int i, .int j => if decide (0 ≤ j) && decide (j ≤ 1000000) && decide (i.natAbs < 2 ^ 64) then some (.int (i * 2 ^ j.toNat)) else none
  | _, _ => none
def fPow : PyData → PyData → Option PyData
  | .int i, .int j => if decide (0 ≤ j) && decide (j ≤ 1000000) && decide (i.natAbs < 2 ^ 64) then some (.int (i ^ j.toNat)) else none
  | _, _ => none
theorem len_rep {α : Type} (xs : List α) : ∀ k : Nat, (List.replicate k xs).flatten.length = k * xs.length
  | 0 => by simp
  | k + 1 => by rw [List.replicate_succ, List.flatten_cons, List.length_append, len_rep xs k, Nat.succ_mul, Nat.add_comm]
section
variable {X : Cx}
theorem o_add : Op2 X (binaryOp .Add) fAdd := by
  refine ⟨_, op_add.or (op_add_str.or op_catA), fun w μ p q d x y Q L e hp hq hQ => ?_⟩
  unfold fAdd at e
  split at e
  · cases e
    exact .inl ⟨_, _, hp.int, hq.int, hQ _ w (Ext.refl w) L (Rel.int _)⟩
  · split at e
    · rename_i hz
      cases e
      exact .inr (.inl ⟨_, _, hp.str.1, hq.str.1, hz, hQ _ w (Ext.refl w) L (Rel.str (by first | exact hz | (rw [show ∀ a b : Str, (a ++ b).length = a.length + b.length from fun a b => by first | exact PySem.Str.length_append a b | simp]; exact hz)))⟩)
    · cases e
  · split at e
    · rename_i hz
      cases e
      obtain ⟨a, vs, rfl, s1, z1, l1⟩ := hp.tup
      obtain ⟨b, us, rfl, s2, z2, l2⟩ := hq.tup
      refine .inr (.inr ⟨a, b, vs, us, rfl, rfl, s1, s2, by rw [← l1.length, ← l2.length]; exact hz, fun e0 => ?_, fun _ e0 => ?_, fun _ _ n hn => ?_⟩)
      · have q := l1.eq_nil.mpr e0
        subst q
        exact hQ _ w (Ext.refl w) L (by rw [List.nil_append, Rel]; exact ⟨b, us, rfl, s2, z2, l2⟩)
      · have q := l2.eq_nil.mpr e0
        subst q
        exact hQ _ w (Ext.refl w) L (by rw [List.append_nil, Rel]; exact ⟨a, vs, rfl, s1, z1, l1⟩)
      · exact hQ _ (w.put n (.tup (vs ++ us))) (Ext.new L hn) (Live.new L hn) (Rel.newT L (l1.append l2) (by rw [List.length_append]; exact hz) hn)
    · cases e
  · cases e
theorem o_sub : Op2 X (binaryOp .Sub) fSub := by
  refine ⟨_, op_sub, fun w μ p q d x y Q L e hp hq hQ => ?_⟩
  unfold fSub at e
  split at e
  · cases e
    exact ⟨_, _, hp.int, hq.int, hQ _ w (Ext.refl w) L (Rel.int _)⟩
  · cases e
theorem mul_fits {x : Str} {k : Int} (h1 : 1 ≤ k) (h2 : k ≤ 1000) (h3 : x.length ≤ 1000) : MulOk x k := by
  refine ⟨?_, fun _ _ z => ?_, fun _ _ => ?_⟩
  · rw [decide_eq_false (by omega), decide_eq_false (by omega)]
    rfl
  · have : (1000 : Int) ≤ (2 ^ 63 - 1) / k := Int.le_ediv_of_mul_le (by omega) (by omega)
    omega
  · refine decide_eq_false ?_
    have : x.length * k.toNat ≤ 1000 * 1000 := Nat.mul_le_mul h3 (by omega)
    rw [sizeLine_eq]
    omega
theorem op_repS {X : Cx} : OpR X (binaryOp .Mult) (fun x y H Q => ∃ a n, x = .str a ∧ y = .int n ∧ MulOk a n ∧ Q (.str (Txt.mul a n)) H) := by
  intro pins s σ H x y v u Q I rx ry h
  obtain ⟨a, n, rfl, rfl, ok, q⟩ := h
  obtain ⟨t, rfl⟩ := rx
  obtain ⟨t2, rfl⟩ := ry
  exact SB.mul ok fun t' k => ⟨.str _, H, I.tok k, ⟨t', rfl⟩, q⟩
theorem o_mul : Op2 X (binaryOp .Mult) fMul := by
  refine ⟨_, op_mul.or (op_mulW.or (op_repT.or op_repS)), fun w μ p q d x y Q L e hp hq hQ => ?_⟩
  unfold fMul at e
  split at e
  · split at e
    · rename_i i j hz
      cases e
      unfold mulOk at hz
      simp only [Bool.or_eq_true, Bool.and_eq_true, decide_eq_true_eq] at hz
      rcases hz with (hz | hz) | hz
      · exact .inr (.inl ⟨_, _, hp.int, hq.int, hz, hQ _ w (Ext.refl w) L (Rel.int _)⟩)
      · exact .inl ⟨_, _, hp.int, hq.int, .inl hz, hQ _ w (Ext.refl w) L (Rel.int _)⟩
      · exact .inl ⟨_, _, hp.int, hq.int, .inr hz, hQ _ w (Ext.refl w) L (Rel.int _)⟩
    · cases e
  · split at e
    · rename_i xs k hz
      cases e
      simp only [Bool.and_eq_true, decide_eq_true_eq, Bool.not_eq_true', List.isEmpty_eq_false_iff] at hz
      obtain ⟨⟨⟨h1, h2⟩, h3⟩, h4⟩ := hz
      obtain ⟨a, vs, rfl, s1, z1, l1⟩ := hp.tup
      refine .inr (.inr (.inl ⟨a, k, vs, rfl, hq.int, s1, fun z => h1 (l1.eq_nil.mpr z), h2, h3, by rw [← l1.length]; exact h4, fun n hn => ?_⟩))
      refine hQ _ (w.put n _) (Ext.new L hn) (Live.new L hn) (Rel.newT L (l1.rep _) ?_ hn)
      rw [len_rep, sizeLine_eq]
      have : k.toNat ≤ 1000 := by omega
      exact Nat.le_trans (Nat.mul_le_mul this h4) (by decide)
    · cases e
  · split at e
    · rename_i x k hz
      cases e
      simp only [Bool.and_eq_true, decide_eq_true_eq] at hz
      obtain ⟨⟨⟨h1, h2⟩, h3⟩, h4⟩ := hz
      exact .inr (.inr (.inr ⟨_, _, hp.str.1, hq.int, mul_fits h1 h2 h3, hQ _ w (Ext.refl w) L (Rel.str h4)⟩))
    · cases e
  · cases e
theorem o_div : Op2 X (binaryOp .FloorDiv) fDiv := by
  refine ⟨_, op_fdivN.or op_fdivW, fun w μ p q d x y Q L e hp hq hQ => ?_⟩
  unfold fDiv at e
  split at e
  · split at e
    · rename_i i j hz
      cases e
      unfold divOk at hz
      simp only [Bool.or_eq_true, Bool.and_eq_true, decide_eq_true_eq] at hz
      rcases hz with hz | hz
      · exact .inl ⟨_, _, hp.int, hq.int, hz, hQ _ w (Ext.refl w) L (Rel.int _)⟩
      · refine .inr ⟨_, _, hp.int, hq.int, hz, hQ _ w (Ext.refl w) L ?_⟩
        rw [Int.fdiv_eq_ediv_of_nonneg _ (Int.le_of_lt hz.1)]
        exact Rel.int _
    · cases e
  · cases e
theorem o_mod : Op2 X (binaryOp .Mod) fMod := by
  refine ⟨_, op_modN, fun w μ p q d x y Q L e hp hq hQ => ?_⟩
  unfold fMod at e
  split at e
  · split at e
    · cases e
    · rename_i i j hz
      cases e
      exact ⟨_, _, hp.int, hq.int, hz, hQ _ w (Ext.refl w) L (Rel.int _)⟩
  · cases e
theorem o_shl : Op2 X (binaryOp .LShift) fShl := by
  refine ⟨_, op_shl, fun w μ p q d x y Q L e hp hq hQ => ?_⟩
  unfold fShl at e
  split at e
  · split at e
    · rename_i i j hz
      cases e
      simp only [Bool.and_eq_true, decide_eq_true_eq] at hz
      exact ⟨_, _, hp.int, hq.int, ⟨hz.1.1, hz.1.2, hz.2⟩, hQ _ w (Ext.refl w) L (Rel.int _)⟩
    · cases e
  · cases e
theorem o_pow : Op2 X (binaryOp .Pow) fPow := by
  refine ⟨_, op_pow, fun w μ p q d x y Q L e hp hq hQ => ?_⟩
  unfold fPow at e
  split at e
  · split at e
    · rename_i i j hz
      cases e
      simp only [Bool.and_eq_true, decide_eq_true_eq] at hz
      exact ⟨_, _, hp.int, hq.int, ⟨hz.1.1, hz.1.2, hz.2⟩, hQ _ w (Ext.refl w) L (Rel.int _)⟩
    · cases e
  · cases e
end
end TV

/-! TV, third part: comparisons, tests, displays, items, slices. -/
namespace TV
open PySem PySem.Spec PyProof.Rows L2

/-! ## shapes -/
mutual
/-- no deeper than n, texts of plain signs -/
def shp : Nat → PyData → Bool
  | _, .none => true
  | _, .bool _ => true
  | _, .int _ => true
  | _, .str x => PyData.canLay0 (.str x)
  | n + 1, .list xs => shpL n xs
  | n + 1, .tuple xs => shpL n xs
  | _, _ => false
def shpL : Nat → List PyData → Bool
  | _, [] => true
  | n, x :: xs => shp n x && shpL n xs
end
theorem shpL_all (n : Nat) : ∀ xs : List PyData, shpL n xs = xs.all (shp n)
  | [] => rfl
  | x :: xs => by rw [shpL, shpL_all n xs, List.all_cons]
mutual
theorem shp_ok : ∀ (n : Nat) (d : PyData), shp n d = true → d.canLay0 = true ∧ d.depth ≤ n
  | _, .none, _ => ⟨by simp only [PyData.canLay0], by simp [PyData.depth]⟩
  | _, .bool _, _ => ⟨by simp only [PyData.canLay0], by simp [PyData.depth]⟩
  | _, .int _, _ => ⟨by simp only [PyData.canLay0], by simp [PyData.depth]⟩
  | _, .str x, h => by
    rw [shp] at h
    exact ⟨h, by simp [PyData.depth]⟩
  | 0, .list xs, h => by simp [shp] at h
  | 0, .tuple xs, h => by simp [shp] at h
  | n + 1, .list xs, h => by
    rw [shp] at h
    obtain ⟨h1, h2⟩ := shpL_ok n xs h
    refine ⟨by rw [PyData.canLay0]; exact h1, by rw [PyData.depth]; omega⟩
  | n + 1, .tuple xs, h => by
    rw [shp] at h
    obtain ⟨h1, h2⟩ := shpL_ok n xs h
    refine ⟨by rw [PyData.canLay0]; exact h1, by rw [PyData.depth]; omega⟩
  | 0, .dict _, h => by simp [shp] at h
  | n + 1, .dict _, h => by simp [shp] at h
theorem shpL_ok : ∀ (n : Nat) (xs : List PyData), shpL n xs = true → PyData.canLayAll0 xs = true ∧ PyData.depthAll xs ≤ n
  | _, [], _ => ⟨rfl, by simp [PyData.depthAll]⟩
  | n, x :: xs, h => by
    rw [shpL, Bool.and_eq_true] at h
    obtain ⟨a1, a2⟩ := shp_ok n x h.1
    obtain ⟨b1, b2⟩ := shpL_ok n xs h.2
    refine ⟨by rw [PyData.canLayAll0, a1, b1]; rfl, by rw [PyData.depthAll]; omega⟩
end
theorem shaped_of {n : Nat} {d : PyData} (h : shp n d = true) (hn : n ≤ 64 := by decide) : SeqAt.shaped d = true := by
  obtain ⟨h1, h2⟩ := shp_ok n d h
  unfold SeqAt.shaped
  rw [h1, decide_eq_true (Nat.le_trans h2 hn)]
  rfl

/-! ## comparisons: two data, a truth -/
abbrev Cm := PyData → PyData → Option Bool
def ap2c (f : Cm) (x y : D) (μ : Mu) : R Bool := match rd μ x, rd μ y with
  | some p, some q => match f p q with
    | some r => .ok r μ
    | none => .bad
  | _, _ => .bad
def dCmpT (f : Cm) (a b : DE) : DT := fun δ μ => (a δ μ).bind fun x μ1 => (b δ μ1).bind fun y μ2 => ap2c f x y μ2
def bval (r : R Bool) : R D := r.bind fun b μ => .ok (.t (.bool b)) μ
def dCmp (f : Cm) (a b : DE) : DE := fun δ μ => (a δ μ).bind fun x μ1 => (b δ μ1).bind fun y μ2 => bval (ap2c f x y μ2)
def Cm2 (X : Cx) (g : Value → Value → Sem Value) (f : Cm) : Prop :=
  ∃ r : R2, OpR X g r ∧ ∀ (w : Wd) (μ : Mu) (p q : PyData) (b : Bool) (x y : V) (Q : VK), Live (gx X) w μ → f p q = some b → Now (gx X) w p x → Now (gx X) w q y → Q (.bl b) w.H → r x y w.H Q
theorem Cm2.or {X : Cx} {g : Value → Value → Sem Value} {f f' : Cm} (h : Cm2 X g f) (h' : Cm2 X g f') : Cm2 X g (fun p q => match f p q with | some d => some d | none => f' p q) := by
  obtain ⟨r, o, k⟩ := h
  obtain ⟨r', o', k'⟩ := h'
  refine ⟨_, o.or o', fun w μ p q d x y Q L e hp hq hQ => ?_⟩
  dsimp only at e
  cases ef : f p q with
  | some d' =>
    rw [ef] at e
    exact .inl (k w μ p q d x y Q L (ef.trans e) hp hq hQ)
  | none =>
    rw [ef] at e
    exact .inr (k' w μ p q d x y Q L e hp hq hQ)
section
variable {X : Cx} {W : WX} {a b c : Expr} {da db dc : DE} {pos : Pos}
theorem ap2c_ok {f : Cm} {G : Gd} {σ : L2.St} {w : Wd} {μ : Mu} {x y : D} {v u : V} {Q : Bool → Hp → Prop} (L : Live G w μ) (r1 : RelD G w x v) (r2 : RelD G w y u)
    (h : Pst G W σ sameR Q w (ap2c f x y μ)) : ∃ p q b, f p q = some b ∧ Now G w p v ∧ Now G w q u ∧ Q b w.H := by
  unfold ap2c at h
  split at h
  · rename_i p q e1 e2
    split at h
    · rename_i d e3
      exact ⟨p, q, d, e3, now_of L e1 r1, now_of L e2 r2, h d w (Ext.refl w) L rfl⟩
    · exact h.elim
  · exact h.elim
theorem bval_ok {G : Gd} {σ : L2.St} {w : Wd} {r : R Bool} {Q : VK} (h : Pst G W σ (RelD G) Q w (bval r)) : Pst G W σ sameR (fun b H => Q (.bl b) H) w r :=
  Pst.bind h fun b v w' μ' E L e h' => by
    subst e
    exact h' _ w' (Ext.refl w') L (RelD.t (Rel.bool _))
theorem le_cmp {op : CmpOp} {f : Cm} (h : Cm2 X (compareOp op) f) (ha : LE X W a da) (hb : LE X W b db) (hm : behindInMarks op b = false) : LE X W (.Compare a [op] [b] pos) (dCmp f da db) := by
  obtain ⟨r, o, k⟩ := h
  refine (pe_cmpR o ha hb hm).imp fun σ H Q h => ?_
  exact two h fun w μ x y v u L r1 r2 h2 => (fun ⟨p, q, d, e, n1, n2, hq⟩ => k w μ p q d v u Q L e n1 n2 hq) (ap2c_ok L r1 r2 (bval_ok h2))
theorem lt_cmp {op : CmpOp} {f : Cm} (h : Cm2 X (compareOp op) f) (ha : LE X W a da) (hb : LE X W b db) (hm : behindInMarks op b = false) : LT X W (.Compare a [op] [b] pos) (dCmpT f da db) := by
  obtain ⟨r, o, k⟩ := h
  refine (pt_cmpR o ha hb hm).imp fun σ H Q h => ?_
  show lift _ _ _ da σ H fun v H1 => lift _ _ _ db σ H1 fun u H2 => r v u H2 fun x H' => ∃ k, x = .bl k ∧ Q k H'
  exact two h fun w μ x y v u L r1 r2 h2 => (fun ⟨p, q, d, e, n1, n2, hq⟩ => k w μ p q d v u _ L e n1 n2 ⟨d, rfl, hq⟩) (ap2c_ok L r1 r2 h2)
/-- a < b < c -/
def dChainT (f g : Cm) (a b c : DE) : DT := fun δ μ => (a δ μ).bind fun x μ1 => (b δ μ1).bind fun y μ2 => (ap2c f x y μ2).bind fun k μ3 =>
  if k then (c δ μ3).bind fun z μ4 => ap2c g y z μ4 else .ok false μ3
def dChain (f g : Cm) (a b c : DE) : DE := fun δ μ => bval (dChainT f g a b c δ μ)
theorem chain_ok {op op' : CmpOp} {f g : Cm} {r r' : R2} (k : ∀ (w : Wd) (μ : Mu) (p q : PyData) (b : Bool) (x y : V) (Q : VK), Live (gx X) w μ → f p q = some b → Now (gx X) w p x → Now (gx X) w q y → Q (.bl b) w.H → r x y w.H Q)
    (k' : ∀ (w : Wd) (μ : Mu) (p q : PyData) (b : Bool) (x y : V) (Q : VK), Live (gx X) w μ → g p q = some b → Now (gx X) w p x → Now (gx X) w q y → Q (.bl b) w.H → r' x y w.H Q)
    {σ : L2.St} {H : Hp} {Q : Bool → Hp → Prop} (h : lift (gx X) W sameR (dChainT f g da db dc) σ H Q) {P : VK} (hP : ∀ b H, Q b H → P (.bl b) H) :
    tChain r r' (lift (gx X) W (RelD (gx X)) da) (lift (gx X) W (RelD (gx X)) db) (lift (gx X) W (RelD (gx X)) dc) σ H P := by
  obtain ⟨w, δ, μ, e, L, S, h⟩ := h
  refine ⟨w, δ, μ, e, L, S, Pst.bind h fun x v w1 μ1 E1 L1 r1 h1 => ?_⟩
  refine ⟨w1, δ, μ1, rfl, L1, S.ext L E1, Pst.bind h1 fun y u w2 μ2 E2 L2 r2 h2 => ?_⟩
  have q := Pst.bind (rel := sameR) (P := fun b H' => ∃ μ3 w3, w3.H = H' ∧ Ext w2 w3 ∧ Live (gx X) w3 μ3 ∧ Pst (gx X) W σ sameR Q w3 (if b = true then (dc δ μ3).bind fun z μ4 => ap2c g y z μ4 else .ok false μ3)) h2
    (fun b c w3 μ3 E3 L3 e3 h3 => by subst e3; exact ⟨μ3, w3, rfl, E3, L3, h3⟩)
  obtain ⟨p, q', b, ef, n1, n2, hb⟩ := ap2c_ok L2 (RelD.ext L1 E2 _ _ r1) r2 q
  obtain ⟨μ3, w3, eH, E3, L3, h3⟩ := hb
  refine k w2 μ2 p q' b v u _ L2 ef n1 n2 ?_
  rw [← eH]
  refine ⟨b, rfl, ?_⟩
  cases b with
  | true =>
    refine ⟨w3, δ, μ3, rfl, L3, (S.ext L E1 |>.ext L1 E2 |>.ext L2 E3), Pst.bind h3 fun z t w4 μ4 E4 L4 r4 h4 => ?_⟩
    obtain ⟨p4, q4, b4, e4, m1, m2, hb4⟩ := ap2c_ok L4 (RelD.ext L3 E4 _ _ (RelD.ext L2 E3 _ _ r2)) r4 h4
    exact k' w4 μ4 p4 q4 b4 u t _ L4 e4 m1 m2 (hP _ _ hb4)
  | false => exact hP _ _ (here_ok h3 L3 rfl)
theorem le_chain {op op' : CmpOp} {f g : Cm} (h : Cm2 X (compareOp op) f) (h' : Cm2 X (compareOp op') g) (ha : LE X W a da) (hb : LE X W b db) (hc : LE X W c dc) (hm : lastMarks [op, op'] [b, c] = false := by rfl) : LE X W (.Compare a [op, op'] [b, c] pos) (dChain f g da db dc) := by
  obtain ⟨r, o, k⟩ := h
  obtain ⟨r', o', k'⟩ := h'
  refine (pe_chain (hm := hm) o o' ha hb hc).imp fun σ H Q ⟨w, δ, μ, e, L, S, h⟩ => ?_
  exact chain_ok (op := op) (op' := op') k k' ⟨w, δ, μ, e, L, S, bval_ok h⟩ fun _ _ q => q
theorem lt_chain {op op' : CmpOp} {f g : Cm} (h : Cm2 X (compareOp op) f) (h' : Cm2 X (compareOp op') g) (ha : LE X W a da) (hb : LE X W b db) (hc : LE X W c dc) (hm : lastMarks [op, op'] [b, c] = false := by rfl) : LT X W (.Compare a [op, op'] [b, c] pos) (dChainT f g da db dc) := by
  obtain ⟨r, o, k⟩ := h
  obtain ⟨r', o', k'⟩ := h'
  refine (pt_chain (hm := hm) o o' ha hb hc).imp fun σ H Q h => ?_
  exact chain_ok (op := op) (op' := op') k k' h fun b H q => ⟨b, rfl, q⟩
end
def cEq : Cm := fun p q => match p, q with
  | .int i, .int j => some (i == j)
  | .str x, .str y => some (x == y)
  | p, q => if shp 16 p && shp 16 q then some (PyData.eqv p q) else none
def cNe : Cm := fun p q => (cEq p q).map (!·)
def cLt : Cm
  | .int i, .int j => some (decide (i < j))
  | .str x, .str y => some (decide (x.cps.toList < y.cps.toList))
  | _, _ => none
def cGt : Cm
  | .int i, .int j => some (decide (j < i))
  | .str x, .str y => some (decide (y.cps.toList < x.cps.toList))
  | _, _ => none
def cLe : Cm
  | .int i, .int j => some (decide (i ≤ j))
  | .str x, .str y => some (!decide (y.cps.toList < x.cps.toList))
  | _, _ => none
def cGe : Cm
  | .int i, .int j => some (decide (j ≤ i))
  | .str x, .str y => some (!decide (x.cps.toList < y.cps.toList))
  | _, _ => none
def isNone : PyData → Bool
  | .none => true
  | _ => false
def isBool (b : Bool) : PyData → Bool
  | .bool a => a == b
  | _ => false
def cIs : Cm
  | p, .none => some (isNone p)
  | p, .bool b => some (isBool b p)
  | _, _ => none
def cIsNot : Cm := fun p q => (cIs p q).map (!·)
/-- flat: no list, no tuple -/
def flatP : PyData → Bool
  | .none | .bool _ | .int _ | .str _ => true
  | _ => false
def cIn : Cm
  | .str x, .str z => match x.cps.toList with
    | [c] => some (decide (c ∈ z.cps.toList))
    | _ => some (!(Builtin.Str.occurrences z x 0 z.length 1).isEmpty)
  | p, .list xs => if shp 15 p && shpL 15 xs then some (xs.any fun z => PyData.eqv z p) else none
  | p, .tuple xs => if flatP p && xs.all flatP then some (xs.any fun z => PyData.eqv z p) else none
  | _, _ => none
def cNotIn : Cm := fun p q => (cIn p q).map (!·)
section
variable {X : Cx}
theorem c_lt : Cm2 X (compareOp .Lt) cLt := by
  refine ⟨_, op_lt.or op_lt_str, fun w μ p q d x y Q L e hp hq hQ => ?_⟩
  unfold cLt at e
  split at e
  · cases e; exact .inl ⟨_, _, hp.int, hq.int, hQ⟩
  · cases e; exact .inr ⟨_, _, hp.str.1, hq.str.1, hQ⟩
  · cases e
theorem c_gt : Cm2 X (compareOp .Gt) cGt := by
  refine ⟨_, op_gt.or op_gt_str, fun w μ p q d x y Q L e hp hq hQ => ?_⟩
  unfold cGt at e
  split at e
  · cases e; exact .inl ⟨_, _, hp.int, hq.int, hQ⟩
  · cases e; exact .inr ⟨_, _, hp.str.1, hq.str.1, hQ⟩
  · cases e
theorem c_le : Cm2 X (compareOp .LtE) cLe := by
  refine ⟨_, op_le.or op_le_str, fun w μ p q d x y Q L e hp hq hQ => ?_⟩
  unfold cLe at e
  split at e
  · cases e; exact .inl ⟨_, _, hp.int, hq.int, hQ⟩
  · cases e; exact .inr ⟨_, _, hp.str.1, hq.str.1, hQ⟩
  · cases e
theorem c_ge : Cm2 X (compareOp .GtE) cGe := by
  refine ⟨_, op_ge.or op_ge_str, fun w μ p q d x y Q L e hp hq hQ => ?_⟩
  unfold cGe at e
  split at e
  · cases e; exact .inl ⟨_, _, hp.int, hq.int, hQ⟩
  · cases e; exact .inr ⟨_, _, hp.str.1, hq.str.1, hQ⟩
  · cases e
theorem cEq_some {p q : PyData} {b : Bool} (h : cEq p q = some b) : (∃ x y : V, (∀ G w v, Now G w p v → v = x) ∧ (∀ G w v, Now G w q v → v = y) ∧ scal x y = true ∧ decide (x = y) = b) ∨ (shp 16 p = true ∧ shp 16 q = true ∧ PyData.eqv p q = b) := by
  unfold cEq at h
  split at h
  · rename_i i j
    cases h
    exact .inl ⟨.int i, .int j, fun _ _ _ h => h.int, fun _ _ _ h => h.int, rfl, dec_int⟩
  · rename_i x y
    cases h
    exact .inl ⟨.str x, .str y, fun _ _ _ h => h.str.1, fun _ _ _ h => h.str.1, rfl, dec_str⟩
  · split at h
    · rename_i z
      cases h
      rw [Bool.and_eq_true] at z
      exact .inr ⟨z.1, z.2, rfl⟩
    · cases h
theorem c_eq (hu : X.A.units + 64 < cLine) : Cm2 X (compareOp .Eq) cEq := by
  refine ⟨_, op_eq.or (op_eqD hu), fun w μ p q d x y Q L e hp hq hQ => ?_⟩
  rcases cEq_some e with ⟨a, b, e1, e2, s, z⟩ | ⟨s1, s2, z⟩
  · cases e1 _ _ _ hp
    cases e2 _ _ _ hq
    exact .inl ⟨s, by rw [z]; exact hQ⟩
  · exact .inr ⟨p, q, hp.dp, hq.dp, shaped_of s1, shaped_of s2, by rw [z]; exact hQ⟩
theorem c_ne (hu : X.A.units + 64 < cLine) : Cm2 X (compareOp .NotEq) cNe := by
  refine ⟨_, op_ne.or (op_neD hu), fun w μ p q d x y Q L e hp hq hQ => ?_⟩
  unfold cNe at e
  cases ec : cEq p q with
  | none => rw [ec] at e; cases e
  | some c =>
    rw [ec] at e
    cases e
    rcases cEq_some ec with ⟨a, b, e1, e2, s, z⟩ | ⟨s1, s2, z⟩
    · cases e1 _ _ _ hp
      cases e2 _ _ _ hq
      exact .inl ⟨s, by rw [z]; exact hQ⟩
    · exact .inr ⟨p, q, hp.dp, hq.dp, shaped_of s1, shaped_of s2, by rw [z]; exact hQ⟩
theorem op_isB' : OpR X (compareOp .Is) (fun x y H Q => ∃ b, y = .bl b ∧ Q (.bl (decide (x = .bl b))) H) := by
  intro pins s σ H x y v u Q I rx ry h
  obtain ⟨b, rfl, q⟩ := h
  cases (show u = Value.bool b from ry)
  by_cases e : x = .bl b
  · subst e
    cases (show v = Value.bool b from rx)
    exact wpAny_is_self rfl ⟨.bl true, H, I, rfl, by simpa using q⟩
  · refine wpAny_is_other ?_ (fun z => e ?_) ⟨.bl false, H, I, rfl, by simpa [e] using q⟩
    · cases x <;> first
        | (obtain ⟨t, rfl⟩ := rx; rfl)
        | (cases rx; rfl)
    · subst z
      exact RelV.inj rx rfl
theorem op_notB' : OpR X (compareOp .IsNot) (fun x y H Q => ∃ b, y = .bl b ∧ Q (.bl (!decide (x = .bl b))) H) := by
  intro pins s σ H x y v u Q I rx ry h
  obtain ⟨b, rfl, q⟩ := h
  cases (show u = Value.bool b from ry)
  by_cases e : x = .bl b
  · subst e
    cases (show v = Value.bool b from rx)
    exact wpAny_isNot_self rfl ⟨.bl false, H, I, rfl, by simpa using q⟩
  · refine wpAny_isNot_other ?_ (fun z => e ?_) ⟨.bl true, H, I, rfl, by simpa [e] using q⟩
    · cases x <;> first
        | (obtain ⟨t, rfl⟩ := rx; rfl)
        | (cases rx; rfl)
    · subst z
      exact RelV.inj rx rfl
theorem now_none {G : Gd} {w : Wd} {p : PyData} {v : V} (h : Now G w p v) : decide (v = .non) = isNone p := by
  cases p with
  | none => rw [h.none]; rfl
  | bool b => rw [h.bool]; rfl
  | int b => rw [h.int]; rfl
  | str b => rw [h.str.1]; rfl
  | list xs => obtain ⟨a, vs, rfl, _⟩ := h; rfl
  | tuple xs => obtain ⟨a, vs, rfl, _⟩ := h.tup; rfl
  | dict xs => have h : Rel G w _ v := h; simp [Rel] at h
theorem now_bool {G : Gd} {w : Wd} {p : PyData} {v : V} {b : Bool} (h : Now G w p v) : decide (v = .bl b) = isBool b p := by
  cases p with
  | none => rw [h.none]; rfl
  | bool c => rw [h.bool]; exact dec_bl
  | int b => rw [h.int]; rfl
  | str b => rw [h.str.1]; rfl
  | list xs => obtain ⟨a, vs, rfl, _⟩ := h; rfl
  | tuple xs => obtain ⟨a, vs, rfl, _⟩ := h.tup; rfl
  | dict xs => have h : Rel G w _ v := h; simp [Rel] at h
theorem c_is : Cm2 X (compareOp .Is) cIs := by
  refine ⟨_, op_isN.or op_isB', fun w μ p q d x y Q L e hp hq hQ => ?_⟩
  unfold cIs at e
  split at e
  · cases e; exact .inl ⟨hq.none, by rw [now_none hp]; exact hQ⟩
  · cases e; exact .inr ⟨_, hq.bool, by rw [now_bool hp]; exact hQ⟩
  · cases e
theorem c_isNot : Cm2 X (compareOp .IsNot) cIsNot := by
  refine ⟨_, op_notN.or op_notB', fun w μ p q d x y Q L e hp hq hQ => ?_⟩
  unfold cIsNot cIs at e
  split at e
  · cases e; exact .inl ⟨hq.none, by rw [now_none hp]; exact hQ⟩
  · cases e; exact .inr ⟨_, hq.bool, by rw [now_bool hp]; exact hQ⟩
  · cases e
theorem flat_now {G : Gd} {w : Wd} {p : PyData} {v : V} (f : flatP p = true) (h : Rel G w p v) : flatV v = true := by
  cases p <;> first
    | (rw [Rel] at h; subst h; rfl)
    | (rw [Rel] at h; rw [h.1]; rfl)
    | (simp [flatP] at f)
def fvP : PyData → V
  | .bool b => .bl b
  | .int i => .int i
  | .str x => .str x
  | _ => .non
theorem fvP_of {G : Gd} {w : Wd} : ∀ {p : PyData} {v : V}, flatP p = true → Rel G w p v → v = fvP p
  | .none, _, _, h => by rw [Rel] at h; exact h
  | .bool _, _, _, h => by rw [Rel] at h; exact h
  | .int _, _, _, h => by rw [Rel] at h; exact h
  | .str _, _, _, h => by rw [Rel] at h; exact h.1
  | .list _, _, f, _ => by simp [flatP] at f
  | .tuple _, _, f, _ => by simp [flatP] at f
  | .dict _, _, f, _ => by simp [flatP] at f
theorem eqV_eqv {G : Gd} {w : Wd} {p q : PyData} {v u : V} (f : flatP p = true) (f' : flatP q = true) (h : Rel G w p v) (h' : Rel G w q u) : eqV v u = PyData.eqv p q := by
  rw [fvP_of f h, fvP_of f' h']
  cases p <;> cases q <;> first
    | (simp [flatP] at f; done)
    | (simp [flatP] at f'; done)
    | simp [fvP, eqV, PyData.eqv]
theorem inV_any {G : Gd} {w : Wd} {p : PyData} {v : V} (f : flatP p = true) (h : Rel G w p v) : ∀ {xs : List PyData} {vs : List V}, xs.all flatP = true → RelL G w xs vs → vs.all flatV = true ∧ inV v vs = xs.any fun z => PyData.eqv z p
  | [], _, _, l => by rw [RelL] at l; subst l; exact ⟨rfl, rfl⟩
  | x :: xs, vs, fs, l => by
    rw [RelL] at l
    obtain ⟨u, r, rfl, h1, h2⟩ := l
    rw [List.all_cons, Bool.and_eq_true] at fs
    obtain ⟨z1, z2⟩ := inV_any f h fs.2 h2
    refine ⟨by rw [List.all_cons, flat_now fs.1 h1, z1]; rfl, ?_⟩
    unfold inV at z2 ⊢
    rw [List.any_cons, List.any_cons, z2, eqV_eqv fs.1 f h1 h]
theorem rel_of_now {G : Gd} {w : Wd} {p : PyData} {v : V} (f : flatP p = true) (h : Now G w p v) : Rel G w p v := by
  cases p <;> first | exact h | (simp [flatP] at f)
theorem c_in (hu : X.A.units + 65 < cLine) : Cm2 X (compareOp .In) cIn := by
  refine ⟨_, (op_in_sign.or ((op_inD hu).or op_in_seq)).or op_in_str, fun w μ p q d x y Q L e hp hq hQ => ?_⟩
  unfold cIn at e
  split at e
  · rename_i a z
    split at e
    · rename_i c ec
      cases e
      refine .inl (.inl ⟨c, z, ?_, hq.str.1, hQ⟩)
      rw [hp.str.1]
      obtain ⟨a⟩ := a
      obtain ⟨l⟩ := a
      simp only at ec
      rw [ec]
    · cases e
      exact .inr ⟨a, z, hp.str.1, hq.str.1, hQ⟩
  · rename_i xs
    split at e
    · rename_i s
      cases e
      rw [Bool.and_eq_true] at s
      exact .inl (.inr (.inl ⟨p, xs, hp.dp, hq.dp, shaped_of s.1, shaped_of (n := 16) (by rw [shp]; exact s.2), hQ⟩))
    · cases e
  · rename_i xs
    split at e
    · rename_i s
      cases e
      rw [Bool.and_eq_true] at s
      obtain ⟨a, vs, rfl, h1, h2, h3⟩ := hq.tup
      obtain ⟨z1, z2⟩ := inV_any s.1 (rel_of_now s.1 hp) s.2 h3
      exact .inl (.inr (.inr ⟨a, vs, rfl, .inr h1, flat_now s.1 (rel_of_now s.1 hp), z1, by rw [if_neg Bool.false_ne_true, z2]; exact hQ⟩))
    · cases e
  · cases e
theorem c_notIn (hu : X.A.units + 65 < cLine) : Cm2 X (compareOp .NotIn) cNotIn := by
  refine ⟨_, (op_notIn_sign.or ((op_notInD hu).or op_notIn_seq)).or op_notIn_str, fun w μ p q d x y Q L e hp hq hQ => ?_⟩
  unfold cNotIn cIn at e
  split at e
  · rename_i a z
    split at e
    · rename_i c ec
      cases e
      refine .inl (.inl ⟨c, z, ?_, hq.str.1, hQ⟩)
      rw [hp.str.1]
      obtain ⟨a⟩ := a
      obtain ⟨l⟩ := a
      simp only at ec
      rw [ec]
    · cases e
      exact .inr ⟨a, z, hp.str.1, hq.str.1, hQ⟩
  · rename_i xs
    split at e
    · rename_i s
      cases e
      rw [Bool.and_eq_true] at s
      exact .inl (.inr (.inl ⟨p, xs, hp.dp, hq.dp, shaped_of s.1, shaped_of (n := 16) (by rw [shp]; exact s.2), hQ⟩))
    · cases e
  · rename_i xs
    split at e
    · rename_i s
      cases e
      rw [Bool.and_eq_true] at s
      obtain ⟨a, vs, rfl, h1, h2, h3⟩ := hq.tup
      obtain ⟨z1, z2⟩ := inV_any s.1 (rel_of_now s.1 hp) s.2 h3
      exact .inl (.inr (.inr ⟨a, vs, rfl, .inr h1, flat_now s.1 (rel_of_now s.1 hp), z1, by rw [if_pos rfl, z2]; exact hQ⟩))
    · cases e
  · cases e
end
end TV

/-! TV, fourth part: tests, conditionals, displays, items, slices, built-in calls and methods. -/
namespace TV
open PySem PySem.Spec PyProof.Rows L2

/-! ## truth -/
def truP : PyData → Bool
  | .none => false
  | .bool b => b
  | .int i => i != 0
  | .str x => (x.length : Int) != 0
  | .list xs => !xs.isEmpty
  | .tuple xs => !xs.isEmpty
  | .dict _ => false
theorem isEmpty_rel {G : Gd} {w : Wd} {xs : List PyData} {vs : List V} (h : RelL G w xs vs) : vs.isEmpty = xs.isEmpty := by
  have := h.length
  cases xs <;> cases vs <;> simp at this <;> rfl
theorem truV_now {G : Gd} {w : Wd} {p : PyData} {v : V} (h : Now G w p v) : TruV G.K v w.H (truP p) := by
  cases p with
  | none => rw [h.none]; rfl
  | bool b => rw [h.bool]; rfl
  | int b => rw [h.int]; rfl
  | str b => rw [h.str.1]; exact ⟨h.str.2, rfl⟩
  | list xs =>
    obtain ⟨a, vs, rfl, h1, _, l⟩ := h
    exact .inl ⟨vs, h1, by rw [isEmpty_rel l]; rfl⟩
  | tuple xs =>
    obtain ⟨a, vs, rfl, h1, _, l⟩ := h.tup
    exact .inr (.inl ⟨vs, h1, by rw [isEmpty_rel l]; rfl⟩)
  | dict xs => have h : Rel G w _ v := h; simp [Rel] at h
def apT (x : D) (μ : Mu) : R Bool := match rd μ x with
  | some p => .ok (truP p) μ
  | none => .bad
def dTru (a : DE) : DT := fun δ μ => (a δ μ).bind apT
def dNotT (a : DT) : DT := fun δ μ => (a δ μ).bind fun b μ => .ok (!b) μ
def dAndT (a b : DT) : DT := fun δ μ => (a δ μ).bind fun c μ => if c then b δ μ else .ok false μ
def dOrT (a b : DT) : DT := fun δ μ => (a δ μ).bind fun c μ => if c then .ok true μ else b δ μ
def dNotV (a : DE) : DE := fun δ μ => (a δ μ).bind fun x μ => (apT x μ).bind fun b μ => .ok (.t (.bool (!b))) μ
def dAndV (a b : DE) : DE := fun δ μ => (a δ μ).bind fun x μ => (apT x μ).bind fun c μ => if c then b δ μ else .ok x μ
def dOrV (a b : DE) : DE := fun δ μ => (a δ μ).bind fun x μ => (apT x μ).bind fun c μ => if c then .ok x μ else b δ μ
def dIf (c : DT) (a b : DE) : DE := fun δ μ => (c δ μ).bind fun k μ => if k then a δ μ else b δ μ
def ap1 (f : PyData → Option PyData) (x : D) (μ : Mu) : R D := match rd μ x with
  | some p => match f p with
    | some r => .ok (.t r) μ
    | none => .bad
  | none => .bad
def dUn (f : PyData → Option PyData) (a : DE) : DE := fun δ μ => (a δ μ).bind fun x μ => ap1 f x μ
def fNeg : PyData → Option PyData
  | .int i => some (.int (-i))
  | _ => none
section
variable {X : Cx} {W : WX} {a b c : Expr} {da db : DE} {ta tb : DT} {pos : Pos} {rest : List Expr}
theorem apT_ok {G : Gd} {σ : L2.St} {w : Wd} {μ : Mu} {x : D} {v : V} {γ ε : Type} {rel2 : Wd → γ → ε → Prop} {Q : ε → Hp → Prop} {k : Bool → Mu → R γ} (L : Live G w μ) (r : RelD G w x v)
    (h : Pst G W σ rel2 Q w ((apT x μ).bind k)) : ∃ b, TruV G.K v w.H b ∧ Pst G W σ rel2 Q w (k b μ) := by
  unfold apT at h
  split at h
  · rename_i p e
    exact ⟨_, truV_now (now_of L e r), h⟩
  · exact h.elim
theorem apT_ok' {G : Gd} {σ : L2.St} {w : Wd} {μ : Mu} {x : D} {v : V} {Q : Bool → Hp → Prop} (L : Live G w μ) (r : RelD G w x v)
    (h : Pst G W σ sameR Q w (apT x μ)) : ∃ b, TruV G.K v w.H b ∧ Q b w.H := by
  unfold apT at h
  split at h
  · rename_i p e
    exact ⟨_, truV_now (now_of L e r), here_ok h L rfl⟩
  · exact h.elim
theorem lt_tru (ha : LE X W a da) (he : ∀ whole, isTrue a X.env whole = (do let v ← whole; standAt a.pos; holding [v] (truthy v)) := by intro _; rfl) : LT X W a (dTru da) := by
  refine (pt_truth ha he).imp fun σ H Q ⟨w, δ, μ, e, L, S, h⟩ => ?_
  refine ⟨w, δ, μ, e, L, S, Pst.bind h fun x v w1 μ1 E1 L1 r1 h1 => ?_⟩
  exact apT_ok' L1 r1 h1
theorem lt_not (ha : LT X W a ta) : LT X W (.UnaryOp .Not a pos) (dNotT ta) := by
  refine (pt_not ha).imp fun σ H Q ⟨w, δ, μ, e, L, S, h⟩ => ?_
  refine ⟨w, δ, μ, e, L, S, Pst.bind h fun x v w1 μ1 E1 L1 r1 h1 => ?_⟩
  subst r1
  exact here_ok h1 L1 rfl
theorem lw_and1 (ha : LT X W a ta) : LW X W (.BoolOp .And [a] pos) ta := pw_and1 ha
theorem lw_or1 (ha : LT X W a ta) : LW X W (.BoolOp .Or [a] pos) ta := pw_or1 ha
theorem lw_and (ha : LT X W a ta) (hb : LW X W (.BoolOp .And (b :: rest) pos) tb) : LW X W (.BoolOp .And (a :: b :: rest) pos) (dAndT ta tb) := by
  refine (pw_and ha hb).imp fun σ H Q ⟨w, δ, μ, e, L, S, h⟩ => ?_
  refine ⟨w, δ, μ, e, L, S, Pst.bind h fun x v w1 μ1 E1 L1 r1 h1 => ?_⟩
  subst r1
  cases v with
  | true => exact ⟨w1, δ, μ1, rfl, L1, S.ext L E1, h1⟩
  | false => exact here_ok h1 L1 rfl
theorem lw_or (ha : LT X W a ta) (hb : LW X W (.BoolOp .Or (b :: rest) pos) tb) : LW X W (.BoolOp .Or (a :: b :: rest) pos) (dOrT ta tb) := by
  refine (pw_or ha hb).imp fun σ H Q ⟨w, δ, μ, e, L, S, h⟩ => ?_
  refine ⟨w, δ, μ, e, L, S, Pst.bind h fun x v w1 μ1 E1 L1 r1 h1 => ?_⟩
  subst r1
  cases v with
  | true => exact here_ok h1 L1 rfl
  | false => exact ⟨w1, δ, μ1, rfl, L1, S.ext L E1, h1⟩
theorem lt_w (h : LW X W a ta) : LT X W a ta := h.pt
theorem le_not (ha : LE X W a da) : LE X W (.UnaryOp .Not a pos) (dNotV da) := by
  refine (pe_notT ha).imp fun σ H Q ⟨w, δ, μ, e, L, S, h⟩ => ?_
  refine ⟨w, δ, μ, e, L, S, Pst.bind h fun x v w1 μ1 E1 L1 r1 h1 => ?_⟩
  obtain ⟨b, t, h2⟩ := apT_ok L1 r1 h1
  exact ⟨b, t, here_ok h2 L1 (RelD.t (Rel.bool _))⟩
theorem le_one {op : BoolOp} (ha : LE X W a da) : LE X W (.BoolOp op [a] pos) da := pe_one ha
theorem le_and (ha : LE X W a da) (hb : LE X W (.BoolOp .And (b :: rest) pos) db) : LE X W (.BoolOp .And (a :: b :: rest) pos) (dAndV da db) := by
  refine (pe_andT ha hb).imp fun σ H Q ⟨w, δ, μ, e, L, S, h⟩ => ?_
  refine ⟨w, δ, μ, e, L, S, Pst.bind h fun x v w1 μ1 E1 L1 r1 h1 => ?_⟩
  obtain ⟨b, t, h2⟩ := apT_ok L1 r1 h1
  refine ⟨b, t, ?_⟩
  cases b with
  | true => exact ⟨w1, δ, μ1, rfl, L1, S.ext L E1, h2⟩
  | false => exact here_ok h2 L1 r1
theorem le_or (ha : LE X W a da) (hb : LE X W (.BoolOp .Or (b :: rest) pos) db) : LE X W (.BoolOp .Or (a :: b :: rest) pos) (dOrV da db) := by
  refine (pe_orT ha hb).imp fun σ H Q ⟨w, δ, μ, e, L, S, h⟩ => ?_
  refine ⟨w, δ, μ, e, L, S, Pst.bind h fun x v w1 μ1 E1 L1 r1 h1 => ?_⟩
  obtain ⟨b, t, h2⟩ := apT_ok L1 r1 h1
  refine ⟨b, t, ?_⟩
  cases b with
  | true => exact here_ok h2 L1 r1
  | false => exact ⟨w1, δ, μ1, rfl, L1, S.ext L E1, h2⟩
theorem le_if (hc : LT X W c ta) (ha : LE X W a da) (hb : LE X W b db) : LE X W (.IfExp c a b pos) (dIf ta da db) := by
  refine (pe_ifExp hc ha hb).imp fun σ H Q ⟨w, δ, μ, e, L, S, h⟩ => ?_
  refine ⟨w, δ, μ, e, L, S, Pst.bind h fun x v w1 μ1 E1 L1 r1 h1 => ?_⟩
  subst r1
  cases v with
  | true => exact ⟨w1, δ, μ1, rfl, L1, S.ext L E1, h1⟩
  | false => exact ⟨w1, δ, μ1, rfl, L1, S.ext L E1, h1⟩
theorem ap1_ok {G : Gd} {f : PyData → Option PyData} {σ : L2.St} {w : Wd} {μ : Mu} {x : D} {v : V} {Q : VK} (L : Live G w μ) (r : RelD G w x v) (h : Pst G W σ (RelD G) Q w (ap1 f x μ)) :
    ∃ p d, f p = some d ∧ Now G w p v ∧ ∀ v w', Ext w w' → Live G w' μ → Rel G w' d v → Q v w'.H := by
  unfold ap1 at h
  split at h
  · rename_i p e
    split at h
    · rename_i d e2
      exact ⟨p, d, e2, now_of L e r, fun v w' E L' r => h v w' E L' (RelD.t r)⟩
    · exact h.elim
  · exact h.elim
theorem le_neg (ha : LE X W a da) : LE X W (.UnaryOp .USub a pos) (dUn fNeg da) := by
  refine (pe_un un_neg ha).imp fun σ H Q ⟨w, δ, μ, e, L, S, h⟩ => ?_
  refine ⟨w, δ, μ, e, L, S, Pst.bind h fun x v w1 μ1 E1 L1 r1 h1 => ?_⟩
  obtain ⟨p, d, e2, n, hQ⟩ := ap1_ok L1 r1 h1
  unfold fNeg at e2
  split at e2
  · cases e2
    exact ⟨_, n.int, hQ _ w1 (Ext.refl w1) L1 (Rel.int _)⟩
  · cases e2
end

/-! ## arguments, displays -/
def dNil : DA := fun _ μ => .ok [] μ
def dCons (a : DE) (r : DA) : DA := fun δ μ => (a δ μ).bind fun x μ => (r δ μ).bind fun xs μ => .ok (x :: xs) μ
def itemsOf : PyData → Option (List PyData)
  | .list xs => some xs
  | .tuple xs => some xs
  | _ => none
def apStar (x : D) (μ : Mu) : R (List D) := match rd μ x with
  | some p => match itemsOf p with
    | some xs => .ok (xs.map .t) μ
    | none => .bad
  | none => .bad
def dStar (a : DE) (r : DA) : DA := fun δ μ => (a δ μ).bind fun x μ => (apStar x μ).bind fun ys μ => (r δ μ).bind fun xs μ => .ok (ys ++ xs) μ
def allT : List D → Option (List PyData)
  | [] => some []
  | .t x :: r => (allT r).map (x :: ·)
  | _ :: _ => none
def mkTup (xs : List D) (μ : Mu) : R D := if xs.length ≤ sizeLine then (match allT xs with
  | some ps => .ok (.t (.tuple ps)) μ
  | none => .ok (.tupR xs) μ) else .bad
def dTup (as : DA) : DE := fun δ μ => (as δ μ).bind mkTup
def mkLst (live : Bool) (xs : List D) (μ : Mu) : R D := if xs.length ≤ sizeLine then (match allT xs with
  | some ps => newL live ps μ
  | none => .bad) else .bad
def dLst (live : Bool) (as : DA) : DE := fun δ μ => (as δ μ).bind (mkLst live)
section
variable {X : Cx} {W : WX} {a : Expr} {es : List Expr} {da : DE} {as : DA} {pos p : Pos} {G : Gd} {w : Wd} {μ : Mu}
theorem RelDL.nil : RelDL G w [] [] := by rw [RelDL]
theorem RelDL.cons {d : D} {v : V} {ds : List D} {vs : List V} (h : RelD G w d v) (k : RelDL G w ds vs) : RelDL G w (d :: ds) (v :: vs) := by
  rw [RelDL]
  exact ⟨v, vs, rfl, h, k⟩
theorem RelDL.length : ∀ {ds : List D} {vs : List V}, RelDL G w ds vs → ds.length = vs.length
  | [], _, h => by rw [RelDL] at h; subst h; rfl
  | d :: ds, vs, h => by
    rw [RelDL] at h
    obtain ⟨v, r, rfl, _, h2⟩ := h
    rw [List.length_cons, List.length_cons, RelDL.length h2]
theorem RelDL.append : ∀ {ds es : List D} {vs us : List V}, RelDL G w ds vs → RelDL G w es us → RelDL G w (ds ++ es) (vs ++ us)
  | [], _, _, _, h, k => by rw [RelDL] at h; subst h; exact k
  | d :: ds, es, vs, us, h, k => by
    rw [RelDL] at h
    obtain ⟨v, r, rfl, h1, h2⟩ := h
    exact RelDL.cons h1 (RelDL.append h2 k)
theorem RelDL.map : ∀ {ds : List PyData} {vs : List V}, RelL G w ds vs → RelDL G w (ds.map .t) vs
  | [], _, h => by rw [RelL] at h; subst h; exact RelDL.nil
  | d :: ds, vs, h => by
    rw [RelL] at h
    obtain ⟨v, r, rfl, h1, h2⟩ := h
    exact RelDL.cons (RelD.t h1) (RelDL.map h2)
theorem RelDL.allT : ∀ {ds : List D} {vs : List V} {ps : List PyData}, allT ds = some ps → RelDL G w ds vs → RelL G w ps vs
  | [], vs, ps, e, h => by
    cases e
    rw [RelDL] at h; subst h; exact RelL.nil
  | d :: ds, vs, ps, e, h => by
    rw [RelDL] at h
    obtain ⟨v, r, rfl, h1, h2⟩ := h
    cases d with
    | t x =>
      rw [TV.allT] at e
      obtain ⟨qs, e1, rfl⟩ := Option.map_eq_some_iff.mp e
      rw [RelD] at h1
      exact RelL.cons h1 (RelDL.allT e1 h2)
    | _ => cases e
theorem allT_length : ∀ {ds : List D} {ps : List PyData}, allT ds = some ps → ps.length = ds.length
  | [], ps, e => by cases e; rfl
  | d :: ds, ps, e => by
    cases d with
    | t x =>
      rw [allT] at e
      obtain ⟨qs, e1, rfl⟩ := Option.map_eq_some_iff.mp e
      rw [List.length_cons, List.length_cons, allT_length e1]
    | _ => cases e
theorem la_nil : LA X W [] dNil := pa_nil.imp fun σ H Q ⟨w, δ, μ, e, L, S, h⟩ => by
  subst e
  exact here_ok h L RelDL.nil
theorem la_cons (ha : LE X W a da) (hr : LA X W es as) (hs : starEach (a :: es) X.env = (false, eval a X.env) :: starEach es X.env := by rfl) : LA X W (a :: es) (dCons da as) := by
  refine (pa_cons ha hr hs).imp fun σ H Q ⟨w, δ, μ, e, L, S, h⟩ => ?_
  refine ⟨w, δ, μ, e, L, S, Pst.bind h fun x v w1 μ1 E1 L1 r1 h1 => ?_⟩
  refine ⟨w1, δ, μ1, rfl, L1, S.ext L E1, Pst.bind h1 fun xs vs w2 μ2 E2 L2 r2 h2 => ?_⟩
  exact here_ok h2 L2 (RelDL.cons (RelD.ext L1 E2 _ _ r1) r2)
theorem la_star (ha : LE X W a da) (hr : LA X W es as) (hs : starEach (.Starred a p :: es) X.env = (true, eval a X.env) :: starEach es X.env := by rfl) : LA X W (.Starred a p :: es) (dStar da as) := by
  refine (StX.pa_star ha hr hs).imp fun σ H Q ⟨w, δ, μ, e, L, S, h⟩ => ?_
  refine ⟨w, δ, μ, e, L, S, Pst.bind h fun x v w1 μ1 E1 L1 r1 h1 => ?_⟩
  unfold apStar at h1
  split at h1
  · rename_i q eq
    have n := now_of L1 eq r1
    cases q with
    | list xs =>
      obtain ⟨b, vs, rfl, s1, _, l⟩ := n
      refine ⟨b, vs, rfl, .inr s1, ?_⟩
      refine ⟨w1, δ, μ1, rfl, L1, S.ext L E1, Pst.bind h1 fun ys us w2 μ2 E2 L2 r2 h2 => ?_⟩
      exact here_ok h2 L2 (RelDL.append (RelDL.ext L1 E2 _ _ (RelDL.map l)) r2)
    | tuple xs =>
      obtain ⟨b, vs, rfl, s1, _, l⟩ := n.tup
      refine ⟨b, vs, rfl, .inl s1, ?_⟩
      refine ⟨w1, δ, μ1, rfl, L1, S.ext L E1, Pst.bind h1 fun ys us w2 μ2 E2 L2 r2 h2 => ?_⟩
      exact here_ok h2 L2 (RelDL.append (RelDL.ext L1 E2 _ _ (RelDL.map l)) r2)
    | _ => exact h1.elim
  · exact h1.elim
theorem mkTup_ok {σ : L2.St} {Q : VK} {xs : List D} {vs : List V} (L : Live G w μ) (r : RelDL G w xs vs) (h : Pst G W σ (RelD G) Q w (mkTup xs μ)) : vs.length ≤ sizeLine ∧ ∀ p, w.H p = none → Q (.ref p) (upd w.H p (.tup vs)) := by
  unfold mkTup at h
  split at h
  · rename_i z
    refine ⟨by rw [← r.length]; exact z, fun p n => ?_⟩
    split at h
    · rename_i ps e
      exact newT_ok h L (RelDL.allT e r) (by rw [allT_length e]; exact z) n
    · refine h (.ref p) (w.put p (.tup vs)) (Ext.new L n) (Live.new L n) ?_
      rw [RelD]
      exact ⟨p, vs, rfl, .inl (.inl upd_same), z, RelDL.ext L (Ext.new L n) _ _ r⟩
  · exact h.elim
theorem mkLst_ok {σ : L2.St} {Q : VK} {live : Bool} {xs : List D} {vs : List V} (L : Live G w μ) (r : RelDL G w xs vs) (h : Pst G W σ (RelD G) Q w (mkLst live xs μ)) : vs.length ≤ sizeLine ∧ ∀ p, w.H p = none → Q (.ref p) (upd w.H p (.lst vs)) := by
  unfold mkLst at h
  split at h
  · rename_i z
    refine ⟨by rw [← r.length]; exact z, fun p n => ?_⟩
    split at h
    · rename_i ps e
      exact newL_ok h L (RelDL.allT e r) (by rw [allT_length e]; exact z) n
    · exact h.elim
  · exact h.elim
theorem le_tup {k : Nat} (h : LA X W es as) : LE X W (.Tuple es k pos) (dTup as) := by
  refine (pe_tup h).imp fun σ H Q ⟨w, δ, μ, e, L, S, h⟩ => ?_
  exact ⟨w, δ, μ, e, L, S, Pst.bind h fun x v w1 μ1 E1 L1 r1 h1 => mkTup_ok L1 r1 h1⟩
theorem le_lst (live : Bool) (h : LA X W es as) : LE X W (.List es pos) (dLst live as) := by
  refine (pe_lst h).imp fun σ H Q ⟨w, δ, μ, e, L, S, h⟩ => ?_
  exact ⟨w, δ, μ, e, L, S, Pst.bind h fun x v w1 μ1 E1 L1 r1 h1 => mkLst_ok L1 r1 h1⟩
end

/-! ## items, slices -/
def ixP : PyData → PyData → Option PyData
  | .list xs, .int i => atI xs i
  | .tuple xs, .int i => atI xs i
  | .str z, .int i => (atI z.cps.toList i).map fun c => .str ⟨#[c]⟩
  | _, _ => none
/-- a tuple that holds live lists -/
def apIx (x y : D) (μ : Mu) : R D := match x with
  | .tupR xs => match y with
    | .t (.int i) => match atI xs i with
      | some d => .ok d μ
      | none => .bad
    | _ => .bad
  | x => ap2 ixP x y μ
def dIx (a b : DE) : DE := fun δ μ => (a δ μ).bind fun x μ1 => (b δ μ1).bind fun y μ2 => apIx x y μ2
theorem one_sign (c : Nat) : (⟨#[c]⟩ : Str).length ≤ sizeLine := by
  rw [sizeLine_eq]
  show 1 ≤ 16777216
  decide
theorem atI_rel {G : Gd} {w : Wd} {ds : List PyData} {vs : List V} {i : Int} {d : PyData} (l : RelL G w ds vs) (e : atI ds i = some d) : ∃ v, atI vs i = some v ∧ Rel G w d v := by
  unfold atI at e ⊢
  rw [← l.length]
  cases q : ixN ds.length i with
  | none => rw [q] at e; cases e
  | some j =>
    rw [q] at e
    exact l.get e
theorem RelDL.get {G : Gd} {w : Wd} : ∀ {ds : List D} {vs : List V} {i : Nat} {d : D}, RelDL G w ds vs → ds[i]? = some d → ∃ v, vs[i]? = some v ∧ RelD G w d v
  | [], _, _, _, _, e => by simp at e
  | d :: ds, vs, i, x, h, e => by
    rw [RelDL] at h
    obtain ⟨v, r, rfl, h1, h2⟩ := h
    cases i with
    | zero => simp at e; subst e; exact ⟨v, rfl, h1⟩
    | succ i =>
      obtain ⟨u, q, z⟩ := RelDL.get (i := i) h2 (by simpa using e)
      exact ⟨u, by simpa using q, z⟩
theorem atI_relD {G : Gd} {w : Wd} {ds : List D} {vs : List V} {i : Int} {d : D} (l : RelDL G w ds vs) (e : atI ds i = some d) : ∃ v, atI vs i = some v ∧ RelD G w d v := by
  unfold atI at e ⊢
  rw [← l.length]
  cases q : ixN ds.length i with
  | none => rw [q] at e; cases e
  | some j =>
    rw [q] at e
    exact l.get e
section
variable {X : Cx} {W : WX} {a b : Expr} {da db : DE} {pos p2 : Pos} {lo hi : Option Expr} {dl dh : DO}
theorem ix_ok {G : Gd} {σ : L2.St} {w : Wd} {μ : Mu} {x y : D} {v u : V} {Q : VK} (L : Live G w μ) (r1 : RelD G w x v) (r2 : RelD G w y u) (h : Pst G W σ (RelD G) Q w (apIx x y μ)) : rIx G.K v u w.H Q := by
  have plain : Pst G W σ (RelD G) Q w (ap2 ixP x y μ) → rIx G.K v u w.H Q := fun h => by
    obtain ⟨p, q, d, e, n1, n2, hQ⟩ := ap2_ok (g := binaryOp .Add) L r1 r2 h
    unfold ixP at e
    split at e
    · obtain ⟨a, vs, rfl, s1, _, l⟩ := n1
      obtain ⟨t, q1, q2⟩ := atI_rel l e
      exact .inl ⟨a, vs, _, t, rfl, n2.int, s1, q1, hQ _ w (Ext.refl w) L q2⟩
    · obtain ⟨a, vs, rfl, s1, _, l⟩ := n1.tup
      obtain ⟨t, q1, q2⟩ := atI_rel l e
      exact .inr (.inl ⟨a, vs, _, t, rfl, n2.int, s1, q1, hQ _ w (Ext.refl w) L q2⟩)
    · obtain ⟨c, ec, rfl⟩ := Option.map_eq_some_iff.mp e
      exact .inr (.inr ⟨_, _, c, n1.str.1, n2.int, n1.str.2, ec, hQ _ w (Ext.refl w) L (Rel.str (one_sign c))⟩)
    · cases e
  cases x with
  | tupR xs =>
    simp only [apIx] at h
    split at h
    · rename_i i
      split at h
      · rename_i d e
        rw [RelD] at r1
        obtain ⟨a, vs, rfl, s1, _, l⟩ := r1
        obtain ⟨t, q1, q2⟩ := atI_relD l e
        rw [RelD, Rel] at r2
        exact .inr (.inl ⟨a, vs, i, t, rfl, r2, s1, q1, here_ok h L q2⟩)
      · exact h.elim
    · exact h.elim
  | t _ => exact plain h
  | fz _ => exact plain h
  | lst _ => exact plain h
  | ref _ => exact plain h
  | ty _ => exact plain h
  | glo _ => exact plain h
theorem le_ix (ha : LE X W a da) (hb : LE X W b db) (hs : PlainIx b := by exact fun _ _ => rfl) : LE X W (.Subscript a b pos) (dIx da db) := by
  refine (pe_ix ix_seq ha hb hs).imp fun σ H Q h => ?_
  exact two h fun w μ x y v u L r1 r2 h2 => ix_ok L r1 r2 h2
def cutP {α : Type} (xs : List α) (lo hi : Option Int) : List α := (xs.drop (HT.sIx xs.length 0 lo)).take (HT.sIx xs.length xs.length hi - HT.sIx xs.length 0 lo)
def dNoO : DO := fun _ μ => .ok none μ
def dSomeO (a : DE) : DO := fun δ μ => (a δ μ).bind fun x μ => match x with
  | .t (.int i) => .ok (some i) μ
  | _ => .bad
def apSl (live : Bool) (x : D) (l h : Option Int) (μ : Mu) : R D := match rd μ x with
  | some (.list xs) => newL live (cutP xs l h) μ
  | some (.tuple xs) => .ok (.t (.tuple (cutP xs l h))) μ
  | some (.str z) => .ok (.t (.str (cutS z l h))) μ
  | _ => .bad
def dSl (live : Bool) (a : DE) (l h : DO) : DE := fun δ μ => (a δ μ).bind fun x μ => (l δ μ).bind fun i μ => (h δ μ).bind fun j μ => apSl live x i j μ
theorem lo_none : LO X W none dNoO := po_none.imp fun σ H Q ⟨w, δ, μ, e, L, S, h⟩ => by
  subst e
  exact here_ok h L rfl
theorem lo_some (ha : LE X W a da) : LO X W (some a) (dSomeO da) := by
  refine (po_some ha).imp fun σ H Q ⟨w, δ, μ, e, L, S, h⟩ => ?_
  refine ⟨w, δ, μ, e, L, S, Pst.bind h fun x v w1 μ1 E1 L1 r1 h1 => ?_⟩
  split at h1
  · rw [RelD, Rel] at r1
    exact ⟨_, r1, here_ok h1 L1 rfl⟩
  · exact h1.elim
theorem cut_rel {G : Gd} {w : Wd} {ds : List PyData} {vs : List V} (l : RelL G w ds vs) (i j : Option Int) : RelL G w (cutP ds i j) (cutV vs i j) := by
  unfold cutP cutV
  rw [l.length]
  exact (l.drop _).take _
theorem cutP_length {α : Type} (xs : List α) (lo hi : Option Int) : (cutP xs lo hi).length ≤ xs.length := by
  unfold cutP
  rw [List.length_take, List.length_drop]
  omega
theorem cutP_whole {α : Type} (xs : List α) (lo hi : Option Int) (h : HT.sIx xs.length 0 lo = 0 ∧ HT.sIx xs.length xs.length hi = xs.length) : cutP xs lo hi = xs := by
  unfold cutP
  rw [h.1, h.2, List.drop_zero, Nat.sub_zero, List.take_length]
theorem sl_ok (live : Bool) {G : Gd} {σ : L2.St} {w : Wd} {μ : Mu} {x : D} {v : V} {i j : Option Int} {Q : VK} (L : Live G w μ) (r1 : RelD G w x v) (h : Pst G W σ (RelD G) Q w (apSl live x i j μ)) :
    rSlL G.K v i j w.H Q ∨ rSlA G.K v i j w.H Q ∨ rSlS v i j w.H Q := by
  unfold apSl at h
  split at h
  · rename_i xs e
    obtain ⟨a, vs, rfl, s1, z, l⟩ := now_of L e r1
    exact .inl ⟨a, vs, rfl, s1, fun p n => newL_ok h L (cut_rel l i j) (Nat.le_trans (cutP_length _ _ _) z) n⟩
  · rename_i xs e
    obtain ⟨a, vs, rfl, s1, z, l⟩ := (now_of L e r1).tup
    refine .inr (.inl ⟨a, vs, rfl, s1, fun q => ?_, fun _ p n => newT_ok h L (cut_rel l i j) (Nat.le_trans (cutP_length _ _ _) z) n⟩)
    refine here_ok h L (RelD.t ?_)
    rw [← l.length] at q
    rw [cutP_whole xs i j q, Rel]
    exact ⟨a, vs, rfl, s1, z, l⟩
  · rename_i z e
    obtain ⟨q1, q2⟩ := (now_of L e r1).str
    exact .inr (.inr ⟨z, q1, q2, here_ok h L (RelD.t (Rel.str (Nat.le_trans (cutS_length _ _ _) q2)))⟩)
  · exact h.elim
theorem le_sl (live : Bool) (ha : LE X W a da) (hl : LO X W lo dl) (hh : LO X W hi dh) : LE X W (.Subscript a (.Slice lo hi none p2) pos) (dSl live da dl dh) := by
  refine (pe_slice (sl_list.or (sl_tupA.or sl_str)) ha hl hh).imp fun σ H Q ⟨w, δ, μ, e, L, S, h⟩ => ?_
  refine ⟨w, δ, μ, e, L, S, Pst.bind h fun x v w1 μ1 E1 L1 r1 h1 => ?_⟩
  refine ⟨w1, δ, μ1, rfl, L1, S.ext L E1, Pst.bind h1 fun i i' w2 μ2 E2 L2 r2 h2 => ?_⟩
  refine ⟨w2, δ, μ2, rfl, L2, (S.ext L E1).ext L1 E2, Pst.bind h2 fun j j' w3 μ3 E3 L3 r3 h3 => ?_⟩
  subst r2 r3
  exact sl_ok live L3 (RelD.ext L2 E3 _ _ (RelD.ext L1 E2 _ _ r1)) h3
end
end TV

/-! TV, fifth part: defs, their calls; the law's own call. -/
namespace TV
open PySem PySem.Spec PyProof.Rows L2

/-! ## what a def does -/
def thaw (n0 : Nat) (μ : Mu) : D → Option PyData
  | .t x => some x
  | .lst k => if k < n0 then none else match μ[k]? with
    | some (.l xs) => some (.list xs)
    | _ => none
  | _ => none
def thawL (n0 : Nat) (μ : Mu) : List D → Option (List PyData)
  | [] => some []
  | x :: r => match thaw n0 μ x, thawL n0 μ r with
    | some p, some ps => some (p :: ps)
    | _, _ => none
/-- what is handed back: lists of the def's own become plain data, or the one live list -/
def gc (live : Bool) (n0 : Nat) (x : D) (μ : Mu) : R D := match x with
  | .t p => .ok (.t p) (μ.take n0)
  | .lst k => if k < n0 then .ok (.lst k) (μ.take n0) else match μ[k]? with
    | some (.l xs) => if live then .ok (.lst n0) (μ.take n0 ++ [.l xs]) else .ok (.t (.list xs)) (μ.take n0)
    | _ => .bad
  | .tupR xs => match thawL n0 μ xs with
    | some ps => .ok (.t (.tuple ps)) (μ.take n0)
    | none => .bad
  | _ => .bad
/-- a def of n parameters, m more names -/
def mkF (n m : Nat) (live : Bool) (body : DS) : DF := fun args μ => if args.length = n then (match body (args.map some ++ List.replicate m none) μ with
  | .rt x μ' => gc live μ.length x μ'
  | .nx _ μ' => gc live μ.length (.t .none) μ'
  | .ex c p _ μ' => .ex c p (μ'.take μ.length)
  | _ => .bad) else .bad
/-- its promise -/
def spL (G : Gd) (F : DF) : Sp := fun vs H Q E => ∃ w args μ, w.H = H ∧ Live G w μ ∧ RelDL G w args vs ∧ Pst G (fun c d _ H => E c d H) [] (RelD G) Q w (F args μ)
section
variable {G : Gd} {w₀ w : Wd} {μ₀ μ : Mu}
theorem xrel_cut {n : Nat} (h : n ≤ w.N) {p : Option (List (Str × PyData))} {d : Option Addr} (r : XRel G w p d) : XRel G (w.cut n) p d := by
  cases p with
  | none => cases d with
    | none => exact r
    | some a => exact r.elim
  | some fs => cases d with
    | none => exact r.elim
    | some a => exact (fun ⟨vfs, e, l⟩ => ⟨vfs, e, RelF.cut h fs vfs l⟩) r
theorem take_len (L0 : Live G w₀ μ₀) (L : Live G w μ) (E : Ext w₀ w) : μ₀.length ≤ w.N := by rw [L0.len]; exact E.le
/-- a list of the def's own, let go -/
theorem own_list (L0 : Live G w₀ μ₀) (L : Live G w μ) (E : Ext w₀ w) {k : Nat} {xs : List PyData} (hk : ¬ k < μ₀.length) (e : μ[k]? = some (.l xs)) : Rel G (w.cut μ₀.length) (.list xs) (.ref (w.m k)) := by
  obtain ⟨ho, z, hh⟩ := L.at_ k _ e
  have hkN : k < w.N := by have := (List.getElem?_eq_some_iff.mp e).1; rw [L.len] at this; exact this
  cases ho with
  | lst vs =>
    rw [Rel]
    refine ⟨_, vs, rfl, z, fun n hn q => ?_, hh.1, RelL.cut (take_len L0 L E) xs vs hh.2⟩
    have hn : n < μ₀.length := hn
    have := L.inj n k (Nat.lt_of_lt_of_le hn (take_len L0 L E)) hkN q
    omega
  | _ => exact hh.elim
theorem thaw_ok (L0 : Live G w₀ μ₀) (L : Live G w μ) (E : Ext w₀ w) {x : D} {p : PyData} {v : V} (h : thaw μ₀.length μ x = some p) (r : RelD G w x v) : Rel G (w.cut μ₀.length) p v := by
  cases x with
  | t y =>
    cases h
    rw [RelD] at r
    exact Rel.cut (take_len L0 L E) _ _ r
  | lst k =>
    rw [RelD] at r
    simp only [thaw] at h
    split at h
    · cases h
    · rename_i hk
      split at h
      · rename_i xs e
        cases h
        rw [r.2]
        exact own_list L0 L E hk e
      · cases h
  | fz _ => cases h
  | tupR _ => cases h
  | ref _ => cases h
  | ty _ => cases h
  | glo _ => cases h
theorem thawL_ok (L0 : Live G w₀ μ₀) (L : Live G w μ) (E : Ext w₀ w) : ∀ {xs : List D} {ps : List PyData} {vs : List V}, thawL μ₀.length μ xs = some ps → RelDL G w xs vs → RelL G (w.cut μ₀.length) ps vs ∧ ps.length = xs.length
  | [], ps, vs, h, r => by
    cases h
    rw [RelDL] at r; subst r
    exact ⟨RelL.nil, rfl⟩
  | x :: xs, ps, vs, h, r => by
    rw [RelDL] at r
    obtain ⟨v, r', rfl, h1, h2⟩ := r
    rw [thawL] at h
    split at h
    · rename_i p qs e1 e2
      cases h
      obtain ⟨a, b⟩ := thawL_ok L0 L E e2 h2
      exact ⟨RelL.cons (thaw_ok L0 L E e1 h1) a, by rw [List.length_cons, List.length_cons, b]⟩
    · cases h
/-- the one live list keeps living, at the first place -/
theorem keep_one {W : WX} {σ : L2.St} {v : V} {Q : VK} (L0 : Live G w₀ μ₀) (L : Live G w μ) (E : Ext w₀ w) {k : Nat} {xs : List PyData} (hk : ¬ k < μ₀.length) (e : μ[k]? = some (.l xs)) (r : v = .ref (w.m k))
    (h : Pst G W σ (RelD G) Q w₀ (.ok (.lst μ₀.length) (μ.take μ₀.length ++ [.l xs]))) : Q v w.H := by
  have hle := take_len L0 L E
  have hN : w₀.N = μ₀.length := L0.len.symm
  obtain ⟨ho, z, hh⟩ := L.at_ k _ e
  have hkN : k < w.N := by have := (List.getElem?_eq_some_iff.mp e).1; rw [L.len] at this; exact this
  obtain ⟨w2, e2⟩ : ∃ w2 : Wd, w2 = ⟨w.H, fun n => if n = μ₀.length then w.m k else w.m n, μ₀.length + 1⟩ := ⟨_, rfl⟩
  have hH : w2.H = w.H := by rw [e2]
  have hn2 : w2.N = μ₀.length + 1 := by rw [e2]
  have ml : ∀ n, n < μ₀.length → w2.m n = w.m n := fun n hn => by rw [e2]; exact if_neg (Nat.ne_of_lt hn)
  have mt : w2.m μ₀.length = w.m k := by rw [e2]; exact if_pos rfl
  -- each live place of w2 is one of w's
  have old : ∀ n, n < w2.N → ∃ j, j < w.N ∧ w2.m n = w.m j ∧ (n < μ₀.length → j = n) ∧ (n = μ₀.length → j = k) := fun n hn => by
    rw [hn2] at hn
    by_cases q : n = μ₀.length
    · exact ⟨k, hkN, by rw [q, mt], fun z => by omega, fun _ => rfl⟩
    · have q3 : n < μ₀.length := by omega
      exact ⟨n, Nat.lt_of_lt_of_le q3 hle, ml n q3, fun _ => rfl, fun z => absurd z q⟩
  have off : ∀ a, w.off a → w2.off a := fun a f n hn => by
    obtain ⟨j, hj, ej, _⟩ := old n hn
    rw [ej]
    exact f j hj
  have E2 : Ext w₀ w2 := by
    refine ⟨by rw [hn2, hN]; exact Nat.le_succ _, fun n hn => ?_, fun a o q f => ⟨by rw [hH]; exact (E.keep a o q f).1, off a (E.keep a o q f).2⟩⟩
    rw [ml n (by rw [← hN]; exact hn)]
    exact E.ms n hn
  have L2 : Live G w2 (μ.take μ₀.length ++ [.l xs]) := by
    refine ⟨by rw [List.length_append, List.length_take, L.len, hn2, Nat.min_eq_left hle]; rfl, fun i j hi hj q => ?_, fun i u q => ?_⟩
    · obtain ⟨i', hi', ei, i1, i2⟩ := old i hi
      obtain ⟨j', hj', ej, j1, j2⟩ := old j hj
      have q2 := L.inj i' j' hi' hj' (by rw [← ei, ← ej]; exact q)
      rw [hn2] at hi hj
      by_cases ci : i < μ₀.length
      · by_cases cj : j < μ₀.length
        · rw [← i1 ci, ← j1 cj]; exact q2
        · have e1 := i1 ci
          have e2 := j2 (by omega)
          omega
      · by_cases cj : j < μ₀.length
        · have e1 := i2 (by omega)
          have e2 := j1 cj
          omega
        · omega
    · have tl : (μ.take μ₀.length).length = μ₀.length := by rw [List.length_take, L.len, Nat.min_eq_left hle]
      by_cases ci : i < μ₀.length
      · rw [List.getElem?_append_left (by rw [tl]; exact ci), List.getElem?_take, if_pos ci] at q
        obtain ⟨o', z', r'⟩ := L.at_ i u q
        exact ⟨o', by rw [hH, ml i ci]; exact z', Holds.re hH off r'⟩
      · rw [List.getElem?_append_right (by rw [tl]; omega), tl] at q
        have ei : i = μ₀.length := by
          have := (List.getElem?_eq_some_iff.mp q).1
          simp at this
          omega
        subst ei
        simp at q
        subst q
        exact ⟨ho, by rw [hH, mt]; exact z, Holds.re hH off hh⟩
  have fin := h v w2 E2 L2 (by rw [RelD]; exact ⟨by rw [hn2]; exact Nat.lt_succ_self _, by rw [mt]; exact r⟩)
  rw [hH] at fin
  exact fin
theorem gc_ok {W : WX} {σ : L2.St} {live : Bool} {x : D} {v : V} {Q : VK} (L0 : Live G w₀ μ₀) (L : Live G w μ) (E : Ext w₀ w) (r : RelD G w x v) (h : Pst G W σ (RelD G) Q w₀ (gc live μ₀.length x μ)) : Q v w.H := by
  have hle := take_len L0 L E
  have hN : w₀.N ≤ μ₀.length := Nat.le_of_eq L0.len.symm
  have LC := L.cut hle
  have EC := E.cut hN hle
  cases x with
  | t p =>
    rw [RelD] at r
    exact h v (w.cut μ₀.length) EC LC (RelD.t (Rel.cut hle _ _ r))
  | lst k =>
    simp only [gc] at h
    rw [RelD] at r
    split at h
    · rename_i hk
      exact h v (w.cut μ₀.length) EC LC (by rw [RelD]; exact ⟨hk, r.2⟩)
    · rename_i hk
      split at h
      · rename_i xs e
        split at h
        · exact keep_one L0 L E hk e r.2 h
        · exact h v (w.cut μ₀.length) EC LC (RelD.t (by rw [r.2]; exact own_list L0 L E hk e))
      · exact h.elim
  | tupR xs =>
    simp only [gc] at h
    split at h
    · rename_i ps e
      rw [RelD] at r
      obtain ⟨a, vs, rfl, s1, z, l⟩ := r
      obtain ⟨q1, q2⟩ := thawL_ok L0 L E e l
      refine h (.ref a) (w.cut μ₀.length) EC LC (RelD.t ?_)
      rw [Rel]
      exact ⟨a, vs, rfl, s1, by rw [q2]; exact z, q1⟩
    · exact h.elim
  | fz _ => exact h.elim
  | ref _ => exact h.elim
  | ty _ => exact h.elim
  | glo _ => exact h.elim
end
end TV

/-! TV, sixth part: statements, loops, comprehensions. -/
namespace TV
open PySem PySem.Spec PyProof.Rows L2

section
variable {α β γ ε : Type} {G : Gd} {W : WX} {σ : L2.St} {rel : Wd → α → β → Prop} {w w' : Wd} {μ : Mu} {δ : Sl} {Dn : Ends}
def PstS (G : Gd) (W : WX) (Dn : Ends) (w : Wd) : RS → Prop
  | .nx δ μ => ∀ σ' w', Ext w w' → Live G w' μ → Slots G w' δ σ' → Dn.nx σ' w'.H
  | .bk δ μ => ∀ σ' w', Ext w w' → Live G w' μ → Slots G w' δ σ' → Dn.bk σ' w'.H
  | .ct δ μ => ∀ σ' w', Ext w w' → Live G w' μ → Slots G w' δ σ' → Dn.ct σ' w'.H
  | .rt x μ => ∀ v w', Ext w w' → Live G w' μ → RelD G w' x v → Dn.rt v w'.H
  | .ex c p δ μ => ∀ C d σ' w', G.mg c = some (.ref C) → Ext w w' → Live G w' μ → Slots G w' δ σ' → XRel G w' p d → W (.ref C) d σ' w'.H
  | .bad => False
theorem PstS.ext {r : RS} (E : Ext w w') (h : PstS G W Dn w r) : PstS G W Dn w' r := by
  cases r with
  | nx δ μ => exact fun σ' w2 E2 => h σ' w2 (E.trans E2)
  | bk δ μ => exact fun σ' w2 E2 => h σ' w2 (E.trans E2)
  | ct δ μ => exact fun σ' w2 E2 => h σ' w2 (E.trans E2)
  | rt x μ => exact fun σ' w2 E2 => h σ' w2 (E.trans E2)
  | ex c p δ μ => exact fun C d σ' w2 g E2 => h C d σ' w2 g (E.trans E2)
  | bad => exact h
theorem PstS.bind {P : β → Hp → Prop} {r : R α} {k : α → Mu → RS} {μ₀ : Mu} (L : Live G w μ₀) (S : Slots G w δ σ) (h : PstS G W Dn w (r.toS δ k))
    (hk : ∀ x v w' μ', Ext w w' → Live G w' μ' → rel w' x v → PstS G W Dn w' (k x μ') → P v w'.H) : Pst G W σ rel P w r := by
  cases r with
  | ok x μ' => exact fun v w2 E2 L2 r2 => hk x v w2 μ' E2 L2 r2 (PstS.ext E2 h)
  | ex c p μ' => exact fun C d w2 g E2 L2 x2 => h C d σ w2 g E2 L2 (S.ext L E2) x2
  | bad => exact h
def liftS (G : Gd) (W : WX) (s : DS) : TS := fun Dn σ H => ∃ w δ μ, w.H = H ∧ Live G w μ ∧ Slots G w δ σ ∧ PstS G W Dn w (s δ μ)
end
theorem _root_.L2.PS.imp {X : Cx} {e : Stmt} {t t' : TS} (h : PS X e t) (f : ∀ D σ H, t' D σ H → t D σ H) : PS X e t' := ⟨fun pins s σ H D I q => h.run pins s σ H D I (f _ _ _ q)⟩
theorem _root_.L2.PSs.imp {X : Cx} {e : List Stmt} {t t' : TS} (h : PSs X e t) (f : ∀ D σ H, t' D σ H → t D σ H) : PSs X e t' := ⟨fun pins s σ H D I q => h.run pins s σ H D I (f _ _ _ q)⟩
theorem _root_.L2.PG.imp {X : Cx} {e : Expr} {t t' : TG} (h : PG X e t) (f : ∀ v σ H Q, t' v σ H Q → t v σ H Q) : PG X e t' := ⟨fun pins s σ H v u Q I r q => h.run pins s σ H v u Q I r (f _ _ _ _ q)⟩
theorem _root_.L2.PI.imp {X : Cx} {tg e : Expr} {t t' : TI} (h : PI X tg e t) (f : ∀ σ H R, t' σ H R → t σ H R) : PI X tg e t' := ⟨fun pins s σ H R I q => h.run pins s σ H R I (f _ _ _ q)⟩
abbrev LS (X : Cx) (W : WX) (st : Stmt) (s : DS) : Prop := PS X st (liftS (gx X) W s)
abbrev LSs (X : Cx) (W : WX) (st : List Stmt) (s : DS) : Prop := PSs X st (liftS (gx X) W s)

/-! ## plain statements -/
def sSkip : DS := fun δ μ => .nx δ μ
def sSeq (a b : DS) : DS := fun δ μ => (a δ μ).seq b
def sExpr (d : DE) : DS := fun δ μ => (d δ μ).toS δ fun _ μ => .nx δ μ
def sRet (d : DE) : DS := fun δ μ => (d δ μ).toS δ fun x μ => .rt x μ
def sRetN : DS := fun _ μ => .rt (.t .none) μ
def sIf (c : DT) (a b : DS) : DS := fun δ μ => (c δ μ).toS δ fun k μ => if k then a δ μ else b δ μ
def sBreak : DS := fun δ μ => .bk δ μ
def sCont : DS := fun δ μ => .ct δ μ
section
variable {X : Cx} {W : WX} {e c : Expr} {d : DE} {t : DT} {s s' : DS} {st : Stmt} {rest body orelse : List Stmt} {pos : Pos}
theorem lss_nil : LSs X W [] sSkip := pss_nil.imp fun D σ H ⟨w, δ, μ, e, L, S, h⟩ => by
  subst e
  exact h σ w (Ext.refl w) L S
theorem lss_cons (h1 : LS X W st s) (h2 : LSs X W rest s') : LSs X W (st :: rest) (sSeq s s') := by
  refine (pss_cons h1 h2).imp fun Dn σ H ⟨w, δ, μ, e, L, S, h⟩ => ?_
  refine ⟨w, δ, μ, e, L, S, ?_⟩
  unfold sSeq at h
  cases q : s δ μ with
  | nx δ' μ' =>
    rw [q] at h
    exact fun σ' w' E L' S' => ⟨w', δ', μ', rfl, L', S', PstS.ext E h⟩
  | bk δ' μ' => rw [q] at h; exact h
  | ct δ' μ' => rw [q] at h; exact h
  | rt x μ' => rw [q] at h; exact h
  | ex c p δ' μ' => rw [q] at h; exact h
  | bad => rw [q] at h; exact h
theorem lss_one (h1 : LS X W st s) : LSs X W [st] s := pss_one h1
theorem ls_pass : LS X W (.Pass pos) sSkip := ps_pass.imp fun D σ H ⟨w, δ, μ, e, L, S, h⟩ => by
  subst e
  exact h σ w (Ext.refl w) L S
theorem ls_break : LS X W (.Break pos) sBreak := ps_break.imp fun D σ H ⟨w, δ, μ, e, L, S, h⟩ => by
  subst e
  exact h σ w (Ext.refl w) L S
theorem ls_cont : LS X W (.Continue pos) sCont := ps_continue.imp fun D σ H ⟨w, δ, μ, e, L, S, h⟩ => by
  subst e
  exact h σ w (Ext.refl w) L S
theorem ls_expr (he : LE X W e d) (hs : swapsWith e none pos.line X.env = pure false := by rfl) : LS X W (.Expr e pos) (sExpr d) := by
  refine (ps_expr he hs).imp fun Dn σ H ⟨w, δ, μ, e, L, S, h⟩ => ?_
  refine ⟨w, δ, μ, e, L, S, PstS.bind L S h fun x v w' μ' E L' r h' => ?_⟩
  exact h' σ w' (Ext.refl w') L' (S.ext L E)
theorem ls_ret (he : LE X W e d) : LS X W (.Return (some e) pos) (sRet d) := by
  refine (ps_ret he).imp fun Dn σ H ⟨w, δ, μ, e, L, S, h⟩ => ?_
  refine ⟨w, δ, μ, e, L, S, PstS.bind L S h fun x v w' μ' E L' r h' => ?_⟩
  exact h' v w' (Ext.refl w') L' r
theorem ls_retN : LS X W (.Return none pos) sRetN := ps_retN.imp fun D σ H ⟨w, δ, μ, e, L, S, h⟩ => by
  subst e
  exact h .non w (Ext.refl w) L (RelD.t Rel.nil_)
theorem ls_if (hc : LT X W c t) (ha : LSs X W body s) (hb : LSs X W orelse s') : LS X W (.If c body orelse pos) (sIf t s s') := by
  refine (ps_if hc ha hb).imp fun Dn σ H ⟨w, δ, μ, e, L, S, h⟩ => ?_
  refine ⟨w, δ, μ, e, L, S, PstS.bind L S h fun x v w' μ' E L' r h' => ?_⟩
  subst r
  cases v with
  | true => exact ⟨w', δ, μ', rfl, L', S.ext L E, h'⟩
  | false => exact ⟨w', δ, μ', rfl, L', S.ext L E, h'⟩
end

/-! ## targets -/
abbrev DG := D → Sl → Mu → RS
/-- what is stored changes the slots ws alone -/
def PstG (G : Gd) (W : WX) (σ : L2.St) (ws : List Nat) (Q : L2.St → Hp → Prop) (w : Wd) : RS → Prop
  | .nx δ μ => ∀ σ' w', σ'.length = σ.length → (∀ j, j ∉ ws → σ'[j]? = σ[j]?) → Ext w w' → Live G w' μ → Slots G w' δ σ' → Q σ' w'.H
  | .ex c p δ μ => ∀ C d σ' w', G.mg c = some (.ref C) → Ext w w' → Live G w' μ → Slots G w' δ σ' → XRel G w' p d → W (.ref C) d σ' w'.H
  | _ => False
def liftG (G : Gd) (W : WX) (ws : List Nat) (g : DG) : TG := fun v σ H Q => ∃ w δ μ x, w.H = H ∧ Live G w μ ∧ Slots G w δ σ ∧ RelD G w x v ∧ PstG G W σ ws Q w (g x δ μ)
abbrev LG (X : Cx) (W : WX) (tg : Expr) (ws : List Nat) (g : DG) : Prop := PG X tg (liftG (gx X) W ws g)
def gN (i : Nat) : DG := fun x δ μ => .nx (δ.set i (some x)) μ
/-- several targets, one after another -/
def gAll : List DG → List D → Sl → Mu → RS
  | [], [], δ, μ => .nx δ μ
  | g :: gs, x :: xs, δ, μ => match g x δ μ with
    | .nx δ' μ' => gAll gs xs δ' μ'
    | .ex c p δ' μ' => .ex c p δ' μ'
    | _ => .bad
  | _, _, _, _ => .bad
def tupItems : D → Option (List D)
  | .t (.tuple xs) => some (xs.map .t)
  | .t (.list xs) => some (xs.map .t)
  | .tupR xs => some xs
  | _ => none
def gT (gs : List DG) : DG := fun x δ μ => match tupItems x with
  | some xs => if xs.length = gs.length then gAll gs xs δ μ else .bad
  | none => .bad
def sAsg (d : DE) (g : DG) : DS := fun δ μ => (d δ μ).toS δ fun x μ => g x δ μ
theorem Slots.set {G : Gd} {w : Wd} {δ : Sl} {σ : L2.St} {x : D} {v : V} (S : Slots G w δ σ) (r : RelD G w x v) (i : Nat) : Slots G w (δ.set i (some x)) (σ.set i (some v)) := by
  refine ⟨by rw [List.length_set, List.length_set]; exact S.1, fun j d e => ?_⟩
  by_cases h : i = j
  · subst h
    by_cases hl : i < δ.length
    · rw [List.getElem?_set_self hl] at e
      cases e
      exact ⟨v, List.getElem?_set_self (by rw [← S.1]; exact hl), r⟩
    · rw [List.getElem?_eq_none (by rw [List.length_set]; omega)] at e
      cases e
  · rw [List.getElem?_set_ne h] at e
    obtain ⟨u, q, r'⟩ := S.2 j d e
    exact ⟨u, by rw [List.getElem?_set_ne h]; exact q, r'⟩
section
variable {X : Cx} {W : WX} {e : Expr} {d : DE} {pos : Pos}
theorem lg_name (i : Nat) {x : Str} (hN : X.N.Nodup) (hi : X.N[i]? = some x) (hx : Loc X.env.scope x) (hf : X.fn x = true ∨ X.env.scope.names.lookup x = some .local := by first | exact .inl rfl | exact .inr rfl | assumption) : LG X W (.Name x pos) [i] (gN i) := by
  refine (pg_name hN hi hx hf).imp fun v σ H Q ⟨w, δ, μ, x, e, L, S, r, h⟩ => ?_
  subst e
  refine h (σ.set i (some v)) w (List.length_set ..) (fun j hj => ?_) (Ext.refl w) L (S.set r i)
  rw [List.getElem?_set_ne]
  intro z
  exact hj (by rw [z]; exact List.mem_singleton.mpr rfl)
/-- several -/
def LGs (X : Cx) (W : WX) (ts : List Expr) (ws : List Nat) (gs : List DG) : Prop :=
  PGs X ts (fun vs σ H Q => ∃ w δ μ xs, w.H = H ∧ Live (gx X) w μ ∧ Slots (gx X) w δ σ ∧ RelDL (gx X) w xs vs ∧ PstG (gx X) W σ ws Q w (gAll gs xs δ μ))
theorem _root_.L2.PGs.imp {X : Cx} {e : List Expr} {t t' : TGs} (h : PGs X e t) (f : ∀ v σ H Q, t' v σ H Q → t v σ H Q) : PGs X e t' := ⟨fun pins s σ H v u Q I r q => h.run pins s σ H v u Q I r (f _ _ _ _ q)⟩
theorem lgs_nil : LGs X W [] [] [] := by
  refine pgs_nil.imp fun vs σ H Q ⟨w, δ, μ, xs, e, L, S, r, h⟩ => ?_
  subst e
  cases xs with
  | nil =>
    rw [RelDL] at r
    subst r
    exact ⟨rfl, h σ w rfl (fun _ _ => rfl) (Ext.refl w) L S⟩
  | cons x xs => exact h.elim
theorem lgs_cons {t : Expr} {ts : List Expr} {ws ws' : List Nat} {g : DG} {gs : List DG} (h1 : LG X W t ws g) (h2 : LGs X W ts ws' gs)
    (hs : (assignEach (t :: ts) X.env).map (·.2) = assign t X.env :: (assignEach ts X.env).map (·.2) := by rfl) : LGs X W (t :: ts) (ws ++ ws') (g :: gs) := by
  refine (pgs_cons h1 h2 hs).imp fun vs σ H Q ⟨w, δ, μ, xs, e, L, S, r, h⟩ => ?_
  cases xs with
  | nil => exact h.elim
  | cons x xs =>
    rw [RelDL] at r
    obtain ⟨v, vr, rfl, r1, r2⟩ := r
    refine ⟨v, vr, rfl, w, δ, μ, x, e, L, S, r1, ?_⟩
    rw [gAll] at h
    cases q : g x δ μ with
    | nx δ' μ' =>
      rw [q] at h
      intro σ' w' hl hj E L' S'
      refine ⟨w', δ', μ', xs, rfl, L', S', RelDL.ext L E _ _ r2, ?_⟩
      have h : PstG (gx X) W σ (ws ++ ws') Q w (gAll gs xs δ' μ') := h
      cases q2 : gAll gs xs δ' μ' with
      | nx δ2 μ2 =>
        rw [q2] at h
        intro σ2 w2 hl2 hj2 E2 L2 S2
        refine h σ2 w2 (hl2.trans hl) (fun j hm => ?_) (E.trans E2) L2 S2
        rw [List.mem_append, not_or] at hm
        exact (hj2 j hm.2).trans (hj j hm.1)
      | ex c p δ2 μ2 =>
        rw [q2] at h
        exact fun C d σ2 w2 g2 E2 => h C d σ2 w2 g2 (E.trans E2)
      | bk _ _ => rw [q2] at h; exact h
      | ct _ _ => rw [q2] at h; exact h
      | rt _ _ => rw [q2] at h; exact h
      | bad => rw [q2] at h; exact h
    | ex c p δ' μ' => rw [q] at h; exact h
    | bk _ _ => rw [q] at h; exact h
    | ct _ _ => rw [q] at h; exact h
    | rt _ _ => rw [q] at h; exact h
    | bad => rw [q] at h; exact h
theorem _root_.L2.PG.or {X : Cx} {e : Expr} {t t' : TG} (h : PG X e t) (h' : PG X e t') : PG X e (fun v σ H Q => t v σ H Q ∨ t' v σ H Q) := ⟨fun pins s σ H v u Q I r q => by
  rcases q with q | q
  · exact h.run pins s σ H v u Q I r q
  · exact h'.run pins s σ H v u Q I r q⟩
theorem lg_tup {es : List Expr} {k : Nat} {ws : List Nat} {gs : List DG} (hc : X.calm = true) (h : LGs X W es ws gs)
    (hn : (assignEach es X.env).length = gs.length := by rfl) (hst : (assignEach es X.env).findIdx? (·.1) = none := by rfl) : LG X W (.Tuple es k pos) ws (gT gs) := by
  refine ((pg_tup hc h hn hst).or (pg_lst hc h hn hst)).imp fun v σ H Q ⟨w, δ, μ, x, e, L, S, r, h⟩ => ?_
  unfold gT at h
  split at h
  · rename_i xs e1
    split at h
    · rename_i hl
      have key : ∃ a vs, v = .ref a ∧ (SqT X.K w.H a vs ∨ SqL X.K w.H a vs) ∧ RelDL (gx X) w xs vs := by
        cases x with
        | t y =>
          cases y with
          | tuple ys =>
            cases e1
            rw [RelD] at r
            obtain ⟨a, vs, rfl, s1, _, l⟩ := Now.tup r
            exact ⟨a, vs, rfl, .inl s1, RelDL.map l⟩
          | list ys =>
            cases e1
            rw [RelD, Rel] at r
            obtain ⟨a, vs, rfl, s1, _, _, l⟩ := r
            exact ⟨a, vs, rfl, .inr (.inl (.inl s1)), RelDL.map l⟩
          | _ => cases e1
        | tupR ys =>
          cases e1
          rw [RelD] at r
          obtain ⟨a, vs, rfl, s1, _, l⟩ := r
          exact ⟨a, vs, rfl, .inl s1, l⟩
        | _ => cases e1
      obtain ⟨a, vs, rfl, s1, l⟩ := key
      subst e
      rcases s1 with s1 | s1
      · exact .inl ⟨a, vs, rfl, s1, by rw [← l.length]; exact hl, w, δ, μ, xs, rfl, L, S, l, h⟩
      · exact .inr ⟨a, vs, rfl, s1, by rw [← l.length]; exact hl, w, δ, μ, xs, rfl, L, S, l, h⟩
    · exact h.elim
  · exact h.elim
/-- target = value -/
theorem asg_ok {G : Gd} {Dn : Ends} {ws : List Nat} {σ : L2.St} {w : Wd} {r : RS} (h : PstS G W Dn w r) (hr : ∀ δ μ, r ≠ .bk δ μ) (hr2 : ∀ δ μ, r ≠ .ct δ μ) (hr3 : ∀ x μ, r ≠ .rt x μ) : PstG G W σ ws Dn.nx w r := by
  cases r with
  | nx δ μ => exact fun σ' w' _ _ E L S => h σ' w' E L S
  | ex c p δ μ => exact h
  | bk δ μ => exact absurd rfl (hr δ μ)
  | ct δ μ => exact absurd rfl (hr2 δ μ)
  | rt x μ => exact absurd rfl (hr3 x μ)
  | bad => exact h
/-- a store's answers alone -/
def onlyG (r : RS) : RS := match r with
  | .nx δ μ => .nx δ μ
  | .ex c p δ μ => .ex c p δ μ
  | _ => .bad
theorem onlyG_ok {G : Gd} {Dn : Ends} {ws : List Nat} {σ : L2.St} {w : Wd} {r : RS} (h : PstS G W Dn w (onlyG r)) : PstG G W σ ws Dn.nx w r := by
  cases r with
  | nx δ μ => exact fun σ' w' _ _ E L S => h σ' w' E L S
  | ex c p δ μ => exact h
  | bk δ μ => exact h
  | ct δ μ => exact h
  | rt x μ => exact h
  | bad => exact h
theorem ls_asg {tg : Expr} {ws : List Nat} {g : DG} (he : LE X W e d) (hg : LG X W tg ws g) (hs : swapsWithSole [tg] e pos.line X.env = pure false := by rfl) (hw : swappedStores [tg] e X.env = pure none := by rfl)
    (h1 : (assignEach [tg] X.env).map (·.2) = [assign tg X.env] := by rfl) : LS X W (.Assign [tg] e pos) (sAsg d fun x δ μ => onlyG (g x δ μ)) := by
  refine (ps_asg he hg hs hw h1).imp fun Dn σ H ⟨w, δ, μ, e, L, S, h⟩ => ?_
  refine ⟨w, δ, μ, e, L, S, PstS.bind L S h fun x v w' μ' E L' r h' => ?_⟩
  exact ⟨w', δ, μ', x, rfl, L', S.ext L E, r, onlyG_ok h'⟩
def sSet (i : Nat) (d : DE) : DS := fun δ μ => (d δ μ).toS δ fun x μ => .nx (δ.set i (some x)) μ
theorem ls_set {i : Nat} {x : Str} {pos' : Pos} (hN : X.N.Nodup) (hi : X.N[i]? = some x) (hx : Loc X.env.scope x) (he : LE X W e d) (hs : swapsWith e (some (.Name x pos')) pos.line X.env = pure false := by rfl)
    (hf : X.fn x = true ∨ X.env.scope.names.lookup x = some .local := by first | exact .inl rfl | exact .inr rfl | assumption) : LS X W (.Assign [.Name x pos'] e pos) (sSet i d) := by
  refine (ps_set hN hi hx he hs hf).imp fun Dn σ H ⟨w, δ, μ, e, L, S, h⟩ => ?_
  refine ⟨w, δ, μ, e, L, S, PstS.bind L S h fun x v w' μ' E L' r h' => ?_⟩
  exact h' _ w' (Ext.refl w') L' ((S.ext L E).set r i)
/-- a, b = x, y -/
def sPar (i j : Nat) (as : DA) : DS := fun δ μ => (as δ μ).toS δ fun xs μ => match xs with
  | [x, y] => .nx ((δ.set i (some x)).set j (some y)) μ
  | _ => .bad
theorem ls_par {i j : Nat} {x y : Str} {a b : Expr} {as : DA} {px py pt : Pos} {kt k2 : Nat} {pt2 : Pos} (hc : X.calm = true) (hN : X.N.Nodup) (hi : X.N[i]? = some x) (hj : X.N[j]? = some y) (hij : i ≠ j)
    (hx : X.env.scope.names.lookup x = some .local) (hy : X.env.scope.names.lookup y = some .local) (ha : LA X W [a, b] as)
    (hw : swappedStores [.Tuple [.Name x px, .Name y py] kt pt] (.Tuple [a, b] k2 pt2) X.env = pure (some [x, y]) := by rfl)
    (hs : swapsWithSole [.Tuple [.Name x px, .Name y py] kt pt] (.Tuple [a, b] k2 pt2) pos.line X.env = pure false := by rfl) :
    LS X W (.Assign [.Tuple [.Name x px, .Name y py] kt pt] (.Tuple [a, b] k2 pt2) pos) (sPar i j as) := by
  refine (ps_par hc hN hi hj hij hx hy ha hw hs).imp fun Dn σ H ⟨w, δ, μ, e, L, S, h⟩ => ?_
  refine ⟨w, δ, μ, e, L, S, PstS.bind L S h fun xs vs w' μ' E L' r h' => ?_⟩
  split at h'
  · rename_i p q
    rw [RelDL] at r
    obtain ⟨v1, r1, rfl, q1, r⟩ := r
    rw [RelDL] at r
    obtain ⟨v2, r2, rfl, q2, r⟩ := r
    rw [RelDL] at r
    subst r
    exact ⟨v1, v2, rfl, h' _ w' (Ext.refl w') L' (((S.ext L E).set q1 i).set q2 j)⟩
  · exact h'.elim
/-- name op= e -/
def sAug (i : Nat) (f : PyData → PyData → Option PyData) (d : DE) : DS := fun δ μ => match δ[i]? with
  | some (some x) => (d δ μ).toS δ fun y μ => (ap2 f x y μ).toS δ fun z μ => .nx (δ.set i (some z)) μ
  | _ => .bad
theorem ls_aug {i : Nat} {x : Str} {op : Operator} {pos' : Pos} {f : PyData → PyData → Option PyData} (hN : X.N.Nodup) (hi : X.N[i]? = some x) (hx : Loc X.env.scope x) (he : LE X W e d) (ho : Op2 X (inplaceOp op) f)
    (hf : X.fn x = true ∨ X.env.scope.names.lookup x = some .local := by first | exact .inl rfl | exact .inr rfl | assumption) : LS X W (.AugAssign (.Name x pos') op e pos) (sAug i f d) := by
  obtain ⟨r, o, k⟩ := ho
  refine (ps_aug hN hi hx he (ti := r) (fun pins s σ H x y v u Q I r1 r2 h => o pins s σ H x y v u Q I r1 r2 h) hf).imp fun Dn σ H ⟨w, δ, μ, e, L, S, h⟩ => ?_
  unfold sAug at h
  split at h
  · rename_i x0 ex
    obtain ⟨v0, q0, r0⟩ := S.2 i x0 ex
    refine ⟨v0, q0, w, δ, μ, e, L, S, PstS.bind L S h fun y u w' μ' E L' ry h' => ?_⟩
    have h2 := PstS.bind (rel := RelD (gx X)) (P := fun z H2 => Dn.nx (σ.set i (some z)) H2) L' (S.ext L E) h' fun z v w2 μ2 E2 L2 rz h2 => h2 _ w2 (Ext.refl w2) L2 (((S.ext L E).ext L' E2).set rz i)
    obtain ⟨p, q, dd, e1, n1, n2, hQ⟩ := ap2_ok (g := inplaceOp op) L' (RelD.ext L E _ _ r0) ry h2
    exact k w' μ' p q dd v0 u _ L' e1 n1 n2 hQ
  · exact h.elim
def fAddI : PyData → PyData → Option PyData
  | .int i, .int j => some (.int (i + j))
  | _, _ => none
theorem io_add : Op2 X (inplaceOp .Add) fAddI := by
  refine ⟨_, iop_add, fun w μ p q d x y Q L e hp hq hQ => ?_⟩
  unfold fAddI at e
  split at e
  · cases e
    exact ⟨_, _, hp.int, hq.int, hQ _ w (Ext.refl w) L (Rel.int _)⟩
  · cases e
theorem io_sub : Op2 X (inplaceOp .Sub) fSub := by
  refine ⟨_, iop_sub, fun w μ p q d x y Q L e hp hq hQ => ?_⟩
  unfold fSub at e
  split at e
  · cases e
    exact ⟨_, _, hp.int, hq.int, hQ _ w (Ext.refl w) L (Rel.int _)⟩
  · cases e
/-- o[i] = e, o a live list -/
def gSub (a b : DE) : DG := fun x δ μ => (a δ μ).toS δ fun o μ => (b δ μ).toS δ fun i μ => match o, i, x with
  | .lst n, .t (.int k), .t p => match μ[n]? with
    | some (.l xs) => match ixN xs.length k with
      | some j => .nx δ (μ.set n (.l (xs.set j p)))
      | none => .bad
    | _ => .bad
  | _, _, _ => .bad
theorem toG_ok {α β : Type} {rel : Wd → α → β → Prop} {G : Gd} {σ : L2.St} {ws : List Nat} {Q : L2.St → Hp → Prop} {P : β → Hp → Prop} {w : Wd} {r : R α} {k : α → Mu → RS} {μ₀ : Mu} {δ : Sl} (L : Live G w μ₀) (S : Slots G w δ σ) (h : PstG G W σ ws Q w (r.toS δ k))
    (hk : ∀ x v w' μ', Ext w w' → Live G w' μ' → rel w' x v → PstG G W σ ws Q w' (k x μ') → P v w'.H) : Pst G W σ rel P w r := by
  cases r with
  | ok x μ' =>
    refine fun v w2 E2 L2 r2 => hk x v w2 μ' E2 L2 r2 ?_
    have h : PstG G W σ ws Q w (k x μ') := h
    cases q : k x μ' with
    | nx δ' μ2 => rw [q] at h; exact fun σ' w' a b E => h σ' w' a b (E2.trans E)
    | ex c p δ' μ2 => rw [q] at h; exact fun C d σ' w' g E => h C d σ' w' g (E2.trans E)
    | bk _ _ => rw [q] at h; exact h
    | ct _ _ => rw [q] at h; exact h
    | rt _ _ => rw [q] at h; exact h
    | bad => rw [q] at h; exact h
  | ex c p μ' => exact fun C d w2 g E2 L2 x2 => h C d σ w2 g E2 L2 (S.ext L E2) x2
  | bad => exact h
theorem lg_sub {o i : Expr} {da db : DE} (ho : LE X W o da) (hi : LE X W i db)
    (ha : ∀ v, assign (.Subscript o i pos) X.env v = (do
      let ov ← holding [v] (eval o X.env)
      let iv ← holding [v, ov] (eval i X.env)
      standAt pos
      holding [v, ov, iv] (setItem ov iv v)
      release [v, ov, iv] []) := by intro _; rfl) : LG X W (.Subscript o i pos) [] (gSub da db) := by
  refine (pg_sub ho hi set_list ha).imp fun v σ H Q ⟨w, δ, μ, x, e, L, S, r, h⟩ => ?_
  refine ⟨w, δ, μ, e, L, S, toG_ok L S h fun o' ov w1 μ1 E1 L1 r1 h1 => ?_⟩
  refine ⟨w1, δ, μ1, rfl, L1, S.ext L E1, toG_ok L1 (S.ext L E1) h1 fun i' iv w2 μ2 E2 L2 r2 h2 => ?_⟩
  split at h2
  · rename_i n k p
    split at h2
    · rename_i xs ex
      split at h2
      · rename_i j ej
        obtain ⟨ho', z, hh⟩ := L2.at_ n _ ex
        have r1' := RelD.ext L1 E2 _ _ r1
        rw [RelD] at r1'
        rw [RelD] at r2
        rw [Rel] at r2
        have rx := RelD.ext L1 E2 _ _ (RelD.ext L E1 _ _ r)
        rw [RelD] at rx
        cases ho' with
        | lst vs =>
          refine ⟨_, vs, k, j, r1'.2, r2, z, by rw [← hh.2.length]; exact ej, ?_⟩
          exact h2 σ ⟨upd w2.H (w2.m n) (.lst (vs.set j v)), w2.m, w2.N⟩ rfl (fun _ _ => rfl) (Ext.set L2 _ r1'.1) (Live.set L2 r1'.1 (q := .l (xs.set j p)) ⟨by rw [List.length_set]; exact hh.1, hh.2.set rx j⟩)
            (((S.ext L E1).ext L1 E2).ext L2 (Ext.set L2 _ r1'.1))
        | _ => exact hh.elim
      · exact h2.elim
    · exact h2.elim
  · exact h2.elim
end
end TV

/-! TV, seventh part: what is walked; for, while; list comprehensions. -/
namespace TV
open PySem PySem.Spec PyProof.Rows L2

/-! ## equality of data, decided -/
mutual
def beqP : PyData → PyData → Bool
  | .none, .none => true
  | .bool a, .bool b => a == b
  | .int a, .int b => a == b
  | .str a, .str b => a == b
  | .list a, .list b => beqL a b
  | .tuple a, .tuple b => beqL a b
  | _, _ => false
def beqL : List PyData → List PyData → Bool
  | [], [] => true
  | x :: xs, y :: ys => beqP x y && beqL xs ys
  | _, _ => false
end
mutual
theorem beqP_eq : ∀ {a b : PyData}, beqP a b = true → a = b
  | .none, b, h => by cases b <;> simp [beqP] at h <;> rfl
  | .bool x, b, h => by cases b <;> simp [beqP] at h; rw [h]
  | .int x, b, h => by cases b <;> simp [beqP] at h; rw [h]
  | .str x, b, h => by cases b <;> simp [beqP] at h; rw [h]
  | .list x, b, h => by cases b <;> simp [beqP] at h; rw [beqL_eq h]
  | .tuple x, b, h => by cases b <;> simp [beqP] at h; rw [beqL_eq h]
  | .dict x, b, h => by cases b <;> simp [beqP] at h
theorem beqL_eq : ∀ {a b : List PyData}, beqL a b = true → a = b
  | [], b, h => by cases b <;> simp [beqL] at h <;> rfl
  | x :: xs, b, h => by
    cases b with
    | nil => simp [beqL] at h
    | cons y ys =>
      simp only [beqL, Bool.and_eq_true] at h
      rw [beqP_eq h.1, beqL_eq h.2]
end

/-! ## what is walked -/
/-- the items; the live list that they stand in, which must stay so -/
abbrev It' := List PyData × Option Nat
def chk (p : It') (μ : Mu) : Bool := match p.2 with
  | none => true
  | some n => match μ[n]? with
    | some (.l ys) => beqL ys p.1
    | _ => false
structure ItOk (G : Gd) (p : It') (w₀ : Wd) (J : It) : Prop where
  few : p.1.length ≤ sizeLine
  go : ∀ i w μ, Ext w₀ w → Live G w μ → chk p μ = true → i < p.1.length → J.go i w.H
  yld : ∀ i w μ v H', Ext w₀ w → Live G w μ → chk p μ = true → i < p.1.length → J.yld i w.H v H' → ∃ w', w'.H = H' ∧ Ext w w' ∧ Live G w' μ ∧ ∃ d, p.1[i]? = some d ∧ Rel G w' d v
  stop : ∀ w μ, Ext w₀ w → Live G w μ → chk p μ = true → J.stop p.1.length w.H
abbrev DI := Sl → Mu → R It'
def relI (G : Gd) : Wd → It' → It → Prop := fun w p J => ItOk G p w J
abbrev LI (X : Cx) (W : WX) (tg iter : Expr) (d : DI) : Prop := PI X tg iter (lift (gx X) W (relI (gx X)) d)
/-- a text's signs -/
def signsOf (x : Str) : List PyData := x.cps.toList.map fun c => .str ⟨#[c]⟩
/-- a list or a tuple -/
def apI (x : D) (μ : Mu) : R It' := match x with
  | .t (.list xs) => .ok (xs, none) μ
  | .t (.tuple xs) => .ok (xs, none) μ
  | .fz xs => .ok (xs, none) μ
  | .t (.str x) => .ok (signsOf x, none) μ
  | .lst n => match μ[n]? with
    | some (.l xs) => .ok (xs, some n) μ
    | _ => .bad
  | _ => .bad
def dSeqI (a : DE) : DI := fun δ μ => (a δ μ).bind apI
def intsFrom (lo : Int) : Nat → List PyData
  | 0 => []
  | n + 1 => .int lo :: intsFrom (lo + 1) n
def apR2 (lo hi : Int) (μ : Mu) : R It' := if -(2 ^ 62) ≤ lo ∧ lo < 2 ^ 62 ∧ -(2 ^ 62) ≤ hi ∧ hi < 2 ^ 62 ∧ (hi - lo).toNat ≤ 1000000 then .ok (intsFrom lo (hi - lo).toNat, none) μ else .bad
def apR1D (x : D) (μ : Mu) : R It' := match x with
  | .t (.int j) => apR2 0 j μ
  | _ => .bad
def apR2D (x y : D) (μ : Mu) : R It' := match x, y with
  | .t (.int i), .t (.int j) => apR2 i j μ
  | _, _ => .bad
def dRange1 (a : DE) : DI := fun δ μ => (a δ μ).bind fun x μ => apR1D x μ
def dRange2 (a b : DE) : DI := fun δ μ => (a δ μ).bind fun x μ1 => (b δ μ1).bind fun y μ2 => apR2D x y μ2
theorem intsFrom_length : ∀ (n : Nat) (lo : Int), (intsFrom lo n).length = n
  | 0, _ => rfl
  | n + 1, lo => by rw [intsFrom, List.length_cons, intsFrom_length n]
theorem intsFrom_get : ∀ (n : Nat) (lo : Int) (i : Nat), i < n → (intsFrom lo n)[i]? = some (.int (lo + i))
  | 0, _, _, h => absurd h (Nat.not_lt_zero _)
  | n + 1, lo, 0, _ => by simp [intsFrom]
  | n + 1, lo, i + 1, h => by
    rw [intsFrom, List.getElem?_cons_succ, intsFrom_get n (lo + 1) i (by omega)]
    have : lo + 1 + (i : Int) = lo + ((i + 1 : Nat) : Int) := by omega
    rw [this]
theorem small_line {n : Nat} (h : n ≤ 1000000) : n ≤ sizeLine := by
  rw [sizeLine_eq]
  omega
section
variable {X : Cx} {W : WX} {tg e a b : Expr} {d da db : DE} {G : Gd} {w w' : Wd} {μ : Mu}
theorem itok_range {lo : Int} {n : Nat} (hn : n ≤ 1000000) : ItOk G (intsFrom lo n, none) w (Itr lo n) where
  few := by rw [intsFrom_length]; exact small_line hn
  go := fun i w' μ _ _ _ h => by
    have h : i < (intsFrom lo n).length := h
    rw [intsFrom_length] at h; exact h
  yld := fun i w' μ v H' _ L _ h y => by
    have h : i < (intsFrom lo n).length := h
    rw [intsFrom_length] at h
    obtain ⟨e1, e2⟩ := y
    exact ⟨w', e1.symm, Ext.refl _, L, _, intsFrom_get n lo i h, by rw [e2]; exact Rel.int _⟩
  stop := fun w' μ _ _ _ => by
    show n ≤ (intsFrom lo n).length
    rw [intsFrom_length]; exact Nat.le_refl _
theorem sqT_ext (L : Live G w μ) (E : Ext w w') {a : Addr} {vs : List V} (h : SqT G.K w.H a vs) : SqT G.K w'.H a vs := SqT.ext L E h
/-- a list that is not live -/
theorem itok_list {xs : List PyData} {a : Addr} {vs : List V} (L : Live G w μ) (hz : xs.length ≤ sizeLine) (l : RelL G w xs vs) (s : ∀ w', Ext w w' → SqL G.K w'.H a vs) : ItOk G (xs, none) w (Itl G.K a) where
  few := hz
  go := fun i w' μ' E _ _ h => by
    obtain ⟨v, hv, _⟩ := l.get (List.getElem?_eq_getElem h)
    exact ⟨vs, v, s w' E, hv⟩
  yld := fun i w' μ' v H' E L' _ h y => by
    obtain ⟨e1, e2⟩ := y
    obtain ⟨u, hu, r⟩ := l.get (List.getElem?_eq_getElem h)
    have q := e2 vs (s w' E)
    rw [hu] at q
    cases q
    exact ⟨w', e1.symm, Ext.refl _, L', _, List.getElem?_eq_getElem h, Rel.ext L E _ _ r⟩
  stop := fun w' μ' E _ _ => ⟨vs, s w' E, Nat.le_of_eq l.length.symm⟩
theorem itok_tup {xs : List PyData} {a : Addr} {vs : List V} (L : Live G w μ) (hz : xs.length ≤ sizeLine) (l : RelL G w xs vs) (s : SqT G.K w.H a vs) : ItOk G (xs, none) w (Itt G.K a) where
  few := hz
  go := fun i w' μ' E _ _ h => by
    obtain ⟨v, hv, _⟩ := l.get (List.getElem?_eq_getElem h)
    exact ⟨vs, v, SqT.ext L E s, hv⟩
  yld := fun i w' μ' v H' E L' _ h y => by
    obtain ⟨e1, e2⟩ := y
    obtain ⟨u, hu, r⟩ := l.get (List.getElem?_eq_getElem h)
    have q := e2 vs (SqT.ext L E s)
    rw [hu] at q
    cases q
    exact ⟨w', e1.symm, Ext.refl _, L', _, List.getElem?_eq_getElem h, Rel.ext L E _ _ r⟩
  stop := fun w' μ' E _ _ => ⟨vs, SqT.ext L E s, Nat.le_of_eq l.length.symm⟩
/-- a live list that stays as it is -/
theorem itok_live {xs : List PyData} {n : Nat} (L : Live G w μ) (e : μ[n]? = some (.l xs)) : ItOk G (xs, some n) w (Itl G.K (w.m n)) := by
  have hn : n < w.N := by have := (List.getElem?_eq_some_iff.mp e).1; rw [L.len] at this; exact this
  have now : ∀ w' μ', Ext w w' → Live G w' μ' → chk (xs, some n) μ' = true → ∃ vs, w'.H (w.m n) = some (.lst vs) ∧ xs.length ≤ sizeLine ∧ RelL G w' xs vs := fun w' μ' E L' c => by
    unfold chk at c
    simp only at c
    split at c
    · rename_i ys e'
      have q := beqL_eq c
      subst q
      obtain ⟨ho, z, hh⟩ := L'.at_ n _ e'
      cases ho with
      | lst vs => exact ⟨vs, by rw [← E.ms n hn]; exact z, hh.1, hh.2⟩
      | _ => exact hh.elim
    · cases c
  have sq : ∀ {w' : Wd} {vs : List V}, w'.H (w.m n) = some (.lst vs) → SqL G.K w'.H (w.m n) vs := fun h => .inl (.inl h)
  have few : xs.length ≤ sizeLine := by
    obtain ⟨ho, z, hh⟩ := L.at_ n _ e
    cases ho with
    | lst vs => exact hh.1
    | _ => exact hh.elim
  refine ⟨few, fun i w' μ' E L' c h => ?_, fun i w' μ' v H' E L' c h y => ?_, fun w' μ' E L' c => ?_⟩
  · obtain ⟨vs, h1, _, l⟩ := now w' μ' E L' c
    obtain ⟨v, hv, _⟩ := l.get (List.getElem?_eq_getElem h)
    exact ⟨vs, v, sq h1, hv⟩
  · obtain ⟨vs, h1, _, l⟩ := now w' μ' E L' c
    obtain ⟨e1, e2⟩ := y
    obtain ⟨u, hu, r⟩ := l.get (List.getElem?_eq_getElem h)
    have q := e2 vs (sq h1)
    rw [hu] at q
    cases q
    exact ⟨w', e1.symm, Ext.refl _, L', _, List.getElem?_eq_getElem h, r⟩
  · obtain ⟨vs, h1, _, l⟩ := now w' μ' E L' c
    exact ⟨vs, sq h1, Nat.le_of_eq l.length.symm⟩
theorem signsOf_length (x : Str) : (signsOf x).length = x.cps.size := by unfold signsOf; rw [List.length_map]; exact Array.length_toList
theorem signsOf_get {x : Str} {i : Nat} {c : Nat} (h : x.cps[i]? = some c) : (signsOf x)[i]? = some (.str ⟨#[c]⟩) := by
  unfold signsOf
  rw [List.getElem?_map, Array.getElem?_toList, h]
  rfl
theorem itok_str {x : Str} (hz : x.length ≤ sizeLine) : ItOk G (signsOf x, none) w (Its x) where
  few := by rw [signsOf_length]; exact hz
  go := fun i w' μ _ _ _ h => by
    have h : i < (signsOf x).length := h
    rw [signsOf_length] at h; exact h
  yld := fun i w' μ v H' _ L _ h y => by
    obtain ⟨e1, c, e2, e3⟩ := y
    exact ⟨w', e1.symm, Ext.refl _, L, _, signsOf_get e2, by rw [e3]; exact Rel.str (one_sign c)⟩
  stop := fun w' μ _ _ _ => by
    show x.cps.size ≤ (signsOf x).length
    rw [signsOf_length]; exact Nat.le_refl _
theorem li_seq (he : LE X W e d) : LI X W tg e (dSeqI d) := by
  have hl := pi_list (tg := tg) he
  have ht := pi_tup (tg := tg) he
  have hx := pi_str (tg := tg) he
  refine ⟨fun pins s σ H R I ⟨w, δ, μ, eH, L, S, h⟩ => ?_⟩
  -- which of both it is, is known ahead
  unfold dSeqI at h
  have listy : (∀ x μ', d δ μ = .ok x μ' → (¬ ∃ xs, x = .t (.tuple xs)) ∧ ¬ ∃ xs, x = .t (.str xs)) → wpAny (model X.prog X.w) X.A (eval e X.env) (fun v s1 => wpAny (model X.prog X.w) X.A (pyIter v) (PIE X pins σ tg R) X.xe s1) X.xe s := fun hn => by
    refine hl.run pins s σ H R I ⟨w, δ, μ, eH, L, S, ?_⟩
    cases q : d δ μ with
    | ok x μ' =>
      rw [q] at h
      have hn := hn x μ' q
      intro v w1 E1 L1 r1
      have h := Pst.ext E1 h
      cases x with
      | t y =>
        cases y with
        | list xs =>
          rw [RelD, Rel] at r1
          obtain ⟨a, vs, rfl, s1, f, z, l⟩ := r1
          exact ⟨a, rfl, ⟨vs, .inl (.inl s1)⟩, here_ok h L1 (itok_list L1 z l fun w' E => .inl (.inl (E.keep _ _ s1 f).1))⟩
        | tuple xs => exact absurd ⟨xs, rfl⟩ hn.1
        | str xs => exact absurd ⟨xs, rfl⟩ hn.2
        | _ => exact h.elim
      | fz xs =>
        rw [RelD] at r1
        obtain ⟨a, vs, rfl, s1, z, l⟩ := r1
        have sq : ∀ w', Ext w1 w' → SqL X.K w'.H a vs := fun w' E => by
          rcases s1 with ⟨o, s1⟩ | s1
          · exact .inl (.inr ⟨o, (E.keep _ _ s1 (L1.off_of s1 (by intro o; cases o <;> exact id))).1⟩)
          · exact s1 _
        exact ⟨a, rfl, ⟨vs, sq w1 (Ext.refl _)⟩, here_ok h L1 (itok_list L1 z l sq)⟩
      | lst n =>
        have h : Pst (gx X) W σ (relI (gx X)) R w1 (apI (.lst n) μ') := h
        simp only [apI] at h
        split at h
        · rename_i xs ex
          rw [RelD] at r1
          rw [r1.2]
          obtain ⟨ho, z, hh⟩ := L1.at_ n _ ex
          cases ho with
          | lst vs => exact ⟨_, rfl, ⟨vs, .inl (.inl z)⟩, here_ok h L1 (itok_live L1 ex)⟩
          | _ => exact hh.elim
        · exact h.elim
      | _ => exact h.elim
    | ex c p μ' => rw [q] at h; exact h
    | bad => rw [q] at h; exact h
  cases q : d δ μ with
  | ok x μ' =>
    cases x with
    | t y =>
      cases y with
      | tuple xs =>
        refine ht.run pins s σ H R I ⟨w, δ, μ, eH, L, S, ?_⟩
        rw [q] at h ⊢
        intro v w1 E1 L1 r1
        rw [RelD] at r1
        obtain ⟨a, vs, rfl, s1, z, l⟩ := Now.tup r1
        exact ⟨a, rfl, ⟨vs, s1⟩, here_ok (Pst.ext E1 h) L1 (itok_tup L1 z l s1)⟩
      | none => exact listy fun x μ2 e2 => by rw [q] at e2; cases e2; exact ⟨(by rintro ⟨xs, z⟩; cases z), (by rintro ⟨xs, z⟩; cases z)⟩
      | bool _ => exact listy fun x μ2 e2 => by rw [q] at e2; cases e2; exact ⟨(by rintro ⟨xs, z⟩; cases z), (by rintro ⟨xs, z⟩; cases z)⟩
      | int _ => exact listy fun x μ2 e2 => by rw [q] at e2; cases e2; exact ⟨(by rintro ⟨xs, z⟩; cases z), (by rintro ⟨xs, z⟩; cases z)⟩
      | str xs =>
        refine hx.run pins s σ H R I ⟨w, δ, μ, eH, L, S, ?_⟩
        rw [q] at h ⊢
        intro v w1 E1 L1 r1
        rw [RelD] at r1
        obtain ⟨rfl, z⟩ := Now.str (G := gx X) (w := w1) r1
        exact ⟨xs, rfl, here_ok (Pst.ext E1 h) L1 (itok_str z)⟩
      | list _ => exact listy fun x μ2 e2 => by rw [q] at e2; cases e2; exact ⟨(by rintro ⟨xs, z⟩; cases z), (by rintro ⟨xs, z⟩; cases z)⟩
      | dict _ => exact listy fun x μ2 e2 => by rw [q] at e2; cases e2; exact ⟨(by rintro ⟨xs, z⟩; cases z), (by rintro ⟨xs, z⟩; cases z)⟩
    | fz _ => exact listy fun x μ2 e2 => by rw [q] at e2; cases e2; exact ⟨(by rintro ⟨xs, z⟩; cases z), (by rintro ⟨xs, z⟩; cases z)⟩
    | lst _ => exact listy fun x μ2 e2 => by rw [q] at e2; cases e2; exact ⟨(by rintro ⟨xs, z⟩; cases z), (by rintro ⟨xs, z⟩; cases z)⟩
    | tupR _ => exact listy fun x μ2 e2 => by rw [q] at e2; cases e2; exact ⟨(by rintro ⟨xs, z⟩; cases z), (by rintro ⟨xs, z⟩; cases z)⟩
    | ref _ => exact listy fun x μ2 e2 => by rw [q] at e2; cases e2; exact ⟨(by rintro ⟨xs, z⟩; cases z), (by rintro ⟨xs, z⟩; cases z)⟩
    | ty _ => exact listy fun x μ2 e2 => by rw [q] at e2; cases e2; exact ⟨(by rintro ⟨xs, z⟩; cases z), (by rintro ⟨xs, z⟩; cases z)⟩
    | glo _ => exact listy fun x μ2 e2 => by rw [q] at e2; cases e2; exact ⟨(by rintro ⟨xs, z⟩; cases z), (by rintro ⟨xs, z⟩; cases z)⟩
  | ex c p μ' => exact listy fun x μ2 e2 => by rw [q] at e2; cases e2
  | bad => exact listy fun x μ2 e2 => by rw [q] at e2; cases e2
theorem li_range1 {p pos : Pos} (hg : Gl X "range") (hm : X.mg "range" = none) (ha : LE X W a da) (hs : starEach [a] X.env = [(false, eval a X.env)] := by rfl) : LI X W tg (.Call (.Name "range" p) [a] [] pos) (dRange1 da) := by
  refine (pi_range1 hg hm (pa_cons ha pa_nil hs) hs).imp fun σ H R ⟨w, δ, μ, e, L, S, h⟩ => ?_
  refine ⟨w, δ, μ, e, L, S, Pst.bind h fun x v w1 μ1 E1 L1 r1 h1 => ?_⟩
  unfold apR1D at h1
  split at h1
  · rename_i j
    rw [RelD] at r1
    rw [Rel] at r1
    subst r1
    unfold apR2 at h1
    split at h1
    · rename_i c
      rw [Int.sub_zero] at h1
      exact ⟨j, rfl, c.2.2.1, c.2.2.2.1, here_ok h1 L1 (itok_range (by have := c.2.2.2.2; rw [Int.sub_zero] at this; exact this))⟩
    · exact h1.elim
  · exact h1.elim
theorem li_range2 {p pos : Pos} (hg : Gl X "range") (hm : X.mg "range" = none) (ha : LE X W a da) (hb : LE X W b db) (hs : starEach [a, b] X.env = [(false, eval a X.env), (false, eval b X.env)] := by rfl) (hs2 : starEach [b] X.env = [(false, eval b X.env)] := by rfl) : LI X W tg (.Call (.Name "range" p) [a, b] [] pos) (dRange2 da db) := by
  refine (pi_range2 hg hm (pa_cons ha (pa_cons hb pa_nil hs2) (by rw [hs, hs2])) hs hs2).imp fun σ H R h => ?_
  refine two (P := fun x y H1 => ∃ i j : Int, [x, y] = [.int i, .int j] ∧ (-(2 ^ 62) ≤ i ∧ i < 2 ^ 62 ∧ -(2 ^ 62) ≤ j ∧ j < 2 ^ 62) ∧ R (Itr i (j - i).toNat) H1) h fun w μ x y v u L r1 r2 h1 => ?_
  unfold apR2D at h1
  split at h1
  · rename_i i j
    rw [RelD] at r1
    rw [Rel] at r1
    rw [RelD] at r2
    rw [Rel] at r2
    subst r1
    subst r2
    unfold apR2 at h1
    split at h1
    · rename_i c
      exact ⟨i, j, rfl, ⟨c.1, c.2.1, c.2.2.1, c.2.2.2.1⟩, here_ok h1 L (itok_range c.2.2.2.2)⟩
    · exact h1.elim
  · exact h1.elim
end

/-! ## for -/
def forL (ok : Mu → Bool) (g : DG) (s : DS) : List PyData → DS
  | [], δ, μ => if ok μ then .nx δ μ else .bad
  | x :: xs, δ, μ => if ok μ then (match g (.t x) δ μ with
    | .nx δ1 μ1 => (match s δ1 μ1 with
      | .nx δ2 μ2 => forL ok g s xs δ2 μ2
      | .ct δ2 μ2 => forL ok g s xs δ2 μ2
      | .bk δ2 μ2 => .nx δ2 μ2
      | r => r)
    | .ex c p δ1 μ1 => .ex c p δ1 μ1
    | _ => .bad) else .bad
def sFor (i : DI) (g : DG) (s : DS) : DS := fun δ μ => (i δ μ).toS δ fun p μ => forL (chk p) g s p.1 δ μ
section
variable {X : Cx} {W : WX} {tg iter : Expr} {body : List Stmt} {di : DI} {g : DG} {s : DS} {ws : List Nat} {pos : Pos}
theorem ls_for (hp : PassesOwn (model X.prog X.w) X.A X.env X.xe) (hc : X.calm = true) (hi : LI X W tg iter di) (hg : LG X W tg ws g) (hb : LSs X W body s)
    (hs : ∀ x, foldedSetIterable iter X.env x = pure x := by intro _; rfl) : LS X W (.For tg iter body [] pos) (sFor di g s) := by
  refine (ps_for hp hc hi hg hb hs).imp fun Dn σ H ⟨w, δ, μ, e, L, S, h⟩ => ?_
  refine ⟨w, δ, μ, e, L, S, PstS.bind L S h fun p J w1 μ1 E1 L1 I1 h1 => ?_⟩
  obtain ⟨xs, o⟩ := p
  have S1 := S.ext L E1
  refine ⟨fun i m σ H => ∃ w δ μ, w.H = H ∧ Ext w1 w ∧ Live (gx X) w μ ∧ Slots (gx X) w δ σ ∧ m = xs.length - i ∧ i ≤ xs.length ∧ PstS (gx X) W Dn w (forL (chk (xs, o)) g s (xs.drop i) δ μ),
    ⟨xs.length, w1, δ, μ1, rfl, Ext.refl _, L1, S1, rfl, Nat.zero_le _, h1⟩, ?_⟩
  rintro i m σ H ⟨w2, δ2, μ2, rfl, E2, L2, S2, rfl, hi, h2⟩
  by_cases hlt : i < xs.length
  · right
    rw [List.drop_eq_getElem_cons hlt] at h2
    rw [forL] at h2
    split at h2
    · rename_i ck
      refine ⟨I1.go i w2 μ2 E2 L2 ck hlt, fun σ H => ∃ w δ μ, w.H = H ∧ Ext w1 w ∧ Live (gx X) w μ ∧ Slots (gx X) w δ σ ∧ PstS (gx X) W Dn w (forL (chk (xs, o)) g s (xs.drop (i + 1)) δ μ), ?_, fun v H' y => ?_⟩
      · rintro σ' H' ⟨w3, δ3, μ3, rfl, E3, L3, S3, h3⟩
        exact ⟨xs.length - (i + 1), by omega, w3, δ3, μ3, rfl, E3, L3, S3, rfl, hlt, h3⟩
      · obtain ⟨w3, rfl, E3, L3, d, ed, r3⟩ := I1.yld i w2 μ2 v H' E2 L2 ck hlt y
        have ed' : d = xs[i] := Option.some.inj (ed.symm.trans (List.getElem?_eq_getElem hlt))
        subst ed'
        refine ⟨w3, δ2, μ2, .t xs[i], rfl, L3, S2.ext L2 E3, RelD.t r3, ?_⟩
        have h2 := PstS.ext E3 h2
        cases q : g (.t xs[i]) δ2 μ2 with
        | nx δ4 μ4 =>
          rw [q] at h2
          intro σ4 w4 _ _ E4 L4 S4
          refine ⟨w4, δ4, μ4, rfl, L4, S4, ?_⟩
          have h2 := PstS.ext E4 h2
          have EE : Ext w1 w4 := (E2.trans E3).trans E4
          dsimp only at h2
          cases q2 : s δ4 μ4 with
          | nx δ5 μ5 => rw [q2] at h2; exact fun σ5 w5 E5 L5 S5 => ⟨w5, δ5, μ5, rfl, EE.trans E5, L5, S5, PstS.ext E5 h2⟩
          | ct δ5 μ5 => rw [q2] at h2; exact fun σ5 w5 E5 L5 S5 => ⟨w5, δ5, μ5, rfl, EE.trans E5, L5, S5, PstS.ext E5 h2⟩
          | bk δ5 μ5 => rw [q2] at h2; exact h2
          | rt x μ5 => rw [q2] at h2; exact h2
          | ex c p δ5 μ5 => rw [q2] at h2; exact h2
          | bad => rw [q2] at h2; exact h2
        | ex c p δ4 μ4 => rw [q] at h2; exact h2
        | bk _ _ => rw [q] at h2; exact h2
        | ct _ _ => rw [q] at h2; exact h2
        | rt _ _ => rw [q] at h2; exact h2
        | bad => rw [q] at h2; exact h2
    · exact h2.elim
  · left
    have ei : i = xs.length := by omega
    subst ei
    rw [List.drop_length, forL] at h2
    split at h2
    · rename_i ck
      exact ⟨I1.stop w2 μ2 E2 L2 ck, h2 σ w2 (Ext.refl _) L2 S2⟩
    · exact h2.elim
end

/-! ## while: at most n turns -/
def whileN (c : DT) (s : DS) : Nat → DS
  | 0, _, _ => .bad
  | n + 1, δ, μ => (c δ μ).toS δ fun k μ => if k then (match s δ μ with
    | .nx δ2 μ2 => whileN c s n δ2 μ2
    | .ct δ2 μ2 => whileN c s n δ2 μ2
    | .bk δ2 μ2 => .nx δ2 μ2
    | r => r) else .nx δ μ
section
variable {X : Cx} {W : WX} {c : Expr} {body : List Stmt} {dc : DT} {s : DS} {pos : Pos}
theorem ls_while (n : Nat) (hp : PassesOwn (model X.prog X.w) X.A X.env X.xe) (hc : LT X W c dc) (hb : LSs X W body s) : LS X W (.While c body [] pos) (whileN dc s n) := by
  refine (ps_while hp hc hb).imp fun Dn σ H ⟨w, δ, μ, e, L, S, h⟩ => ?_
  refine ⟨fun m σ H => ∃ w δ μ, w.H = H ∧ Live (gx X) w μ ∧ Slots (gx X) w δ σ ∧ PstS (gx X) W Dn w (whileN dc s m δ μ), ⟨n, w, δ, μ, e, L, S, h⟩, ?_⟩
  rintro m σ H ⟨w1, δ1, μ1, rfl, L1, S1, h1⟩
  cases m with
  | zero => exact h1.elim
  | succ m =>
    rw [whileN] at h1
    refine ⟨w1, δ1, μ1, rfl, L1, S1, PstS.bind L1 S1 h1 fun k b w2 μ2 E2 L2 e2 h2 => ?_⟩
    subst e2
    have S2 := S1.ext L1 E2
    cases b with
    | true =>
      refine ⟨fun σ H => ∃ w δ μ, w.H = H ∧ Live (gx X) w μ ∧ Slots (gx X) w δ σ ∧ PstS (gx X) W Dn w (whileN dc s m δ μ), ?_, w2, δ1, μ2, rfl, L2, S2, ?_⟩
      · rintro σ' H' ⟨w3, δ3, μ3, rfl, L3, S3, h3⟩
        exact ⟨m, Nat.lt_succ_self m, w3, δ3, μ3, rfl, L3, S3, h3⟩
      · simp only [if_true] at h2
        cases q2 : s δ1 μ2 with
        | nx δ5 μ5 => rw [q2] at h2; exact fun σ5 w5 E5 L5 S5 => ⟨w5, δ5, μ5, rfl, L5, S5, PstS.ext E5 h2⟩
        | ct δ5 μ5 => rw [q2] at h2; exact fun σ5 w5 E5 L5 S5 => ⟨w5, δ5, μ5, rfl, L5, S5, PstS.ext E5 h2⟩
        | bk δ5 μ5 => rw [q2] at h2; exact h2
        | rt x μ5 => rw [q2] at h2; exact h2
        | ex c p δ5 μ5 => rw [q2] at h2; exact h2
        | bad => rw [q2] at h2; exact h2
    | false => exact h2 σ w2 (Ext.refl _) L2 S2
end
end TV

/-! TV, eighth part: list comprehensions. -/
namespace TV
open PySem PySem.Spec PyProof.Rows L2

/-- no error may leave it -/
def nox {α : Type} (r : R α) : R α := match r with
  | .ok a μ => .ok a μ
  | _ => .bad
def wipeD (δ : Sl) : List Nat → Sl
  | [] => δ
  | v :: vs => (wipeD δ vs).set v none
def pushAt (k : Nat) (y : D) (μ : Mu) : Option Mu := match y, μ[k]? with
  | .t q, some (.l acc) => if acc.length < sizeLine then some (μ.set k (.l (acc ++ [q]))) else none
  | _, _ => none
/-- the turns of a comprehension whose list is the live one at k -/
def lcL (p : It') (g : DG) (dt : DT) (de : DE) (δ0 : Sl) (k : Nat) : List PyData → Mu → R Unit
  | [], μ => if chk p μ then .ok () μ else .bad
  | x :: xs, μ => if chk p μ then (match g (.t x) δ0 μ with
    | .nx δ1 μ1 => (nox (dt δ1 μ1)).bind fun b μ2 => if b then (nox (de δ1 μ2)).bind fun y μ3 => (match pushAt k y μ3 with
        | some μ4 => lcL p g dt de δ0 k xs μ4
        | none => .bad) else lcL p g dt de δ0 k xs μ2
    | _ => .bad) else .bad
def lcEnd (live : Bool) (k : Nat) (μ : Mu) : R D := match μ[k]? with
  | some (.l acc) => if live then .ok (.lst k) (μ.take (k + 1)) else .ok (.t (.list acc)) (μ.take k)
  | _ => .bad
def dLc (live : Bool) (vs : List Nat) (di : DI) (g : DG) (dt : DT) (de : DE) : DE := fun δ μ => (di δ μ).bind fun p μ =>
  (lcL p g dt de (wipeD δ vs) μ.length p.1 (μ ++ [.l []])).bind fun _ μ' => lcEnd live μ.length μ'
def dYes : DT := fun _ μ => .ok true μ
abbrev W0 : WX := fun _ _ _ _ => False
abbrev LTs (X : Cx) (W : WX) (es : List Expr) (d : DT) : Prop := PTs X es (lift (gx X) W sameR d)
theorem _root_.L2.PTs.imp {X : Cx} {e : List Expr} {t t' : TT} (h : PTs X e t) (f : ∀ σ H Q, t' σ H Q → t σ H Q) : PTs X e t' := ⟨fun pins s σ H Q I q => h.run pins s σ H Q I (f _ _ _ q)⟩
section
variable {G : Gd} {w : Wd}
theorem wipeD_length (δ : Sl) : ∀ vs : List Nat, (wipeD δ vs).length = δ.length
  | [] => rfl
  | v :: vs => by rw [wipeD, List.length_set, wipeD_length δ vs]
theorem wipeD_some {δ : Sl} {i : Nat} {x : D} : ∀ {vs : List Nat}, (wipeD δ vs)[i]? = some (some x) → δ[i]? = some (some x) ∧ i ∉ vs
  | [], h => ⟨h, by simp⟩
  | v :: vs, h => by
    rw [wipeD] at h
    by_cases hi : v = i
    · subst hi
      by_cases hv : v < (wipeD δ vs).length
      · rw [List.getElem?_set_self hv] at h; cases h
      · rw [List.getElem?_eq_none (by rw [List.length_set]; omega)] at h; cases h
    · rw [List.getElem?_set_ne hi] at h
      obtain ⟨h1, h2⟩ := wipeD_some h
      exact ⟨h1, by simp only [List.mem_cons, not_or]; exact ⟨fun e => hi e.symm, h2⟩⟩
theorem wipe_keeps {σ : L2.St} {i : Nat} : ∀ {vs : List Nat}, i ∉ vs → (wipe σ vs)[i]? = σ[i]?
  | [], _ => rfl
  | v :: vs, h => by
    simp only [List.mem_cons, not_or] at h
    unfold wipe
    rw [List.getElem?_set_ne (fun e => h.1 e.symm), wipe_keeps h.2]
theorem wipe_at {σ : L2.St} {i : Nat} (hi : i < σ.length) : ∀ {vs : List Nat}, i ∈ vs → (wipe σ vs)[i]? = some none
  | [], h => by simp at h
  | v :: vs, h => by
    unfold wipe
    by_cases e : v = i
    · subst e
      rw [List.getElem?_set_self (by rw [wipe_length]; exact hi)]
    · rw [List.getElem?_set_ne e]
      refine wipe_at hi ?_
      rcases List.mem_cons.mp h with z | z
      · exact absurd z.symm e
      · exact z
theorem wipe_same {σ σ2 : L2.St} {vs : List Nat} (hl : σ2.length = (wipe σ vs).length) (hj : ∀ j, j ∉ vs → σ2[j]? = (wipe σ vs)[j]?) : wipe σ2 vs = wipe σ vs := by
  rw [wipe_length] at hl
  apply List.ext_getElem?
  intro i
  by_cases hi : i ∈ vs
  · by_cases hlt : i < σ.length
    · rw [wipe_at (by rw [hl]; exact hlt) hi, wipe_at hlt hi]
    · rw [List.getElem?_eq_none (by rw [wipe_length, hl]; omega), List.getElem?_eq_none (by rw [wipe_length]; omega)]
  · rw [wipe_keeps hi, hj i hi]
theorem Slots.wipe {δ : Sl} {σ : L2.St} (S : Slots G w δ σ) (vs : List Nat) : Slots G w (wipeD δ vs) (L2.wipe σ vs) := by
  refine ⟨by rw [wipeD_length, wipe_length]; exact S.1, fun i d e => ?_⟩
  obtain ⟨h1, h2⟩ := wipeD_some e
  obtain ⟨v, h3, h4⟩ := S.2 i d h1
  exact ⟨v, by rw [wipe_keeps h2]; exact h3, h4⟩
end
section
variable {X : Cx} {W : WX} {elt tg iter : Expr} {ifs : List Expr} {scope : Scope} {own : List (Str × Nat)} {pos : Pos} {di : DI} {g : DG} {ws : List Nat} {dt : DT} {de : DE}
theorem lts_nil : LTs X W [] dYes := pts_nil.imp fun σ H Q ⟨w, δ, μ, e, L, S, h⟩ => by
  subst e
  exact here_ok h L rfl
theorem lts_one {c : Expr} {d : DT} (h : LT X W c d) : LTs X W [c] d := pts_one h
/-- what the turns are -/
theorem lc_read {G : Gd} {live : Bool} {σ : L2.St} {H : Hp} {Q : VK} {vs : List Nat} (hws : ∀ j ∈ ws, j ∈ vs)
    (h : lift G W (RelD G) (dLc live vs di g dt de) σ H Q) : tLc (lift G W (relI G) di) (liftG G W0 ws g) (lift G W0 sameR dt) (lift G W0 (RelD G) de) vs σ H Q := by
  obtain ⟨w, δ, μ, e, L, S, h⟩ := h
  refine ⟨w, δ, μ, e, L, S, Pst.bind h fun p J w1 μ1 E1 L1 I1 h1 => ?_⟩
  obtain ⟨xs, o⟩ := p
  intro D hD
  have S1 := S.ext L E1
  have EA := Ext.add (a := D) (o := .lst []) L1 hD
  have LA' : Live G (w1.add D (.lst [])) (μ1 ++ [.l []]) := Live.add L1 hD ⟨Nat.zero_le _, RelL.nil⟩
  have hk : μ1.length = w1.N := L1.len
  refine ⟨fun i m H => ∃ w μ, w.H = H ∧ Ext (w1.add D (.lst [])) w ∧ Live G w μ ∧ m = xs.length - i ∧ i ≤ xs.length ∧
      Pst G W σ (RelD G) Q w1 ((lcL (xs, o) g dt de (wipeD δ vs) μ1.length (xs.drop i) μ).bind fun _ μ' => lcEnd live μ1.length μ'),
    ⟨xs.length, _, _, rfl, Ext.refl _, LA', rfl, Nat.zero_le _, h1⟩, ?_⟩
  rintro i m H ⟨w2, μ2, rfl, E2, L2, rfl, hi, h2⟩
  have E12 : Ext w1 w2 := EA.trans E2
  have mk : ∀ w', Ext (w1.add D (.lst [])) w' → w'.m μ1.length = D := fun w' E => by
    rw [hk, E.ms w1.N (Nat.lt_succ_self _), Wd.add_at]
  by_cases hlt : i < xs.length
  · right
    rw [List.drop_eq_getElem_cons hlt, lcL] at h2
    split at h2
    · rename_i ck
      refine ⟨I1.go i w2 μ2 E12 L2 ck hlt, fun H => ∃ w μ, w.H = H ∧ Ext (w1.add D (.lst [])) w ∧ Live G w μ ∧
        Pst G W σ (RelD G) Q w1 ((lcL (xs, o) g dt de (wipeD δ vs) μ1.length (xs.drop (i + 1)) μ).bind fun _ μ' => lcEnd live μ1.length μ'), ?_, fun v H' y => ?_⟩
      · rintro H' ⟨w3, μ3, rfl, E3, L3, h3⟩
        exact ⟨xs.length - (i + 1), by omega, w3, μ3, rfl, E3, L3, rfl, hlt, h3⟩
      · obtain ⟨w3, rfl, E3, L3, d, ed, r3⟩ := I1.yld i w2 μ2 v H' E12 L2 ck hlt y
        have ed' : d = xs[i] := Option.some.inj (ed.symm.trans (List.getElem?_eq_getElem hlt))
        subst ed'
        have S3 := ((S1.ext L1 E12).ext L2 E3).wipe vs
        refine ⟨w3, wipeD δ vs, μ2, .t xs[i], rfl, L3, S3, RelD.t r3, ?_⟩
        cases q : g (.t xs[i]) (wipeD δ vs) μ2 with
        | nx δ4 μ4 =>
          rw [q] at h2
          dsimp only at h2
          intro σ4 w4 hl4 hj4 E4 L4 S4
          have E24 : Ext (w1.add D (.lst [])) w4 := (E2.trans E3).trans E4
          refine ⟨wipe_same hl4 fun j hj => hj4 j fun z => hj (hws j z), w4, δ4, μ4, rfl, L4, S4, ?_⟩
          cases q4 : dt δ4 μ4 with
          | ok b μ5 =>
            rw [q4] at h2
            intro b' w5 E5 L5 eb
            subst eb
            have E25 := E24.trans E5
            cases b' with
            | true =>
              have h2 : Pst G W σ (RelD G) Q w1 (((nox (de δ4 μ5)).bind fun y μ3 => (match pushAt μ1.length y μ3 with
                | some μ4 => lcL (xs, o) g dt de (wipeD δ vs) μ1.length (xs.drop (i + 1)) μ4
                | none => .bad)).bind fun _ μ' => lcEnd live μ1.length μ') := h2
              refine iteT ⟨w5, δ4, μ5, rfl, L5, S4.ext L4 E5, ?_⟩
              cases q5 : de δ4 μ5 with
              | ok y μ6 =>
                rw [q5] at h2
                intro u w6 E6 L6 r6
                have h2 : Pst G W σ (RelD G) Q w1 ((match pushAt μ1.length y μ6 with
                  | some μ4 => lcL (xs, o) g dt de (wipeD δ vs) μ1.length (xs.drop (i + 1)) μ4
                  | none => .bad).bind fun _ μ' => lcEnd live μ1.length μ') := h2
                have E26 := E25.trans E6
                cases y with
                | t z =>
                  cases e6 : μ6[μ1.length]? with
                  | some ob =>
                    cases ob with
                    | l acc6 =>
                      by_cases hz : acc6.length < sizeLine
                      case neg =>
                        have ep : pushAt μ1.length (.t z) μ6 = none := by unfold pushAt; rw [e6]; exact if_neg hz
                        rw [ep] at h2
                        exact h2.elim
                      have ep : pushAt μ1.length (.t z) μ6 = some (μ6.set μ1.length (.l (acc6 ++ [z]))) := by unfold pushAt; rw [e6]; exact if_pos hz
                      rw [ep] at h2
                      dsimp only at h2
                      obtain ⟨ho, hz6, hh⟩ := L6.at_ _ _ e6
                      have hk6 : μ1.length < w6.N := by have := (List.getElem?_eq_some_iff.mp e6).1; rw [L6.len] at this; exact this
                      cases ho with
                      | lst us =>
                        rw [RelD] at r6
                        refine ⟨us, by rw [← mk w6 E26]; exact hz6, by rw [← hh.2.length]; exact hz, ?_⟩
                        have LS' := Live.set (q := .l (acc6 ++ [z])) (o := .lst (us ++ [u])) L6 hk6 ⟨by rw [List.length_append]; exact hz, hh.2.append (RelL.one r6)⟩
                        have ES' := Ext.set (o := .lst (us ++ [u])) L6 hk6
                        exact ⟨⟨upd w6.H (w6.m μ1.length) (.lst (us ++ [u])), w6.m, w6.N⟩, _, by show upd w6.H (w6.m μ1.length) _ = _; rw [mk w6 E26], E26.trans ES', LS', h2⟩
                      | _ => exact hh.elim
                    | ins _ _ =>
                      have ep : pushAt μ1.length (.t z) μ6 = none := by unfold pushAt; rw [e6]
                      rw [ep] at h2
                      exact h2.elim
                  | none =>
                    have ep : pushAt μ1.length (.t z) μ6 = none := by unfold pushAt; rw [e6]
                    rw [ep] at h2
                    exact h2.elim
                | _ => exact h2.elim
              | ex c p μ6 => rw [q5] at h2; exact h2.elim
              | bad => rw [q5] at h2; exact h2.elim
            | false =>
              have h2 : Pst G W σ (RelD G) Q w1 ((lcL (xs, o) g dt de (wipeD δ vs) μ1.length (xs.drop (i + 1)) μ5).bind fun _ μ' => lcEnd live μ1.length μ') := h2
              exact iteF ⟨w5, μ5, rfl, E25, L5, h2⟩
          | ex c p μ5 => rw [q4] at h2; exact h2.elim
          | bad => rw [q4] at h2; exact h2.elim
        | ex c p δ4 μ4 => rw [q] at h2; exact h2.elim
        | bk _ _ => rw [q] at h2; exact h2
        | ct _ _ => rw [q] at h2; exact h2
        | rt _ _ => rw [q] at h2; exact h2
        | bad => rw [q] at h2; exact h2
    · exact h2.elim
  · left
    have ei : i = xs.length := by omega
    subst ei
    rw [List.drop_length, lcL] at h2
    split at h2
    · rename_i ck
      refine ⟨I1.stop w2 μ2 E12 L2 ck, ?_⟩
      have h2 : Pst G W σ (RelD G) Q w1 (lcEnd live μ1.length μ2) := h2
      unfold lcEnd at h2
      split at h2
      · rename_i acc e6
        obtain ⟨ho, hz6, hh⟩ := L2.at_ _ _ e6
        have hk6 : μ1.length < w2.N := by have := (List.getElem?_eq_some_iff.mp e6).1; rw [L2.len] at this; exact this
        cases ho with
        | lst us =>
          split at h2
          · have LC := L2.cut (n := μ1.length + 1) hk6
            have EC := E12.cut (n := μ1.length + 1) (by rw [hk]; exact Nat.le_succ _) hk6
            exact h2 (.ref D) (w2.cut (μ1.length + 1)) EC LC (by rw [RelD]; exact ⟨Nat.lt_succ_self _, by show _ = V.ref (w2.m μ1.length); rw [mk w2 E2]⟩)
          · have LC := L2.cut (n := μ1.length) (Nat.le_of_lt hk6)
            have EC := E12.cut (n := μ1.length) (Nat.le_of_eq hk.symm) (Nat.le_of_lt hk6)
            refine h2 (.ref D) (w2.cut μ1.length) EC LC (RelD.t ?_)
            rw [Rel]
            refine ⟨D, us, rfl, by rw [← mk w2 E2]; exact hz6, fun n hn q => ?_, hh.1, RelL.cut (Nat.le_of_lt hk6) _ _ hh.2⟩
            have hn : n < μ1.length := hn
            have q : w2.m n = w2.m μ1.length := by rw [mk w2 E2]; exact q
            have := L2.inj n μ1.length (Nat.lt_trans hn hk6) hk6 q
            omega
        | _ => exact hh.elim
      · exact h2.elim
    · exact h2.elim
theorem le_lc (live : Bool) (hc : X.calm = true) (hN : X.N.Nodup) (hi : LI X W tg iter di) (ok : BlkOk X.N X.env.scope scope own)
    (hg : ∀ (s : Shared) (H : Hp) (C : Addr) (cl : List (Str × Addr)) (fp : List Addr), LG (X.blk s H scope (compEnvC scope cl C X.env) fp) W0 tg ws g)
    (ht : ∀ (s : Shared) (H : Hp) (C : Addr) (cl : List (Str × Addr)) (fp : List Addr), LTs (X.blk s H scope (compEnvC scope cl C X.env) fp) W0 ifs dt)
    (he : ∀ (s : Shared) (H : Hp) (C : Addr) (cl : List (Str × Addr)) (fp : List Addr), LE (X.blk s H scope (compEnvC scope cl C X.env) fp) W0 elt de)
    (hws : ∀ j ∈ ws, j ∈ own.map (·.2)) (hs : ∀ x, foldedSetIterable iter X.env x = pure x := by intro _; rfl) : LE X W (.ListComp elt [⟨tg, iter, ifs, 0⟩] scope pos) (dLc live (own.map (·.2)) di g dt de) :=
  (pe_lc hc hN hi ok hg ht he hs).imp fun σ H Q h => lc_read hws h
/-- name = [..] on one line, the name a local -/
theorem ls_setLc (live : Bool) {i : Nat} {y : Str} {py spos : Pos} (hc : X.calm = true) (hN : X.N.Nodup) (hy : X.N[i]? = some y) (hyl : X.env.scope.names.lookup y = some .local)
    (hsw : swapsWith (.ListComp elt [⟨tg, iter, ifs, 0⟩] scope pos) (some (.Name y py)) spos.line X.env = pure true) (hi : LI X W tg iter di) (ok : BlkOk X.N X.env.scope scope own)
    (hg : ∀ (s : Shared) (H : Hp) (C : Addr) (cl : List (Str × Addr)) (fp : List Addr), LG (X.blk s H scope (compEnvC scope cl C X.env) fp) W0 tg ws g)
    (ht : ∀ (s : Shared) (H : Hp) (C : Addr) (cl : List (Str × Addr)) (fp : List Addr), LTs (X.blk s H scope (compEnvC scope cl C X.env) fp) W0 ifs dt)
    (he : ∀ (s : Shared) (H : Hp) (C : Addr) (cl : List (Str × Addr)) (fp : List Addr), LE (X.blk s H scope (compEnvC scope cl C X.env) fp) W0 elt de)
    (hws : ∀ j ∈ ws, j ∈ own.map (·.2)) (hs : ∀ x, foldedSetIterable iter X.env x = pure x := by intro _; rfl) :
    LS X W (.Assign [.Name y py] (.ListComp elt [⟨tg, iter, ifs, 0⟩] scope pos) spos) (sSet i (dLc live (own.map (·.2)) di g dt de)) := by
  refine (ps_setLc (g := liftG (gx X) W0 ws g) (tt := lift (gx X) W0 sameR dt) (te := lift (gx X) W0 (RelD (gx X)) de) hc hN hy hyl hsw hi ok hg ht he hs).imp fun Dn σ H ⟨w, δ, μ, e, L, S, h⟩ => ?_
  refine lc_read (W := W) (G := gx X) (live := live) (Q := fun x H1 => Dn.nx (σ.set i (some x)) H1) hws ⟨w, δ, μ, e, L, S, PstS.bind L S h fun x v w' μ' E L' r h' => ?_⟩
  exact h' _ w' (Ext.refl w') L' ((S.ext L E).set r i)
end
end TV

/-! TV, ninth part: a def keeps its promise; calls; raise; the law's own call. -/
namespace TV
open PySem PySem.Spec PyProof.Rows L2

/-- the def at f does what F says, by at most level k; nothing is being shown around it -/
structure FnG (P : Program) (w : World) (K : PySem.W.Frag) (mg : Str → Option Value) (base : Heap) (k : Nat) (f : Addr) (fd : FuncData) (ps : List Str) (F : DF) : Prop where
  ar : ∀ args μ, args.length ≠ ps.length → F args μ = .bad
  go : ∀ (A : Around) (outer : List Env) (s : Shared) (H : Hp) (args : Args) (us : List Value) (vs : List V) (Q : VK) (E : XK), Room k A → A.guards = some [] →
    Env0 P w K mg base A outer s H → BindsTo s fd args (ps.zip us) → Vals vs us → spL ⟨K, mg⟩ F vs H Q E →
    codeAny (model P w) A (.call (.ref f) args) (CR (L2.CX P w) outer P w H s Q E) s
theorem FnG.mono {P : Program} {w : World} {K : PySem.W.Frag} {mg : Str → Option Value} {base : Heap} {j k : Nat} {f : Addr} {fd : FuncData} {ps : List Str} {F : DF} (h : FnG P w K mg base j f fd ps F) (hjk : j ≤ k) : FnG P w K mg base k f fd ps F :=
  ⟨h.ar, fun A outer s H args us vs Q E hr => h.go A outer s H args us vs Q E (hr.mono hjk)⟩
theorem FnG.len {P : Program} {w : World} {K : PySem.W.Frag} {mg : Str → Option Value} {base : Heap} {k : Nat} {f : Addr} {fd : FuncData} {ps : List Str} {F : DF} (h : FnG P w K mg base k f fd ps F) {G : Gd} {vs : List V} {H : Hp} {Q : VK} {E : XK} (q : spL G F vs H Q E) : vs.length = ps.length := by
  obtain ⟨w, args, μ, _, _, r, p⟩ := q
  by_cases e : args.length = ps.length
  · rw [← r.length]; exact e
  · rw [h.ar args μ e] at p
    exact p.elim
/-- by its name -/
structure Fe (P : Program) (w : World) (K : PySem.W.Frag) (mg : Str → Option Value) (base : Heap) (k : Nat) (x : Str) (F : DF) : Prop where
  ex : ∃ f fd ps, mg x = some (.ref f) ∧ PySem.W.keepIn K (.ref f) = true ∧ Binds K fd ps [] ∧ FnG P w K mg base k f fd ps F
theorem Fe.mono {P : Program} {w : World} {K : PySem.W.Frag} {mg : Str → Option Value} {base : Heap} {j k : Nat} {x : Str} {F : DF} (h : Fe P w K mg base j x F) (hjk : j ≤ k) : Fe P w K mg base k x F := by
  obtain ⟨f, fd, ps, a, b, c, d⟩ := h.ex
  exact ⟨f, fd, ps, a, b, c, d.mono hjk⟩
abbrev FeX (X : Cx) (k : Nat) (x : Str) (F : DF) : Prop := Fe X.prog X.w X.K X.mg X.base k x F
def dCall (F : DF) (as : DA) : DE := fun δ μ => (as δ μ).bind F
section
variable {X : Cx} {W : WX} {k : Nat} {x : Str} {F : DF} {e : Expr} {es : List Expr} {as : DA} {p pos : Pos}
/-- the callee runs -/
theorem runG {pins : List (Addr × Obj)} {σ : L2.St} {H : Hp} {s : Shared} {Q : VK} {us : List Value} {vs : List V} {f : Addr} {fd : FuncData} {ps : List Str} (D : FnG X.prog X.w X.K X.mg X.base k f fd ps F) (room : Room k X.A) (gd : X.A.guards = some []) (bd : Binds X.K fd ps [])
    (tk : Takes X W) (I : Inv X pins σ H s) (rv : Vals vs us) (want : spL ⟨X.K, X.mg⟩ F vs H Q (WE W σ)) : wpAny (model X.prog X.w) X.A (call (.ref f) us) (EP X pins σ Q) X.xe s := by
  have many : us.length = ps.length := rv.length.symm.trans (D.len want)
  have bound : BindsTo s fd ⟨us, []⟩ (ps.zip us) := by
    have z := bd s us I.kIn (by simpa using many)
    simpa using z
  refine wpAny_call (codeAny_mono (D.go X.A X.stack s H ⟨us, []⟩ us vs Q (WE W σ) room gd I.env0 bound rv want) ?_)
  intro res s' got
  match res, got with
  | .error err, got => exact passAt tk σ pins H s err s' I got
  | .ok (.ret u), got => exact I.after got
  | .ok .next, got => exact got.elim
  | .ok .brk, got => exact got.elim
  | .ok .cont, got => exact got.elim
theorem call_lift {σ : L2.St} {H : Hp} {Q : VK} (h : lift (gx X) W (RelD (gx X)) (dCall F as) σ H Q) : lift (gx X) W (RelDL (gx X)) as σ H fun vs H1 => spL ⟨X.K, X.mg⟩ F vs H1 Q (WE W σ) := by
  obtain ⟨w, δ, μ, e, L, S, h⟩ := h
  refine ⟨w, δ, μ, e, L, S, Pst.bind h fun xs vs w1 μ1 E1 L1 r1 h1 => ⟨w1, xs, μ1, rfl, L1, r1, ?_⟩⟩
  cases q : F xs μ1 with
  | ok y μ2 => rw [q] at h1; exact h1
  | ex c p μ2 => rw [q] at h1; exact h1
  | bad => rw [q] at h1; exact h1
theorem le_call (D : FeX X k x F) (room : Room k X.A) (gd : X.A.guards = some []) (tk : Takes X W) (hg : Gl X x) (ha : LA X W (e :: es) as) (hdb : (x == ("__debug__" : Str)) = false := by decide)
    (he : starEach (e :: es) X.env = (false, eval e X.env) :: starEach es X.env := by rfl) (hpl : (backTo pos (starEach es X.env)).any (·.1) = false := by rfl) : LE X W (.Call (.Name x p) (e :: es) [] pos) (dCall F as) := by
  obtain ⟨f, fd, ps, hm, hk, bd, D⟩ := D.ex
  refine ⟨fun pins s σ H Q I h => wpAny_Call_Name_kw (ld_glob I hg hm ?_ hdb)⟩
  have first := ha.run pos pins s σ H _ I (call_lift h)
  exact PySem.W.callWith_K (h₀ := X.base) I.ok.mod.kin hk (thn first fun us s1 ⟨vs, H1, I1, rv, want⟩ => ⟨I1.kIn, runG D room gd bd tk I1 rv want⟩) he hpl
theorem le_call0 (D : FeX X k x F) (room : Room k X.A) (gd : X.A.guards = some []) (tk : Takes X W) (hg : Gl X x) (hdb : (x == ("__debug__" : Str)) = false := by decide) : LE X W (.Call (.Name x p) [] [] pos) (dCall F dNil) := by
  obtain ⟨f, fd, ps, hm, hk, bd, D⟩ := D.ex
  refine ⟨fun pins s σ H Q I h => wpAny_Call_Name_kw (ld_glob I hg hm ?_ hdb)⟩
  obtain ⟨w, δ, μ, e, L, S, h'⟩ := call_lift h
  exact PySem.W.callWith_K0 I.kIn hk (runG (us := []) D room gd bd tk I .nil (by rw [← e]; exact here_ok h' L RelDL.nil))
/-- f(*xs) -/
theorem le_callStar {q : Pos} {da : DE} (D : FeX X k x F) (room : Room k X.A) (gd : X.A.guards = some []) (tk : Takes X W) (hg : Gl X x) (ha : LE X W e da) (hdb : (x == ("__debug__" : Str)) = false := by decide)
    (hst : starEach [.Starred e q] X.env = [(true, eval e X.env)] := by rfl) : LE X W (.Call (.Name x p) [.Starred e q] [] pos) (dCall F (dStar da dNil)) := by
  obtain ⟨f, fd, ps, hm, hk, bd, D⟩ := D.ex
  refine ⟨fun pins s σ H Q I h => wpAny_Call_Name_kw (ld_glob I hg hm ?_ hdb)⟩
  obtain ⟨w, δ, μ, eH, L, S, h⟩ := call_lift h
  have first := ha.run pins s σ H (fun v H1 => ∃ a vs, v = .ref a ∧ (SqT X.K H1 a vs ∨ SqL X.K H1 a vs) ∧ spL ⟨X.K, X.mg⟩ F vs H1 Q (WE W σ)) I ⟨w, δ, μ, eH, L, S, ?_⟩
  · exact PySem.W.callWith_S (h₀ := X.base) I.ok.mod.kin hk (thn first fun v s1 ⟨y, H1, I1, ry, a, vs, ey, hx, want⟩ => by
      subst ey
      cases ry
      exact StX.star_any I1 hx fun us s2 I2 rv => ⟨I2.kIn, runG D room gd bd tk I2 rv want⟩) hst
  · have h : Pst (gx X) W σ (RelDL (gx X)) (fun vs H1 => spL ⟨X.K, X.mg⟩ F vs H1 Q (WE W σ)) w ((da δ μ).bind fun x μ => (apStar x μ).bind fun ys μ => (dNil δ μ).bind fun xs μ => .ok (ys ++ xs) μ) := h
    refine Pst.bind h fun z v w1 μ1 E1 L1 r1 h1 => ?_
    unfold apStar at h1
    split at h1
    · rename_i d ed
      have n := now_of L1 ed r1
      cases d with
      | list xs =>
        obtain ⟨b, vs, rfl, s1, _, l⟩ := n
        refine ⟨b, vs, rfl, .inr s1, ?_⟩
        exact here_ok h1 L1 (by rw [List.append_nil]; exact RelDL.map l)
      | tuple xs =>
        obtain ⟨b, vs, rfl, s1, _, l⟩ := n.tup
        refine ⟨b, vs, rfl, .inl s1, ?_⟩
        exact here_ok h1 L1 (by rw [List.append_nil]; exact RelDL.map l)
      | _ => exact h1.elim
    · exact h1.elim
end

/-! ## a def of the text -/
section
variable {P : Program} {w : World} {K : PySem.W.Frag} {mg : Str → Option Value} {base : Heap} {k : Nat} {f : Addr} {name qual : Str} {params : Arguments} {body : List Stmt} {scope : Scope} {N ps : List Str}
theorem slots_start {G : Gd} {w : Wd} : ∀ {args : List D} {vs : List V} (m : Nat), RelDL G w args vs → Slots G w (args.map some ++ List.replicate m none) (vs.map some ++ List.replicate m none) := by
  intro args vs m r
  refine ⟨by rw [List.length_append, List.length_append, List.length_map, List.length_map, r.length, List.length_replicate, List.length_replicate], fun i d e => ?_⟩
  by_cases hi : i < args.length
  · rw [List.getElem?_append_left (by rw [List.length_map]; exact hi), List.getElem?_map] at e
    cases q : args[i]? with
    | none => rw [q] at e; cases e
    | some x =>
      rw [q] at e
      cases e
      obtain ⟨v, h1, h2⟩ := r.get q
      exact ⟨v, by rw [List.getElem?_append_left (by rw [List.length_map, ← r.length]; exact hi), List.getElem?_map, h1]; rfl, h2⟩
  · rw [List.getElem?_append_right (by rw [List.length_map]; omega), List.getElem?_replicate] at e
    split at e <;> cases e
theorem fnG_of {dV kV doc pm cdv ct oc : Value} {an od : Option Addr} {osl : Array (Option Value)} {live : Bool} {m : Nat} {b : DS}
    (lk : K.lookup f = some ⟨oc, od, .func (PySem.W.fnOf name qual params body scope dV kV doc pm an cdv ct), osl⟩) (hcd : PySem.W.codeIn K cdv qual = true) (sc : FnScope N ps scope) (hm : N.length = ps.length + m)
    (hb : ∀ (A : Around) (outer : List Env) (s : Shared) (H : Hp) (E : XK), Room k (A.deeper (envOfC qual scope s.heap.objs.size f cdv)) → A.guards = some [] →
      LSs (cxOf (L2.CX P w) P w K mg base N qual scope f cdv A outer s H E) (fun c d _ H => E c d H) body b) :
    FnG P w K mg base (k + 1) f (PySem.W.fnOf name qual params body scope dV kV doc pm an cdv ct) ps (mkF ps.length m live b) := by
  have ar : ∀ args μ, args.length ≠ ps.length → mkF ps.length m live b args μ = .bad := fun args μ h => if_neg h
  refine ⟨ar, fun A outer s H args us vs Q E room gd e0 bd rv want => ?_⟩
  obtain ⟨wd, xs, μ, eH, L, rx, post⟩ := want
  have nx : xs.length = ps.length := Decidable.byContradiction fun z => by rw [ar xs μ z] at post; exact post
  have nv : vs.length = ps.length := by rw [← rx.length]; exact nx
  have kin : K.In s.heap := e0.mod.kin.keeps fun b o e => (e0.bs b o e).1
  have lim : s.heap.NoLimit := e0.mod.nolimit.keeps fun b o e => (e0.bs b o e).1
  have visible : ∀ y ∈ ps.zip us, scope.names.lookup y.1 = some .local ∨ (scope.names.lookup y.1 = some .cell ∧ ((cellsFrom (s.heap.objs.size + 1) scope.names []).lookup y.1).isSome = true) := by
    intro y hy
    rcases sc.par y.1 (List.of_mem_zip (a := y.1) (b := y.2) hy).1 with q | q
    · exact .inl q
    · exact .inr ⟨q, PySem.W.cellsFrom_some _ _ _ (.inl q)⟩
  refine codeAny_call_function room.depth (kin _ _ lk) rfl sc.co sc.gen rfl (PySem.W.codeRec_of kin hcd) (bd _ _ _ _ ?_)
  refine wpAny_newFunctionEnv_cells sc.kind visible ?_
  intro env he s1 made
  subst he
  refine ⟨lim.keeps made.toInCall.keep, codeAny_func ?_⟩
  have inv : Inv (cxOf (L2.CX P w) P w K mg base N qual scope f cdv A outer s H E) [] (L2.start N vs) H s1 := inv_start sc room.hd e0 nv rv made
  have st : L2.start N vs = vs.map some ++ List.replicate m none := by unfold L2.start; rw [hm, nv, Nat.add_sub_cancel_left]
  have body_ok := (hb A outer s H E (room.deeper _) gd).run [] s1 (L2.start N vs) H { nx := fun _ H' => Q .non H', rt := Q } inv ?_
  · refine wpAny_mono body_ok (fun fl s' done => ?_) fun _ _ z => z
    have back : ∀ {σ' : L2.St} {H' : Hp} {v : V} {u : Value}, Inv (cxOf (L2.CX P w) P w K mg base N qual scope f cdv A outer s H E) [] σ' H' s' → RelV v u → Q v H' → CE outer P w H s Q u s' := by
      intro σ' H' v u J r q
      exact ⟨v, H', J.os, J.bare, J.base, J.hok, r, q⟩
    match fl, done with
    | .ret u, ⟨v, σ', H', J, r, q⟩ => exact back J r q
    | .next, ⟨σ', H', J, q⟩ => exact back (v := V.non) (u := Value.none) J rfl q
    | .brk, ⟨_, _, _, q⟩ => exact q.elim
    | .cont, ⟨_, _, _, q⟩ => exact q.elim
  · refine ⟨wd, xs.map some ++ List.replicate m none, μ, eH, L, by rw [st]; exact slots_start m rx, ?_⟩
    have post : Pst ⟨K, mg⟩ (fun c d _ H => E c d H) [] (RelD ⟨K, mg⟩) Q wd (match b (xs.map some ++ List.replicate m none) μ with
      | .rt x μ' => gc live μ.length x μ'
      | .nx _ μ' => gc live μ.length (.t .none) μ'
      | .ex c p _ μ' => .ex c p (μ'.take μ.length)
      | _ => .bad) := by
      have z : mkF ps.length m live b xs μ = _ := if_pos nx
      rw [z] at post
      exact post
    cases q : b (xs.map some ++ List.replicate m none) μ with
    | rt x μ' =>
      rw [q] at post
      exact fun v w' E' L' r => gc_ok L L' E' r post
    | nx δ' μ' =>
      rw [q] at post
      exact fun σ' w' E' L' S' => gc_ok (x := .t .none) L L' E' (RelD.t Rel.nil_) post
    | ex c p δ' μ' =>
      rw [q] at post
      intro C d σ' w' g E' L' S' x'
      have hle := take_len L L' E'
      exact post C d (w'.cut μ.length) g (E'.cut (Nat.le_of_eq L.len.symm) hle) (L'.cut hle) (xrel_cut hle x')
    | bk _ _ => rw [q] at post; exact post.elim
    | ct _ _ => rw [q] at post; exact post.elim
    | bad => rw [q] at post; exact post.elim
/-- .. as the head's facts tell it -/
theorem fe_of {x : Str} {sl : List (Str × V)} {fd : FuncData} {live : Bool} {m : Nat} {b : DS} (F : FunD K x x params body scope [] [] f fd) (g : mg x = some (.ref f)) (bd : Binds K fd ps []) (sc : FnScope N ps scope) (hm : N.length = ps.length + m)
    (hb : ∀ (cdv : Value) (A : Around) (outer : List Env) (s : Shared) (H : Hp) (E : XK), Room k (A.deeper (envOfC x scope s.heap.objs.size f cdv)) → A.guards = some [] →
      LSs (cxOf (L2.CX P w) P w K mg base N x scope f cdv A outer s H E) (fun c d _ H => E c d H) body b) : Fe P w K mg base (k + 1) x (mkF ps.length m live b) := by
  obtain ⟨oc, od, dV, kV, doc, pm, an, cdv, ct, osl, rfl, lk, hcd, _, _⟩ := F.ex
  exact ⟨f, _, ps, g, F.kp, bd, fnG_of lk hcd sc hm fun A outer s H E room gd => hb cdv A outer s H E room gd⟩
end
end TV

/-! TV, tenth part: the law's own call. -/
namespace TV
open PySem PySem.Spec PyProof.Rows L2
section
variable {P : Program} {w : World} {K : PySem.W.Frag} {mg mb : Str → Option Value} {k : Nat} {fa a : Addr} {s : Shared} {its : List Value} {ns : List Int} {x : Str} {F : DF}
theorem rel_ints {G : Gd} {wd : Wd} : ∀ ns : List Int, RelL G wd (ns.map PyData.int) (ns.map V.int)
  | [] => RelL.nil
  | n :: ns => RelL.cons (Rel.int n) (rel_ints ns)
/-- from an abstract heap in which nothing but the script stands -/
theorem law_from {H : Hp} (kin : K.In s.heap) (glob : s.heap.Ns mainGlobals mg) (blt : s.heap.Ns builtinsNs mb) (blt2 : ∀ y : Str, y ≠ "__name__" → mb y = bootBuiltins y) (lim : s.heap.NoLimit) (gens : s.gens = #[])
    (obj : s.heap.get? a = some { cls := .type "list", data := .seq its.toArray }) (few : ns.length ≤ sizeLine) (room : Room k callerA) (hm : mg x = some (.ref fa))
    (D : ∀ base : Heap, K.In base → base.Ns mainGlobals mg → Fe P w K mg base k x F) (yes : ∃ μ, F [.fz (ns.map .int)] [] = .ok (.t (.bool true)) μ)
    (only : ∀ b, H b ≠ none → b = a) (frz : H a ≠ none → (∃ o, H a = some (.frz o (.lst (ns.map V.int)))) ∧ K.lookup a = none) (script : (∃ o, H a = some (.frz o (.lst (ns.map V.int)))) ∨ ∀ H, SqL K H a (ns.map V.int)) (hok : HOk P w H s.heap) :
    codeAny (model P w) callerA (.call (.ref fa) ⟨[.ref a], []⟩) (fun r s' => r = .ok (.ret (.bool true)) ∧ OldK s.heap s'.heap ∧ s'.os = s.os ∧ AllBare s'.gens) s := by
  -- what is not the script lies under the base
  have below : ∀ {b : Addr} {o : Obj}, s.heap.get? b = some o → H b = none → (hidT s.heap H).get? b = some o := fun q n => hidT_get q n
  have notDict : ∀ {b : Addr} {o : Obj} {es : Array DictEntry} {ep : Nat}, s.heap.get? b = some o → o.data = .dict es ep → H b = none := by
    intro b o es ep q d
    refine Decidable.byContradiction fun z => ?_
    have e := only b z
    rw [e, obj] at q
    cases q
    cases d
  have nsBelow : ∀ {b : Addr} {m : Str → Option Value}, s.heap.Ns b m → (hidT s.heap H).Ns b m := by
    intro b m h
    obtain ⟨o, es, ep, q, d, r⟩ := h
    exact ⟨o, es, ep, below q (notDict q d), d, r⟩
  have kBelow : K.In (hidT s.heap H) := by
    intro b o q
    refine below (kin b o q) (Decidable.byContradiction fun z => ?_)
    have e := only b z
    rw [e] at z q
    rw [(frz z).2] at q
    cases q
  have lim' : (hidT s.heap H).NoLimit := by
    obtain ⟨mc, h1, h2⟩ := lim
    exact ⟨mc, nsBelow h1, h2⟩
  have e0 : Env0 P w K mg (hidT s.heap H) callerA [] s H :=
    { frames := rfl, mod := ⟨kBelow, nsBelow glob, ⟨mb, nsBelow blt, blt2⟩, lim'⟩, bs := fun b o q => of_hidT q, bsz := Nat.le_of_eq (hidT_size _ _), funs := trivial, frf := fun b hb => (by simp [frs] at hb), hok := hok, bare := .of_eq gens }
  obtain ⟨f, fd, ps, hm', keep, bd, G⟩ := (D _ kBelow (nsBelow glob)).ex
  obtain rfl : fa = f := by rw [hm] at hm'; cases hm'; rfl
  obtain ⟨μ, yes⟩ := yes
  have want : spL ⟨K, mg⟩ F [.ref a] H (fun v _ => v = .bl true) (fun _ _ _ => False) := by
    refine ⟨⟨H, fun _ => 0, 0⟩, [.fz (ns.map .int)], [], rfl, ⟨rfl, fun i j hi => absurd hi (Nat.not_lt_zero _), fun i o q => by simp at q⟩, RelDL.cons ?_ RelDL.nil, ?_⟩
    · rw [RelD]
      exact ⟨a, ns.map V.int, rfl, script, by rw [List.length_map]; exact few, rel_ints ns⟩
    · rw [yes]
      intro v w' _ _ r
      rw [RelD] at r
      rw [Rel] at r
      exact r
  have one : ps.length = 1 := (G.len want).symm
  have bound : BindsTo s fd ⟨[.ref a], []⟩ (ps.zip [.ref a]) := by
    have z := bd s [.ref a] kin (by rw [one]; rfl)
    simpa using z
  refine codeAny_mono (G.go callerA [] s H ⟨[.ref a], []⟩ [.ref a] [.ref a] _ _ room rfl e0 bound (.cons rfl .nil) want) ?_
  intro r s' got
  match r, got with
  | .error e, got => exact (takes_no got).elim
  | .ok .next, got => exact got.elim
  | .ok .brk, got => exact got.elim
  | .ok .cont, got => exact got.elim
  | .ok (.ret u), got =>
    obtain ⟨v, H', os, bare, un, hok', rv, q⟩ := got
    obtain rfl : v = .bl true := q
    obtain rfl : u = Value.bool true := rv
    refine ⟨rfl, OldK.of_keep fun b o hb => ?_, os, bare⟩
    by_cases z : H b = none
    · exact un.keep b o hb z (fun m => by cases m) (by simp)
    · have e := only b z
      rw [e] at z hb ⊢
      obtain ⟨⟨ob, zf⟩, _⟩ := frz z
      obtain ⟨e1, _⟩ := hok a _ zf
      obtain ⟨e2, _⟩ := hok' a _ (un.frzs a ob _ zf)
      rw [hb] at e1
      cases e1
      exact e2
where
  takes_no {outer : List Env} {H : Hp} {s : Shared} {e : Value} {s' : Shared} (h : L2.CX P w outer H s (fun _ _ _ => False) e s') : False := by
    obtain ⟨_, _, _, _, _, _, _, _, _, _, _, _, z⟩ := h
    exact z
/-- the goal that the head leaves -/
theorem walk_fe {l : PySem.W.OpenLaw} {n : Nat} {q : Program} {loose : List Str} {XP : (Str → Option Value) → Heap → Prop} {YP : World → Heap → Prop} {d : DefRec}
    (hn : l.most = some n) (hn2 : n ≤ sizeLine) (hdf : d.params.defaults = []) (room : Room k callerA) (hx : d.name = x)
    (top : ∀ (w : World) (mg : Str → Option Value) (h : Heap), YP w h → h.Ns mainGlobals mg → ∃ K, K.In h ∧ ∀ base : Heap, K.In base → base.Ns mainGlobals mg → Fe l.prog w K mg base k x F)
    (yes : ∀ ns : List Int, ns.length ≤ n → ∃ μ, F [.fz (ns.map .int)] [] = .ok (.t (.bool true)) μ) :
    PySem.W.WalkO q loose XP YP l.row.toRowW d [] (fun f vs => PySem.call f vs) := by
  refine Att.attach_call hn hdf ?_
  intro w s₀ s₁ mg mb fa o pm cd doc a its ns G Y ho hd hcd hmg obj areInts few gens
  obtain ⟨K, kin, D⟩ := top w mg _ Y G.T.g
  have line : ns.length ≤ sizeLine := Nat.le_trans few hn2
  have rv := L2.vals_ints areInts
  rw [hx] at hmg
  cases known : K.lookup a with
  | some ob =>
    have e := kin a ob known
    rw [obj] at e
    cases e
    have lens := areInts.length
    refine law_from (H := fun _ => none) kin G.T.g G.T.b G.T.builtins G.T.nolimit gens obj line room hmg D (yes ns few) (fun b z => absurd rfl z) (fun z => absurd rfl z) (.inr fun H => .inr ⟨_, its.toArray, _, known, rfl, rfl, rfl, ?_, ?_⟩) (fun b u z => by cases z)
    · rw [List.size_toArray, lens]; exact line
    · simpa using rv
  | none =>
    have pick : ∀ b, (if b = a then some (HO.frz { cls := .type "list", data := .seq its.toArray } (.lst (ns.map V.int))) else none) ≠ none → b = a := fun b z => Decidable.byContradiction fun e => z (if_neg e)
    refine law_from (H := fun b => if b = a then some (.frz { cls := .type "list", data := .seq its.toArray } (.lst (ns.map V.int))) else none) kin G.T.g G.T.b G.T.builtins G.T.nolimit gens obj line room hmg D (yes ns few) pick
      (fun _ => ⟨⟨_, if_pos rfl⟩, known⟩) (.inl ⟨_, if_pos rfl⟩) ?_
    intro b u z
    by_cases e : b = a
    · subst e
      have z : some (HO.frz { cls := .type "list", data := .seq its.toArray } (.lst (ns.map V.int))) = some u := (if_pos rfl).symm.trans z
      cases z
      exact ⟨obj, by rw [List.length_map]; exact line, its, _, rv, obj⟩
    · have z : none = some u := (if_neg e).symm.trans z
      cases z
end
end TV

/-! TV, eleventh part: built-in functions and methods. -/
namespace TV
open PySem PySem.Spec PyProof.Rows L2

/-! ## functions -/
def CallOk (X : Cx) (f : Value) (g : DF) : Prop := ∃ r, CallR X f r ∧ ∀ (W : WX) (σ : L2.St) (w : Wd) (μ : Mu) (xs : List D) (vs : List V) (Q : VK), Live (gx X) w μ → RelDL (gx X) w xs vs → Pst (gx X) W σ (RelD (gx X)) Q w (g xs μ) → r vs w.H Q
section
variable {X : Cx} {W : WX} {x : Str} {e : Expr} {es : List Expr} {as : DA} {p pos : Pos} {id T : String} {g : DF}
theorem le_callB (h : CallOk X (.builtin id) g) (hg : Gl X x) (hm : X.mg x = none) (hv : bootBuiltins x = some (.builtin id)) (ha : LA X W (e :: es) as) (hn : x ≠ "__name__" := by decide) (hdb : (x == ("__debug__" : Str)) = false := by decide)
    (he : starEach (e :: es) X.env = (false, eval e X.env) :: starEach es X.env := by rfl) (hpl : (backTo pos (starEach es X.env)).any (·.1) = false := by rfl) : LE X W (.Call (.Name x p) (e :: es) [] pos) (dCall g as) := by
  obtain ⟨r, c, k⟩ := h
  refine (pe_callB c hg hm hv ha hn hdb he hpl).imp fun σ H Q ⟨w, δ, μ, eH, L, S, h⟩ => ?_
  exact ⟨w, δ, μ, eH, L, S, Pst.bind h fun xs vs w1 μ1 E1 L1 r1 h1 => k W σ w1 μ1 xs vs Q L1 r1 h1⟩
theorem le_callTy (h : CallOk X (.type T) g) (hg : Gl X x) (hm : X.mg x = none) (hv : bootBuiltins x = some (.type T)) (ha : LA X W (e :: es) as) (hn : x ≠ "__name__" := by decide) (hdb : (x == ("__debug__" : Str)) = false := by decide)
    (he : starEach (e :: es) X.env = (false, eval e X.env) :: starEach es X.env := by rfl) (hpl : (backTo pos (starEach es X.env)).any (·.1) = false := by rfl) : LE X W (.Call (.Name x p) (e :: es) [] pos) (dCall g as) := by
  obtain ⟨r, c, k⟩ := h
  refine (pe_callTy c hg hm hv ha hn hdb he hpl).imp fun σ H Q ⟨w, δ, μ, eH, L, S, h⟩ => ?_
  exact ⟨w, δ, μ, eH, L, S, Pst.bind h fun xs vs w1 μ1 E1 L1 r1 h1 => k W σ w1 μ1 xs vs Q L1 r1 h1⟩
/-- one argument, read -/
def g1 (f : PyData → Option PyData) : DF := fun xs μ => match xs with
  | [x] => ap1 f x μ
  | _ => .bad
theorem call1 {f : Value} {h : PyData → Option PyData} {r : List V → Hp → VK → Prop} (c : CallR X f r)
    (k : ∀ (w : Wd) (μ : Mu) (q d : PyData) (v : V) (Q : VK), Live (gx X) w μ → h q = some d → Now (gx X) w q v → (∀ v w', Ext w w' → Live (gx X) w' μ → Rel (gx X) w' d v → Q v w'.H) → r [v] w.H Q) : CallOk X f (g1 h) := by
  refine ⟨r, c, fun W σ w μ xs vs Q L rx hp => ?_⟩
  unfold g1 at hp
  split at hp
  · rw [RelDL] at rx
    obtain ⟨v, r', rfl, r1, r2⟩ := rx
    rw [RelDL] at r2
    subst r2
    obtain ⟨q, d, e, n, hQ⟩ := ap1_ok L r1 hp
    exact k w μ q d v Q L e n hQ
  · exact hp.elim
def fLen : PyData → Option PyData
  | .str x => some (.int (x.length : Nat))
  | .list xs => some (.int (xs.length : Nat))
  | .tuple xs => some (.int (xs.length : Nat))
  | _ => none
theorem k_len : CallOk X (.builtin "len") (g1 fLen) := call1 call_len fun w μ q d v Q L e n hQ => by
  unfold fLen at e
  split at e
  · cases e
    exact ⟨v, _, rfl, by rw [n.str.1]; exact ⟨n.str.2, rfl⟩, hQ _ w (Ext.refl w) L (Rel.int _)⟩
  · cases e
    obtain ⟨a, vs, rfl, s, _, l⟩ := n
    exact ⟨_, _, rfl, .inl ⟨vs, s, l.length⟩, hQ _ w (Ext.refl w) L (Rel.int _)⟩
  · cases e
    obtain ⟨a, vs, rfl, s, _, l⟩ := n.tup
    exact ⟨_, _, rfl, .inr ⟨vs, s, l.length⟩, hQ _ w (Ext.refl w) L (Rel.int _)⟩
  · cases e
def fAbs : PyData → Option PyData
  | .int i => some (.int (if i < 0 then -i else i))
  | _ => none
theorem k_abs : CallOk X (.builtin "abs") (g1 fAbs) := call1 call_abs fun w μ q d v Q L e n hQ => by
  unfold fAbs at e
  split at e
  · cases e
    exact ⟨_, by rw [n.int], hQ _ w (Ext.refl w) L (Rel.int _)⟩
  · cases e
def fInt : PyData → Option PyData
  | .int i => some (.int i)
  | .bool b => some (.int (if b then 1 else 0))
  | .str x => if x.length ≤ 640 then (PySem.intText? x).map .int else none
  | _ => none
theorem k_int : CallOk X (.type "int") (g1 fInt) := call1 (call_int1.or call_int_str) fun w μ q d v Q L e n hQ => by
  unfold fInt at e
  split at e
  · cases e
    exact .inl (.inl ⟨_, by rw [n.int], hQ _ w (Ext.refl w) L (Rel.int _)⟩)
  · cases e
    exact .inl (.inr ⟨_, by rw [n.bool], hQ _ w (Ext.refl w) L (Rel.int _)⟩)
  · split at e
    · rename_i z
      obtain ⟨i, e1, rfl⟩ := Option.map_eq_some_iff.mp e
      exact .inr ⟨_, i, by rw [n.str.1], e1, z, hQ _ w (Ext.refl w) L (Rel.int _)⟩
    · cases e
  · cases e
def fStr : PyData → Option PyData
  | .int i => if i.natAbs.log2 < 1920 then some (.str (toString i)) else none
  | .str x => some (.str x)
  | _ => none
theorem k_str : CallOk X (.type "str") (g1 fStr) := call1 (call_str_int.or SkE.call_str_str) fun w μ q d v Q L e n hQ => by
  unfold fStr at e
  split at e
  · split at e
    · rename_i z
      cases e
      exact .inl ⟨_, by rw [n.int], z, hQ _ w (Ext.refl w) L (Rel.str (int_text_fits z))⟩
    · cases e
  · cases e
    exact .inr ⟨_, by rw [n.str.1], hQ _ w (Ext.refl w) L (Rel.str n.str.2)⟩
  · cases e
/-- tuple(x) -/
def fTuple : PyData → Option PyData
  | .list xs => some (.tuple xs)
  | .tuple xs => some (.tuple xs)
  | _ => none
theorem k_tuple : CallOk X (.type "tuple") (g1 fTuple) := call1 call_tuple_of fun w μ q d v Q L e n hQ => by
  unfold fTuple at e
  split at e
  · cases e
    obtain ⟨a, vs, rfl, s, z, l⟩ := n
    exact ⟨a, vs, rfl, .inl ⟨s, fun p hp => hQ _ (w.put p (.tup vs)) (Ext.new L hp) (Live.new L hp) (Rel.newT L l z hp)⟩⟩
  · cases e
    obtain ⟨a, vs, rfl, s, z, l⟩ := n.tup
    exact ⟨a, vs, rfl, .inr ⟨s, hQ _ w (Ext.refl w) L n⟩⟩
  · cases e
/-- list(x): a new one -/
def gList (live : Bool) : DF := fun xs μ => match xs with
  | [x] => match (rd μ x).bind itemsOf with
    | some ys => newL live ys μ
    | none => .bad
  | _ => .bad
theorem k_list (live : Bool) : CallOk X (.type "list") (gList live) := by
  refine ⟨_, call_list_of, fun W σ w μ xs vs Q L rx hp => ?_⟩
  unfold gList at hp
  split at hp
  · rw [RelDL] at rx
    obtain ⟨v, r', rfl, r1, r2⟩ := rx
    rw [RelDL] at r2
    subst r2
    split at hp
    · rename_i ys e
      obtain ⟨d, e1, e2⟩ := Option.bind_eq_some_iff.mp e
      have n := now_of L e1 r1
      cases d with
      | list zs =>
        cases e2
        obtain ⟨a, vs, rfl, s, z, l⟩ := n
        exact ⟨a, vs, rfl, .inl s, fun p hp' => newL_ok hp L l z hp'⟩
      | tuple zs =>
        cases e2
        obtain ⟨a, vs, rfl, s, z, l⟩ := n.tup
        exact ⟨a, vs, rfl, .inr s, fun p hp' => newL_ok hp L l z hp'⟩
      | _ => cases e2
    · exact hp.elim
  · exact hp.elim
/-! ### repr -/
def repOk (d : PyData) : Bool := d.showable && d.leavesShort 2000 && decide (d.bulk ≤ 8000) && decide (d.depth ≤ 50)
def fRepr (d : PyData) : Option PyData := if repOk d then some (.str d.shown) else none
mutual
theorem noDict_rel {G : Gd} {w : Wd} : ∀ (d : PyData) (v : V), Rel G w d v → d.hasDict = false
  | .none, _, _ => by simp [PyData.hasDict]
  | .bool _, _, _ => by simp [PyData.hasDict]
  | .int _, _, _ => by simp [PyData.hasDict]
  | .str _, _, _ => by simp [PyData.hasDict]
  | .dict _, _, h => by simp [Rel] at h
  | .list xs, v, h => by
    rw [Rel] at h
    obtain ⟨a, vs, _, _, _, _, l⟩ := h
    rw [PyData.hasDict]
    exact noDict_relL xs vs l
  | .tuple xs, v, h => by
    rw [Rel] at h
    obtain ⟨a, vs, _, _, _, l⟩ := h
    rw [PyData.hasDict]
    exact noDict_relL xs vs l
theorem noDict_relL {G : Gd} {w : Wd} : ∀ (ds : List PyData) (vs : List V), RelL G w ds vs → PyData.hasDictAll ds = false
  | [], _, _ => by simp [PyData.hasDictAll]
  | d :: ds, vs, h => by
    rw [RelL] at h
    obtain ⟨v, r, _, h1, h2⟩ := h
    rw [PyData.hasDictAll, noDict_rel d v h1, noDict_relL ds r h2]
    rfl
end
theorem noDict_now {G : Gd} {w : Wd} {d : PyData} {v : V} (h : Now G w d v) : d.hasDict = false := by
  cases d with
  | list xs =>
    obtain ⟨a, vs, _, _, _, l⟩ := h
    rw [PyData.hasDict]
    exact noDict_relL xs vs l
  | none => exact noDict_rel (G := G) (w := w) _ v h
  | bool b => exact noDict_rel (G := G) (w := w) _ v h
  | int i => exact noDict_rel (G := G) (w := w) _ v h
  | str x => exact noDict_rel (G := G) (w := w) _ v h
  | tuple xs => exact noDict_rel (G := G) (w := w) _ v h
  | dict kvs => exact noDict_rel (G := G) (w := w) _ v h
theorem shown_len {d : PyData} (h : repOk d = true) : d.shown.length ≤ sizeLine := by
  unfold repOk at h
  simp only [Bool.and_eq_true, decide_eq_true_eq] at h
  have := PyData.shown_le_bulk 2000 (by decide) d h.1.1.2
  rw [sizeLine_eq]
  have h2 := h.1.2
  omega
theorem call_reprD (gd : X.A.guards = some []) (hu : X.A.units + 64 < cLine) : CallR X (.builtin "repr") (fun xs H Q => ∃ v d, xs = [v] ∧ Dp X.K H v d ∧ repOk d = true ∧ d.hasDict = false ∧ Q (.str d.shown) H) := by
  intro pins s σ H xs us Q I r h
  obtain ⟨v, d, rfl, dp, ok, nd, q⟩ := h
  obtain ⟨u, rfl, rv⟩ := vals1 r
  have len := shown_len ok
  have ok' := ok
  unfold repOk at ok'
  simp only [Bool.and_eq_true, decide_eq_true_eq] at ok'
  have fin : ∀ h' tk u' , (∀ b o, s.heap.get? b = some o → h'.get? b = some o) → EP X pins σ Q (.str d.shown u') { s with heap := h', toks := tk } := fun h' tk u' k => ⟨.str d.shown, H, I.kept k, ⟨_, rfl⟩, q⟩
  obtain ⟨as, rds⟩ := Dp.reads I d v u dp rv
  cases rds with
  | none => exact PySem.P.repr_of_none (fin s.heap _ _ fun _ _ z => z)
  | bool b => 
    refine PySem.P.repr_of_bool ?_
    have := fin s.heap (s.toks + 1) s.toks fun _ _ z => z
    rw [PyData.shown] at this
    cases b <;> exact this
  | int i t => exact PySem.P.repr_of_int (by simpa [PyData.showable] using ok'.1.1.1) (fin s.heap _ _ fun _ _ z => z)
  | str y t => exact PySem.P.repr_of_str (fin s.heap _ _ fun _ _ z => z) (by rw [PyData.shown] at len; exact len)
  | list h1 h2 h3 h4 => exact repr_of_reads' (.list h1 h2 h3 h4) ok'.1.1.1 (PyData.noDict_hsm nd) gd (by have := ok'.2; omega) (fun _ _ z => z) (fun h' u' tk k => fin h' tk u' k) len
  | tuple h1 h2 h3 h4 => exact repr_of_reads' (.tuple h1 h2 h3 h4) ok'.1.1.1 (PyData.noDict_hsm nd) gd (by have := ok'.2; omega) (fun _ _ z => z) (fun h' u' tk k => fin h' tk u' k) len
  | dict _ _ _ _ _ => simp [PyData.hasDict] at nd
theorem k_repr (gd : X.A.guards = some []) (hu : X.A.units + 64 < cLine) : CallOk X (.builtin "repr") (g1 fRepr) := call1 (call_reprD gd hu) fun w μ q d v Q L e n hQ => by
  unfold fRepr at e
  split at e
  · rename_i ok
    cases e
    exact ⟨v, q, rfl, n.dp, ok, noDict_now n, hQ _ w (Ext.refl w) L (Rel.str (shown_len ok))⟩
  · cases e
end
end TV

/-! TV, twelfth part: isinstance, any, all; methods; lists added; raise. -/
namespace TV
open PySem PySem.Spec PyProof.Rows L2

/-! ## isinstance -/
def dK (x : D) : DE := fun _ μ => .ok x μ
def tyName : PyData → String
  | .none => "NoneType"
  | .bool _ => "bool"
  | .int _ => "int"
  | .str _ => "str"
  | .list _ => "list"
  | .tuple _ => "tuple"
  | .dict _ => "dict"
def isInt : PyData → Bool
  | .int _ => true
  | .bool _ => true
  | _ => false
def isBl : PyData → Bool
  | .bool _ => true
  | _ => false
def isS : PyData → Bool
  | .str _ => true
  | _ => false
def isL : PyData → Bool
  | .list _ => true
  | _ => false
def isT : PyData → Bool
  | .tuple _ => true
  | _ => false
def isB (n : String) (d : PyData) : Option Bool := if n = "int" then some (isInt d) else if n = "tuple" then some (isT d) else if n = "str" then some (isS d) else if n = "list" then some (isL d) else if n = "bool" then some (isBl d) else none
def gIsi : DF := fun xs μ => match xs with
  | [x, .ty n] => match rd μ x with
    | some d => match isB n d with
      | some b => .ok (.t (.bool b)) μ
      | none => .bad
    | none => .bad
  | _ => .bad
theorem sqL_ty {K : PySem.W.Frag} {H : Hp} {a : Addr} {xs : List V} (h : SqL K H a xs) : TyX K H (.ref a) (.type "list") := by
  rcases h with (h | ⟨o, h⟩) | ⟨o, its, n, h, c, _⟩
  · exact .base (.lst h)
  · exact .base (.frz h)
  · exact .kList h c
theorem sqT_ty {K : PySem.W.Frag} {H : Hp} {a : Addr} {xs : List V} (h : SqT K H a xs) : TyX K H (.ref a) (.type "tuple") := by
  rcases h with (h | ⟨o, h⟩) | ⟨o, its, n, h, c, _⟩
  · exact .base (.tup h)
  · exact .fTuple h
  · exact .kTuple h c
theorem tyx_now {G : Gd} {w : Wd} {d : PyData} {v : V} (h : Now G w d v) : TyX G.K w.H v (.type (tyName d)) := by
  cases d with
  | none => rw [h.none]; exact .base .non
  | bool b => rw [h.bool]; exact .base (.bl b)
  | int i => rw [h.int]; exact .base (.int i)
  | str x => rw [h.str.1]; exact .base (.str x)
  | list xs =>
    obtain ⟨a, vs, rfl, s, _⟩ := h
    exact sqL_ty s
  | tuple xs =>
    obtain ⟨a, vs, rfl, s, _⟩ := h.tup
    exact sqT_ty s
  | dict xs => exact absurd (noDict_now h) (by simp [PyData.hasDict])
theorem isB_kit {n : String} {d : PyData} {b : Bool} (hd : d.hasDict = false) (h : isB n d = some b) : kitB (tyName d) n = some b := by
  unfold isB at h
  split at h
  · subst n; cases h
    cases d with
    | none => exact (show kitB "NoneType" "int" = some false by decide +kernel)
    | bool _ => exact (show kitB "bool" "int" = some true by decide +kernel)
    | int _ => exact (show kitB "int" "int" = some true by decide +kernel)
    | str _ => exact (show kitB "str" "int" = some false by decide +kernel)
    | list _ => exact (show kitB "list" "int" = some false by decide +kernel)
    | tuple _ => exact (show kitB "tuple" "int" = some false by decide +kernel)
    | dict _ => simp [PyData.hasDict] at hd
  split at h
  · subst n; cases h
    cases d with
    | none => exact (show kitB "NoneType" "tuple" = some false by decide +kernel)
    | bool _ => exact (show kitB "bool" "tuple" = some false by decide +kernel)
    | int _ => exact (show kitB "int" "tuple" = some false by decide +kernel)
    | str _ => exact (show kitB "str" "tuple" = some false by decide +kernel)
    | list _ => exact (show kitB "list" "tuple" = some false by decide +kernel)
    | tuple _ => exact (show kitB "tuple" "tuple" = some true by decide +kernel)
    | dict _ => simp [PyData.hasDict] at hd
  split at h
  · subst n; cases h
    cases d with
    | none => exact (show kitB "NoneType" "str" = some false by decide +kernel)
    | bool _ => exact (show kitB "bool" "str" = some false by decide +kernel)
    | int _ => exact (show kitB "int" "str" = some false by decide +kernel)
    | str _ => exact (show kitB "str" "str" = some true by decide +kernel)
    | list _ => exact (show kitB "list" "str" = some false by decide +kernel)
    | tuple _ => exact (show kitB "tuple" "str" = some false by decide +kernel)
    | dict _ => simp [PyData.hasDict] at hd
  split at h
  · subst n; cases h
    cases d with
    | none => exact (show kitB "NoneType" "list" = some false by decide +kernel)
    | bool _ => exact (show kitB "bool" "list" = some false by decide +kernel)
    | int _ => exact (show kitB "int" "list" = some false by decide +kernel)
    | str _ => exact (show kitB "str" "list" = some false by decide +kernel)
    | list _ => exact (show kitB "list" "list" = some true by decide +kernel)
    | tuple _ => exact (show kitB "tuple" "list" = some false by decide +kernel)
    | dict _ => simp [PyData.hasDict] at hd
  split at h
  · subst n; cases h
    cases d with
    | none => exact (show kitB "NoneType" "bool" = some false by decide +kernel)
    | bool _ => exact (show kitB "bool" "bool" = some true by decide +kernel)
    | int _ => exact (show kitB "int" "bool" = some false by decide +kernel)
    | str _ => exact (show kitB "str" "bool" = some false by decide +kernel)
    | list _ => exact (show kitB "list" "bool" = some false by decide +kernel)
    | tuple _ => exact (show kitB "tuple" "bool" = some false by decide +kernel)
    | dict _ => simp [PyData.hasDict] at hd
  cases h
section
variable {X : Cx} {W : WX} {x : Str} {e o : Expr} {es : List Expr} {d : DE} {as : DA} {p pos apos cpos : Pos} {id T : String} {name : Str}
theorem le_K {y : D} {v : V} (he : PE X e (tC v)) (r : ∀ w, RelD (gx X) w y v) : LE X W e (dK y) := he.imp fun σ H Q ⟨w, δ, μ, e, L, S, h⟩ => by
  subst e
  exact here_ok h L (r w)
theorem le_ty (hg : Gl X x) (hm : X.mg x = none) (hv : bootBuiltins x = some (.type T)) (hn : x ≠ "__name__" := by decide) (hd : (x == ("__debug__" : Str)) = false := by decide) : LE X W (.Name x pos) (dK (.ty T)) :=
  le_K (v := .ty T) (pe_bltn hg hm hv rfl hn hd) fun w => by rw [RelD]
theorem k_isi : CallOk X (.builtin "isinstance") gIsi := by
  refine ⟨_, call_isi, fun W σ w μ xs vs Q L rx hp => ?_⟩
  unfold gIsi at hp
  split at hp
  · rw [RelDL] at rx
    obtain ⟨v, r', rfl, r1, r2⟩ := rx
    rw [RelDL] at r2
    obtain ⟨v2, r', rfl, r2, r3⟩ := r2
    rw [RelDL] at r3
    subst r3
    rw [RelD] at r2
    subst r2
    split at hp
    · rename_i q e
      split at hp
      · rename_i b e2
        have n := now_of L e r1
        exact ⟨v, _, _, _, b, rfl, .ty _, tyx_now n, kit_ty (isB_kit (noDict_now n) e2), here_ok hp L (RelD.t (Rel.bool b))⟩
      · exact hp.elim
    · exact hp.elim
  · exact hp.elim

/-! ## any, all -/
def blsOf : List PyData → Option (List Bool)
  | [] => some []
  | .bool b :: r => (blsOf r).map (b :: ·)
  | _ => none
theorem blsOf_eq : ∀ {xs : List PyData} {bs : List Bool}, blsOf xs = some bs → xs = bs.map .bool
  | [], bs, h => by cases h; rfl
  | .bool b :: r, bs, h => by
    rw [blsOf] at h
    obtain ⟨cs, h1, rfl⟩ := Option.map_eq_some_iff.mp h
    rw [blsOf_eq h1]; rfl
  | .none :: _, _, h => by simp [blsOf] at h
  | .int _ :: _, _, h => by simp [blsOf] at h
  | .str _ :: _, _, h => by simp [blsOf] at h
  | .list _ :: _, _, h => by simp [blsOf] at h
  | .tuple _ :: _, _, h => by simp [blsOf] at h
  | .dict _ :: _, _, h => by simp [blsOf] at h
theorem rel_bls {G : Gd} {w : Wd} : ∀ {bs : List Bool} {vs : List V}, RelL G w (bs.map .bool) vs → vs = bs.map .bl
  | [], vs, h => by rw [List.map_nil, RelL] at h; exact h
  | b :: bs, vs, h => by
    rw [List.map_cons, RelL] at h
    obtain ⟨v, r, rfl, h1, h2⟩ := h
    rw [Rel] at h1
    rw [h1, rel_bls h2]; rfl
def fAny : PyData → Option PyData
  | .list xs => (blsOf xs).map fun bs => .bool (bs.any fun b => b)
  | _ => none
def fAll : PyData → Option PyData
  | .list xs => (blsOf xs).map fun bs => .bool (bs.all fun b => b)
  | _ => none
theorem k_any (hc : X.calm = true) : CallOk X (.builtin "any") (g1 fAny) := call1 (cr_any hc) fun w μ q d v Q L e n hQ => by
  unfold fAny at e
  split at e
  · obtain ⟨bs, e1, rfl⟩ := Option.map_eq_some_iff.mp e
    rw [blsOf_eq e1] at n
    obtain ⟨a, vs, rfl, s, _, l⟩ := n
    rw [rel_bls l] at s
    exact ⟨a, bs, rfl, s, hQ _ w (Ext.refl w) L (Rel.bool _)⟩
  · cases e
theorem k_all (hc : X.calm = true) : CallOk X (.builtin "all") (g1 fAll) := call1 (cr_all hc) fun w μ q d v Q L e n hQ => by
  unfold fAll at e
  split at e
  · obtain ⟨bs, e1, rfl⟩ := Option.map_eq_some_iff.mp e
    rw [blsOf_eq e1] at n
    obtain ⟨a, vs, rfl, s, _, l⟩ := n
    rw [rel_bls l] at s
    exact ⟨a, bs, rfl, s, hQ _ w (Ext.refl w) L (Rel.bool _)⟩
  · cases e

/-! ## methods -/
abbrev DM := D → List D → Mu → R D
def rdIs (c : PyData → Bool) (μ : Mu) (x : D) : Bool := match rd μ x with
  | some p => c p
  | none => false
def dMeth (c : PyData → Bool) (g : DM) (a : DE) (as : DA) : DE := fun δ μ => (a δ μ).bind fun x μ1 => if rdIs c μ1 x then (as δ μ1).bind fun xs μ2 => g x xs μ2 else .bad
def MthOk (X : Cx) (id : String) (g : DM) : Prop := ∃ r, MtR X id r ∧ ∀ (W : WX) (σ : L2.St) (w : Wd) (μ : Mu) (x : D) (xs : List D) (v : V) (vs : List V) (Q : VK),
  Live (gx X) w μ → RelD (gx X) w x v → RelDL (gx X) w xs vs → Pst (gx X) W σ (RelD (gx X)) Q w (g x xs μ) → r v vs w.H Q
def TyC (X : Cx) (T : String) (c : PyData → Bool) : Prop := ∀ (w : Wd) (p : PyData) (v : V), c p = true → Now (gx X) w p v → tyV X.K T v w.H
theorem tyC_list : TyC X "list" isL := fun w p v h n => by
  unfold isL at h
  split at h
  · obtain ⟨a, vs, rfl, s, _⟩ := n
    exact .inl ⟨rfl, _, s⟩
  · cases h
theorem tyC_str : TyC X "str" isS := fun w p v h n => by
  unfold isS at h
  split at h
  · rw [n.str.1]; rfl
  · cases h
theorem Pst.imp {α β : Type} {G : Gd} {W : WX} {σ : L2.St} {rel : Wd → α → β → Prop} {Q Q' : β → Hp → Prop} {w : Wd} {r : R α} (f : ∀ v H, Q v H → Q' v H) (h : Pst G W σ rel Q w r) : Pst G W σ rel Q' w r := by
  cases r with
  | ok x μ => exact fun v w' E L r => f _ _ (h v w' E L r)
  | ex c p μ => exact h
  | bad => exact h
theorem meth_read {c : PyData → Bool} {g : DM} {r : V → List V → Hp → VK → Prop} {W : WX} {σ : L2.St} {H : Hp} {Q : VK} (ty : TyC X T c)
    (k : ∀ (w : Wd) (μ : Mu) (x : D) (xs : List D) (v : V) (vs : List V), Live (gx X) w μ → RelD (gx X) w x v → RelDL (gx X) w xs vs → Pst (gx X) W σ (RelD (gx X)) Q w (g x xs μ) → r v vs w.H Q)
    (h : lift (gx X) W (RelD (gx X)) (dMeth c g d as) σ H Q) :
    lift (gx X) W (RelD (gx X)) d σ H fun x H1 => tyV X.K T x H1 ∧ lift (gx X) W (RelDL (gx X)) as σ H1 fun xs H2 => r x xs H2 Q := by
  obtain ⟨w, δ, μ, e, L, S, h⟩ := h
  refine ⟨w, δ, μ, e, L, S, Pst.bind h fun x v w1 μ1 E1 L1 r1 h1 => ?_⟩
  split at h1
  · rename_i ht
    unfold rdIs at ht
    split at ht
    · rename_i p ep
      refine ⟨ty w1 p v ht (now_of L1 ep r1), w1, δ, μ1, rfl, L1, S.ext L E1, Pst.bind h1 fun xs vs w2 μ2 E2 L2 r2 h2 => ?_⟩
      exact k w2 μ2 x xs v vs L2 (RelD.ext L1 E2 _ _ r1) r2 h2
    · cases ht
  · exact h1.elim
theorem le_meth {c : PyData → Bool} {g : DM} (pa : PlainAttrs T) (slot : Slot T name id) (hty : typeOf (.builtin id) = pure (.type "method_descriptor")) (hm : MthOk X id g) (ty : TyC X T c) (ho : LE X W o d) (ha : LA X W (e :: es) as)
    (hbase : attributeBase o name X.env (eval o X.env) = eval o X.env := by rfl)
    (hfew : ((backTo cpos (starEach (e :: es) X.env)).all (fun x => !x.1) && (backToKw cpos (keywordEach [] X.env)).all (fun x => x.1.isSome)
      && decide ((e :: es).length + ([] : List Keyword).length + (if ([] : List Keyword).isEmpty then 0 else 1) < 30)) = true := by rfl)
    (hline : (apos.endLine == cpos.line) = true := by rfl) (hs : starEach (e :: es) X.env = (false, eval e X.env) :: starEach es X.env := by rfl) (hplain : (backTo cpos (starEach es X.env)).any (·.1) = false := by rfl) :
    LE X W (.Call (.Attribute o name apos) (e :: es) [] cpos) (dMeth c g d as) := by
  obtain ⟨r, m, k⟩ := hm
  exact (pe_bm pa slot hty m ho ha hbase hfew hline hs hplain).imp fun σ H Q h => meth_read ty (fun w μ x xs v vs L r1 r2 h2 => k W σ w μ x xs v vs Q L r1 r2 h2) h
theorem le_meth0 {c : PyData → Bool} {g : DM} (pa : PlainAttrs T) (slot : Slot T name id) (hty : typeOf (.builtin id) = pure (.type "method_descriptor")) (hm : MthOk X id g) (ty : TyC X T c) (ho : LE X W o d)
    (hbase : attributeBase o name X.env (eval o X.env) = eval o X.env := by rfl) (hline : (apos.endLine == cpos.line) = true := by rfl) : LE X W (.Call (.Attribute o name apos) [] [] cpos) (dMeth c g d dNil) := by
  obtain ⟨r, m, k⟩ := hm
  refine (pe_bm0 pa slot hty m ho hbase hline).imp fun σ H Q h => ?_
  obtain ⟨w, δ, μ, e, L, S, h⟩ := meth_read ty (fun w μ x xs v vs L r1 r2 h2 => k W σ w μ x xs v vs Q L r1 r2 h2) h
  refine ⟨w, δ, μ, e, L, S, ?_⟩
  refine Pst.imp (fun v H1 z => ?_) h
  obtain ⟨h1, w1, δ1, μ1, e1, L1, S1, h2⟩ := z
  subst e1
  exact ⟨h1, here_ok h2 L1 RelDL.nil⟩

/-! ### of live lists -/
/-- the live list is now ys -/
theorem set_ok {G : Gd} {W : WX} {σ : L2.St} {w : Wd} {μ : Mu} {Q : VK} {n : Nat} {y : D} {v : V} {ys : List PyData} {vs : List V} (h : Pst G W σ (RelD G) Q w (.ok y (μ.set n (.l ys)))) (L : Live G w μ) (hn : n < w.N) (r : RelL G w ys vs) (z : ys.length ≤ sizeLine)
    (rv : ∀ w', Ext w w' → RelD G w' y v) : Q v (upd w.H (w.m n) (.lst vs)) :=
  h v ⟨upd w.H (w.m n) (.lst vs), w.m, w.N⟩ (Ext.set L _ hn) (Live.set L hn ⟨z, r⟩) (rv _ (Ext.set L _ hn))
theorem lst_at {G : Gd} {w : Wd} {μ : Mu} {n : Nat} {xs : List PyData} (L : Live G w μ) (e : μ[n]? = some (.l xs)) : n < w.N ∧ ∃ vs, w.H (w.m n) = some (.lst vs) ∧ xs.length ≤ sizeLine ∧ RelL G w xs vs := by
  have hn : n < w.N := by have := (List.getElem?_eq_some_iff.mp e).1; rw [L.len] at this; exact this
  obtain ⟨ho, z, hh⟩ := L.at_ n _ e
  cases ho with
  | lst vs => exact ⟨hn, vs, z, hh.1, hh.2⟩
  | _ => exact hh.elim
def gAppend : DM := fun x xs μ => match x, xs with
  | .lst n, [.t q] => match μ[n]? with
    | some (.l ys) => if ys.length < sizeLine then .ok (.t .none) (μ.set n (.l (ys ++ [q]))) else .bad
    | _ => .bad
  | _, _ => .bad
theorem m_append : MthOk X "list.append" gAppend := by
  refine ⟨_, mt_append, fun W σ w μ x xs v vs Q L r1 r2 h => ?_⟩
  unfold gAppend at h
  split at h
  · rename_i n q
    split at h
    · rename_i ys e
      split at h
      · rename_i hz
        rw [RelDL] at r2
        obtain ⟨u, r', rfl, r2, r3⟩ := r2
        rw [RelDL] at r3
        subst r3
        rw [RelD] at r1
        rw [RelD] at r2
        obtain ⟨hn, us, z, _, l⟩ := lst_at L e
        refine ⟨_, us, u, r1.2, rfl, z, by rw [← l.length]; exact hz, set_ok h L hn (l.append (RelL.one r2)) (by rw [List.length_append, List.length_singleton]; omega) fun w' _ => RelD.t Rel.nil_⟩
      · exact h.elim
    · exact h.elim
  · exact h.elim
/-- a list as it stands, not a locked one -/
def lstOf (μ : Mu) : D → Option (List PyData)
  | .t (.list xs) => some xs
  | .lst n => match μ[n]? with
    | some (.l xs) => some xs
    | _ => none
  | _ => none
theorem lstOf_ok {G : Gd} {w : Wd} {μ : Mu} {x : D} {v : V} {xs : List PyData} (L : Live G w μ) (r : RelD G w x v) (e : lstOf μ x = some xs) : ∃ a vs, v = .ref a ∧ w.H a = some (.lst vs) ∧ xs.length ≤ sizeLine ∧ RelL G w xs vs := by
  unfold lstOf at e
  split at e
  · cases e
    rw [RelD, Rel] at r
    obtain ⟨a, vs, rfl, h, _, z, l⟩ := r
    exact ⟨a, vs, rfl, h, z, l⟩
  · split at e
    · rename_i n ys e1
      cases e
      rw [RelD] at r
      obtain ⟨_, vs, h, z, l⟩ := lst_at L e1
      exact ⟨_, vs, r.2, h, z, l⟩
    · cases e
  · cases e
def gExtend : DM := fun x xs μ => match x, xs with
  | .lst n, [y] => match μ[n]?, lstOf μ y with
    | some (.l ys), some zs => if ys.length + zs.length ≤ sizeLine then .ok (.t .none) (μ.set n (.l (ys ++ zs))) else .bad
    | _, _ => .bad
  | _, _ => .bad
theorem m_extend : MthOk X "list.extend" gExtend := by
  refine ⟨_, mt_extend, fun W σ w μ x xs v vs Q L r1 r2 h => ?_⟩
  unfold gExtend at h
  split at h
  · rename_i n y
    split at h
    · rename_i ys zs e e2
      split at h
      · rename_i hz
        rw [RelDL] at r2
        obtain ⟨u, r', rfl, r2, r3⟩ := r2
        rw [RelDL] at r3
        subst r3
        obtain ⟨b, bs, rfl, hb, _, lb⟩ := lstOf_ok L r2 e2
        rw [RelD] at r1
        obtain ⟨hn, us, z, _, l⟩ := lst_at L e
        refine ⟨_, b, us, bs, r1.2, rfl, z, hb, by rw [← l.length, ← lb.length]; exact hz, set_ok h L hn (l.append lb) (by rw [List.length_append]; exact hz) fun w' _ => RelD.t Rel.nil_⟩
      · exact h.elim
    · exact h.elim
  · exact h.elim
theorem RelL.dropLast {G : Gd} {w : Wd} {ds : List PyData} {vs : List V} (h : RelL G w ds vs) : RelL G w ds.dropLast vs.dropLast := by
  rw [List.dropLast_eq_take, List.dropLast_eq_take, ← h.length]
  exact h.take _
def gPop : DM := fun x xs μ => match x, xs with
  | .lst n, [] => match μ[n]? with
    | some (.l ys) => match ys[ys.length - 1]? with
      | some y => .ok (.t y) (μ.set n (.l ys.dropLast))
      | none => .bad
    | _ => .bad
  | _, _ => .bad
theorem m_pop : MthOk X "list.pop" gPop := by
  refine ⟨_, mt_pop, fun W σ w μ x xs v vs Q L r1 r2 h => ?_⟩
  unfold gPop at h
  split at h
  · rename_i n
    split at h
    · rename_i ys e
      split at h
      · rename_i y ey
        rw [RelDL] at r2
        subst r2
        rw [RelD] at r1
        obtain ⟨hn, us, z, hz, l⟩ := lst_at L e
        obtain ⟨u, hu, ru⟩ := l.get ey
        refine ⟨_, us, u, r1.2, rfl, z, by rw [← l.length]; exact hu, set_ok h L hn l.dropLast (by rw [List.length_dropLast]; omega) fun w' E => RelD.t (Rel.ext L E _ _ ru)⟩
      · exact h.elim
    · exact h.elim
  · exact h.elim
def gReverse : DM := fun x xs μ => match x, xs with
  | .lst n, [] => match μ[n]? with
    | some (.l ys) => .ok (.t .none) (μ.set n (.l ys.reverse))
    | _ => .bad
  | _, _ => .bad
theorem m_reverse : MthOk X "list.reverse" gReverse := by
  refine ⟨_, mt_reverse, fun W σ w μ x xs v vs Q L r1 r2 h => ?_⟩
  unfold gReverse at h
  split at h
  · rename_i n
    split at h
    · rename_i ys e
      rw [RelDL] at r2
      subst r2
      rw [RelD] at r1
      obtain ⟨hn, us, z, hz, l⟩ := lst_at L e
      refine ⟨_, us, r1.2, rfl, z, set_ok h L hn l.reverse (by rw [List.length_reverse]; exact hz) fun w' E => RelD.t Rel.nil_⟩
    · exact h.elim
  · exact h.elim

/-! ### read only -/
/-- a method of one argument, both read -/
def gM1 (f : PyData → PyData → Option PyData) : DM := fun x xs μ => match xs with
  | [y] => ap2 f x y μ
  | _ => .bad
def gM0 (f : PyData → Option PyData) : DM := fun x xs μ => match xs with
  | [] => ap1 f x μ
  | _ => .bad
theorem meth1 {f : PyData → PyData → Option PyData} {r : V → List V → Hp → VK → Prop} (m : MtR X id r)
    (k : ∀ (w : Wd) (μ : Mu) (p q d : PyData) (x y : V) (Q : VK), Live (gx X) w μ → f p q = some d → Now (gx X) w p x → Now (gx X) w q y → (∀ v w', Ext w w' → Live (gx X) w' μ → Rel (gx X) w' d v → Q v w'.H) → r x [y] w.H Q) : MthOk X id (gM1 f) := by
  refine ⟨r, m, fun W σ w μ x xs v vs Q L r1 r2 h => ?_⟩
  unfold gM1 at h
  split at h
  · rw [RelDL] at r2
    obtain ⟨u, r', rfl, r2, r3⟩ := r2
    rw [RelDL] at r3
    subst r3
    obtain ⟨p, q, d, e, n1, n2, hQ⟩ := ap2_ok (g := binaryOp .Add) L r1 r2 h
    exact k w μ p q d v u Q L e n1 n2 hQ
  · exact h.elim
def strL (xs : List Str) : PyData := .list (xs.map .str)
theorem rel_strs {G : Gd} {w : Wd} : ∀ {xs : List Str}, (∀ x ∈ xs, x.length ≤ sizeLine) → RelL G w (xs.map .str) (xs.map V.str)
  | [], _ => RelL.nil
  | x :: xs, h => RelL.cons (Rel.str (h x (by simp))) (rel_strs fun y hy => h y (by simp [hy]))
/-- a.split(b) -/
def fSplit : PyData → PyData → Option PyData
  | .str a, .str b => if b.length != 0 && decide (a.length + 2 ≤ sizeLine) && (Txt.split a b).all (fun x => decide (x.length ≤ sizeLine)) then some (strL (Txt.split a b)) else none
  | _, _ => none
theorem m_split : MthOk X "str.split" (gM1 fSplit) := meth1 mt_split fun w μ p q d x y Q L e hp hq hQ => by
  unfold fSplit at e
  split at e
  · split at e
    · rename_i a b hz
      cases e
      simp only [Bool.and_eq_true, decide_eq_true_eq, bne_iff_ne, ne_eq, List.all_eq_true] at hz
      obtain ⟨⟨h1, h2⟩, h3⟩ := hz
      refine ⟨a, b, hp.str.1, by rw [hq.str.1], beq_false_of_ne h1, h2, fun p' hp' => ?_⟩
      refine hQ _ (w.put p' _) (Ext.new L hp') (Live.new L hp') (Rel.newF L (rel_strs h3) ?_ hp')
      rw [List.length_map]
      exact Nat.le_trans (PyProof.Rows.split_le a b) h2
    · cases e
  · cases e
def strsOf : List PyData → Option (List Str)
  | [] => some []
  | .str b :: r => (strsOf r).map (b :: ·)
  | _ => none
theorem strsOf_eq : ∀ {xs : List PyData} {bs : List Str}, strsOf xs = some bs → xs = bs.map .str
  | [], bs, h => by cases h; rfl
  | .str b :: r, bs, h => by
    rw [strsOf] at h
    obtain ⟨cs, h1, rfl⟩ := Option.map_eq_some_iff.mp h
    rw [strsOf_eq h1]; rfl
  | .none :: _, _, h => by simp [strsOf] at h
  | .int _ :: _, _, h => by simp [strsOf] at h
  | .bool _ :: _, _, h => by simp [strsOf] at h
  | .list _ :: _, _, h => by simp [strsOf] at h
  | .tuple _ :: _, _, h => by simp [strsOf] at h
  | .dict _ :: _, _, h => by simp [strsOf] at h
theorem rel_strs' {G : Gd} {w : Wd} : ∀ {bs : List Str} {vs : List V}, RelL G w (bs.map .str) vs → vs = bs.map .str
  | [], vs, h => by rw [List.map_nil, RelL] at h; exact h
  | b :: bs, vs, h => by
    rw [List.map_cons, RelL] at h
    obtain ⟨v, r, rfl, h1, h2⟩ := h
    rw [Rel] at h1
    rw [h1.1, rel_strs' h2]; rfl
/-- a.join(xs) -/
def fJoin : PyData → PyData → Option PyData
  | .str a, y => match (itemsOf y).bind strsOf with
    | some ys => if decide ((ys.map (·.length)).sum + ys.length * a.length ≤ 16777216) && decide ((Txt.join a ys).length ≤ sizeLine) then some (.str (Txt.join a ys)) else none
    | none => none
  | _, _ => none
theorem m_join : MthOk X "str.join" (gM1 fJoin) := meth1 mt_join fun w μ p q d x y Q L e hp hq hQ => by
  unfold fJoin at e
  split at e
  · rename_i a
    split at e
    · rename_i ys e1
      split at e
      · rename_i hz
        cases e
        simp only [Bool.and_eq_true, decide_eq_true_eq] at hz
        obtain ⟨its, e2, e3⟩ := Option.bind_eq_some_iff.mp e1
        have e4 := strsOf_eq e3
        subst e4
        cases q with
        | list zs =>
          cases e2
          obtain ⟨b, vs, rfl, s, _, l⟩ := hq
          rw [rel_strs' l] at s
          exact ⟨a, b, ys, hp.str.1, rfl, .inl s, hz.1, hQ _ w (Ext.refl w) L (Rel.str hz.2)⟩
        | tuple zs =>
          cases e2
          obtain ⟨b, vs, rfl, s, _, l⟩ := hq.tup
          rw [rel_strs' l] at s
          exact ⟨a, b, ys, hp.str.1, rfl, .inr s, hz.1, hQ _ w (Ext.refl w) L (Rel.str hz.2)⟩
        | _ => cases e2
      · cases e
    · cases e
  · cases e
/-- xs.index(y) -/
def posOf (d : PyData) : List PyData → Option Nat
  | [] => none
  | x :: r => if PyData.eqv x d then some 0 else (posOf d r).map (· + 1)
theorem posOf_ok {d : PyData} : ∀ {xs : List PyData} {j : Nat}, posOf d xs = some j → (∃ z, xs[j]? = some z ∧ PyData.eqv z d = true) ∧ ∀ (m : Nat) (z' : PyData), m < j → xs[m]? = some z' → PyData.eqv z' d = false
  | [], j, h => by cases h
  | x :: r, j, h => by
    rw [posOf] at h
    split at h
    · rename_i hx
      cases h
      exact ⟨⟨x, rfl, hx⟩, fun m z' hm => absurd hm (Nat.not_lt_zero _)⟩
    · rename_i hx
      obtain ⟨i, h1, rfl⟩ := Option.map_eq_some_iff.mp h
      obtain ⟨⟨z, a1, a2⟩, a3⟩ := posOf_ok h1
      refine ⟨⟨z, by rw [List.getElem?_cons_succ]; exact a1, a2⟩, fun m z' hm hz => ?_⟩
      cases m with
      | zero =>
        cases hz
        exact Bool.eq_false_iff.mpr hx
      | succ m => exact a3 m z' (by omega) (by rw [List.getElem?_cons_succ] at hz; exact hz)
def fIndex (n : Nat) : PyData → PyData → Option PyData
  | .list xs, d => if shpL n xs && shp n d then (posOf d xs).map fun j => .int (j : Nat) else none
  | _, _ => none
theorem m_index (n : Nat) (hu : X.A.units + 65 < cLine) (hn : n + 1 ≤ 64 := by decide) : MthOk X "list.index" (gM1 (fIndex n)) := meth1 (mt_indexD hu) fun w μ p q d x y Q L e hp hq hQ => by
  unfold fIndex at e
  split at e
  · split at e
    · rename_i xs hz
      simp only [Bool.and_eq_true] at hz
      obtain ⟨j, e1, rfl⟩ := Option.map_eq_some_iff.mp e
      obtain ⟨⟨z, a1, a2⟩, a3⟩ := posOf_ok e1
      have dp := hp.dp
      obtain ⟨a, vs, rfl, _⟩ := hp
      exact ⟨a, y, q, xs, j, z, rfl, rfl, dp, hq.dp, shaped_of (n := n + 1) (by rw [shp]; exact hz.1) hn, shaped_of hz.2 (by omega), a1, a2, a3, hQ _ w (Ext.refl w) L (Rel.int _)⟩
    · cases e
  · cases e
def rCountD (K : PySem.W.Frag) : V → List V → Hp → VK → Prop := fun x xs H Q => ∃ (a : Addr) (y : V) (d : PyData) (ds : List PyData), x = V.ref a ∧ xs = [y] ∧ Dp K H (V.ref a) (.list ds) ∧ Dp K H y d ∧
  SeqAt.shaped (.list ds) = true ∧ SeqAt.shaped d = true ∧ Q (.int ((ds.countP fun z => PyData.eqv z d : Nat))) H
theorem mt_countD (hu : X.A.units + 65 < cLine) : MtR X "list.count" (rCountD X.K) := by
  intro pins s σ H x xs v us Q I rx rxs h
  obtain ⟨a, y, d, ds, rfl, rfl, hl, hy, sl, sd, q⟩ := h
  cases rx
  cases rxs with
  | cons ry rt =>
    rename_i uy ut
    cases rt
    obtain ⟨bs, r1⟩ := Dp.reads I d y uy hy ry
    have hxs : PyData.canLayAll0 ds = true := SeqAt.canLay_of_shaped sl
    have hroom : X.A.units + 1 + min (PyData.depthAll ds) d.depth < cLine := room_in_shaped sd hu
    cases hl with
    | lst hs ha =>
      obtain ⟨its, rv, ⟨⟨cls, dd, data, sls⟩, n, ho, hc, hdn, hdt⟩, hlen⟩ := I.list hs
      simp only at hc hdt
      subst hc hdt
      obtain ⟨as, h4⟩ := Dp.readsAll I ds _ its ha rv
      have hmap : its.map (SeqAt.readOf s.heap) = ds := SeqAt.readsAll_map ds its as hxs h4
      refine call_meets PySem.F.slot_list_count ⟨_, ho, rfl⟩ PySem.F.entry_list_count (PySem.F.args_list_count_2 _ _)
        (SeqAt.list_countAt a its.toArray n dd sls uy (fun u => PyData.eqv (SeqAt.readOf s.heap u) d)) ⟨ho, SeqAt.items_eqAt (vs := its.toArray) (show ReadsAll s.heap its.toArray.toList ds as from h4) r1 hxs (SeqAt.canLay_of_shaped sd) hroom, ?_⟩
      have e2 : its.toArray.toList.countP (fun u => PyData.eqv (SeqAt.readOf s.heap u) d) = ds.countP fun z => PyData.eqv z d := by
        rw [List.toList_toArray, ← hmap, List.countP_map]
        rfl
      exact ⟨.int _, H, I.tok _, ⟨s.toks, congrArg (fun z : Nat => Value.int (z : Int) s.toks) e2⟩, q⟩
def fCount (n : Nat) : PyData → PyData → Option PyData
  | .list xs, d => if shpL n xs && shp n d then some (.int (xs.countP fun z => PyData.eqv z d : Nat)) else none
  | _, _ => none
theorem m_count (n : Nat) (hu : X.A.units + 65 < cLine) (hn : n + 1 ≤ 64 := by decide) : MthOk X "list.count" (gM1 (fCount n)) := meth1 (mt_countD hu) fun w μ p q d x y Q L e hp hq hQ => by
  unfold fCount at e
  split at e
  · split at e
    · rename_i xs hz
      simp only [Bool.and_eq_true] at hz
      cases e
      have dp := hp.dp
      obtain ⟨a, vs, rfl, _⟩ := hp
      exact ⟨a, y, q, xs, rfl, rfl, dp, hq.dp, shaped_of (n := n + 1) (by rw [shp]; exact hz.1) hn, shaped_of hz.2 (by omega), hQ _ w (Ext.refl w) L (Rel.int _)⟩
    · cases e
  · cases e

/-! ## + and * of lists too -/
variable {a b : Expr} {da db : DE}
def apAdd (live : Bool) (x y : D) (μ : Mu) : R D := match lstOf μ x, lstOf μ y with
  | some xs, some ys => if xs.length + ys.length ≤ sizeLine then newL live (xs ++ ys) μ else .bad
  | _, _ => ap2 fAdd x y μ
def dAdd (live : Bool) (a b : DE) : DE := fun δ μ => (a δ μ).bind fun x μ1 => (b δ μ1).bind fun y μ2 => apAdd live x y μ2
theorem le_add (live : Bool) (ha : LE X W a da) (hb : LE X W b db) : LE X W (.BinOp a .Add b pos) (dAdd live da db) := by
  obtain ⟨r, o, k⟩ := o_add (X := X)
  refine (pe_op (o.or op_cat) ha hb).imp fun σ H Q h => ?_
  refine two h fun w μ x y v u L r1 r2 h2 => ?_
  unfold apAdd at h2
  split at h2
  · rename_i xs ys e1 e2
    split at h2
    · rename_i hz
      obtain ⟨p, vs, rfl, hp, _, lp⟩ := lstOf_ok L r1 e1
      obtain ⟨q, us, rfl, hq, _, lq⟩ := lstOf_ok L r2 e2
      refine .inr ⟨p, q, vs, us, rfl, rfl, hp, hq, by rw [← lp.length, ← lq.length]; exact hz, fun n hn => newL_ok h2 L (lp.append lq) (by rw [List.length_append]; exact hz) hn⟩
    · exact h2.elim
  · obtain ⟨p, q, d, e, n1, n2, hQ⟩ := ap2_ok (g := binaryOp .Add) L r1 r2 h2
    exact .inl (k w μ p q d v u Q L e n1 n2 hQ)
def apMul (live : Bool) (x y : D) (μ : Mu) : R D := match lstOf μ x, y with
  | some xs, .t (.int k) => if decide (-(2 ^ 63) ≤ k) && decide (k < 2 ^ 63) && decide (xs.length * k.toNat ≤ sizeLine) then newL live (List.replicate k.toNat xs).flatten μ else .bad
  | _, _ => ap2 fMul x y μ
def dMul (live : Bool) (a b : DE) : DE := fun δ μ => (a δ μ).bind fun x μ1 => (b δ μ1).bind fun y μ2 => apMul live x y μ2
theorem le_mul (live : Bool) (ha : LE X W a da) (hb : LE X W b db) : LE X W (.BinOp a .Mult b pos) (dMul live da db) := by
  obtain ⟨r, o, k⟩ := o_mul (X := X)
  refine (pe_op (o.or op_rep) ha hb).imp fun σ H Q h => ?_
  refine two h fun w μ x y v u L r1 r2 h2 => ?_
  unfold apMul at h2
  split at h2
  · rename_i xs i e1
    split at h2
    · rename_i hz
      simp only [Bool.and_eq_true, decide_eq_true_eq] at hz
      obtain ⟨p, vs, rfl, hp, _, lp⟩ := lstOf_ok L r1 e1
      have r2 : RelD (gx X) w (.t (.int i)) u := r2
      rw [RelD, Rel] at r2
      refine .inr ⟨p, i, vs, rfl, r2, hp, hz.1.1, hz.1.2, by rw [← lp.length]; exact hz.2, fun n hn => newL_ok h2 L (lp.rep _) (by rw [len_rep, Nat.mul_comm]; exact hz.2) hn⟩
    · exact h2.elim
  · obtain ⟨p, q, d, e, n1, n2, hQ⟩ := ap2_ok (g := binaryOp .Mult) L r1 r2 h2
    exact .inl (k w μ p q d v u Q L e n1 n2 hQ)

/-! ## raise X('m') -/
def sRaise (c : Str) : DS := fun δ μ => .ex c none δ μ
structure ExcF (K : PySem.W.Frag) (mg : Str → Option Value) (x : Str) : Prop where
  ex : ∃ C, mg x = some (.ref C) ∧ PySem.W.excIn K C He.veBase "ValueError.__new__" = true ∧ PySem.W.keepIn K (.ref C) = true ∧ PySem.W.subIn K (.ref C) (.type "BaseException") = some true ∧ PySem.W.typeIn K (.ref C) = some (.type "type")
theorem ls_raise {m : Str} {j : Nat} {p2 pos' : Pos} (hc : X.calm = true) (tk : Takes X W) (F : ExcF X.K X.mg x) (hg : Gl X x) (hdb : (x == ("__debug__" : Str)) = false := by decide) :
    LS X W (.Raise (some (.Call (.Name x p) [.Constant (.str m) j p2] [] pos)) none pos') (sRaise x) := by
  obtain ⟨C, gC, q, kC, s1, s2⟩ := F.ex
  refine (ps_raise hc tk (pmk_own PySem.F.excBase_ValueError q gC kC (raises_own s1 s2) hg hdb)).imp fun Dn σ H ⟨w, δ, μ, e, L, S, h⟩ => ?_
  subst e
  exact h C none σ w gC (Ext.refl w) L S trivial
end
end TV

/-! TV, thirteenth part: caught exceptions, told by a def; tables of defs. -/
namespace TV
open PySem PySem.Spec PyProof.Rows L2

/-! ## isinstance of the exception that is handled -/
/-- the exception at a is of the class c -/
structure IsEx (X : Cx) (a : Addr) (c : Str) (C : Addr) : Prop where
  pin : ∃ p : Addr × Obj, p ∈ X.pn ∧ p.1 = a ∧ Zc (.ref C) none p.2 ∧ ∃ vs, p.2.data = .fields vs
  mg : X.mg c = some (.ref C)
  cls : ExcC X.K C
theorem call_isX {X : Cx} {a C : Addr} {c : Str} (E : IsEx X a c C) : CallR X (.builtin "isinstance") (rIsE X.K C a) := by
  intro pins s σ H xs us Q I r h
  obtain ⟨k, kv, b, rfl, hkv, e, q⟩ := h
  obtain ⟨u1, u2, rfl, r1, r2⟩ := vals2 r
  cases r1
  have ek := hkv _ r2
  subst ek
  obtain ⟨⟨x, ob⟩, hp, rfl, hz, vs, hv⟩ := E.pin
  obtain ⟨hget, _⟩ := I.pin (x, ob) (List.mem_append_left _ hp)
  have J : PySem.W.InstAt s.heap x ob C none := by
    obtain ⟨k1, k2, k3, k4⟩ := ob
    obtain ⟨h1, h2⟩ := hz
    dsimp only at h1 h2 hv
    subst h1 h2 hv
    exact ⟨hget, rfl, rfl, trivial⟩
  have kx := PySem.W.handS_kitx_exc (x := x) (ox := ob) E.cls.hg E.cls.hk E.cls.hs E.cls.hd E.cls.ha E.cls.hn E.cls.ht E.cls.hm
  exact PySem.W.kia_one kx I.kIn J e (fun z => nomatch z) fun tk => ⟨.bl b, H, I.tok tk, rfl, q⟩
def dIsE (i : Nat) (a : Addr) (b : Bool) : DE := fun δ μ => match δ[i]? with
  | some (some (.ref a')) => if a' = a then .ok (.t (.bool b)) μ else .bad
  | _ => .bad
theorem kit_of_exm {K : PySem.W.Frag} {C D : Addr} {b : Bool} (h : PySem.W.exmOne K (.ref C) (.ref D) = some b) (hb : C = D → b = true) : PySem.W.kitOne K (.ref C) (.ref D) = some b := by
  unfold PySem.W.kitOne
  by_cases e : C = D
  · subst e
    rw [if_pos (beq_self_eq_true _), hb rfl]
  · rw [if_neg (fun z => e (Value.ref.inj (beq_iff_eq.mp z)))]
    unfold PySem.W.exmOne at h
    split at h
    · exact h
    · cases h
section
variable {X : Cx} {W : WX} {er y : Str} {c : Str} {C a : Addr} {p p1 p2 pos : Pos}
theorem le_isE {i : Nat} {b : Bool} {D : Addr} (E : IsEx X a c C) (hg : Gl X "isinstance") (hm : X.mg "isinstance" = none) (hN : X.N[i]? = some er) (hv : Vis X.env.scope er) (gy : Gl X y) (my : X.mg y = some (.ref D)) (ex : PySem.W.exmOne X.K (.ref C) (.ref D) = some b) (hb : C = D → b = true)
    (h1 : (er == ("__debug__" : Str)) = false := by decide) (h2 : (er == ("__classdict__" : Str)) = false := by decide) (h3 : (y == ("__debug__" : Str)) = false := by decide) :
    LE X W (.Call (.Name "isinstance" p) [.Name er p1, .Name y p2] [] pos) (dIsE i a b) := by
  have args : PA X [.Name er p1, .Name y p2] (tCons _ (tCons _ tNil)) := pa_cons (pe_var (pos := p1) hN hv h1 h2) (pa_cons (pe_glob (pos := p2) (v := .ref D) gy my rfl h3) pa_nil)
  refine (pe_callB (call_isX E) hg hm boot_isinstance args).imp fun σ H Q ⟨w, δ, μ, e, L, S, h⟩ => ?_
  unfold dIsE at h
  split at h
  · rename_i a' q
    split at h
    · rename_i ea
      subst ea
      obtain ⟨v, q2, r⟩ := S.2 i _ q
      rw [RelD] at r
      subst r
      subst e
      refine ⟨.ref a', q2, .ref D, .ref D, b, rfl, fun u ru => ru, kit_of_exm ex hb, here_ok h L (RelD.t (Rel.bool b))⟩
    · exact h.elim
  · exact h.elim
end

/-! ## a def that tells the exception's kind -/
/-- within an except suite the def at f answers with kind of the class's name -/
structure FnK (P : Program) (w : World) (K : PySem.W.Frag) (mg : Str → Option Value) (base : Heap) (k : Nat) (f : Addr) (fd : FuncData) (ps : List Str) (kind : Str → Option Str) : Prop where
  one : ps.length = 1
  go : ∀ (A : Around) (outer : List Env) (s : Shared) (H : Hp) (args : Args) (us : List Value) (p : Addr × Obj) (c z : Str) (C : Addr) (wd : Wd) (μ : Mu) (Q : VK) (E : XK), L2H.RoomH k A → L2H.PinOk outer H s p →
    Zc (.ref C) none p.2 → (∃ vs, p.2.data = .fields vs) → mg c = some (.ref C) → kind c = some z → Env0 P w K mg base A outer s H → BindsTo s fd args (ps.zip us) → Vals [.ref p.1] us →
    wd.H = H → Live ⟨K, mg⟩ wd μ → (∀ v w', Ext wd w' → Live ⟨K, mg⟩ w' μ → Rel ⟨K, mg⟩ w' (.str z) v → Q v w'.H) → codeAny (model P w) A (.call (.ref f) args) (CR (L2.CX P w) outer P w H s Q E) s
structure FeK (P : Program) (w : World) (K : PySem.W.Frag) (mg : Str → Option Value) (base : Heap) (k : Nat) (x : Str) (kind : Str → Option Str) : Prop where
  ex : ∃ f fd ps, mg x = some (.ref f) ∧ PySem.W.keepIn K (.ref f) = true ∧ Binds K fd ps [] ∧ FnK P w K mg base k f fd ps kind
theorem FnK.mono {P : Program} {w : World} {K : PySem.W.Frag} {mg : Str → Option Value} {base : Heap} {j k : Nat} {f : Addr} {fd : FuncData} {ps : List Str} {kind : Str → Option Str} (h : FnK P w K mg base j f fd ps kind) (q : j ≤ k) : FnK P w K mg base k f fd ps kind :=
  ⟨h.one, fun A outer s H args us p c z C wd μ Q E room => h.go A outer s H args us p c z C wd μ Q E (room.mono q)⟩
theorem FeK.mono {P : Program} {w : World} {K : PySem.W.Frag} {mg : Str → Option Value} {base : Heap} {j k : Nat} {x : Str} {kind : Str → Option Str} (h : FeK P w K mg base j x kind) (q : j ≤ k) : FeK P w K mg base k x kind := by
  obtain ⟨f, fd, ps, a, b, c, d⟩ := h.ex
  exact ⟨f, fd, ps, a, b, c, d.mono q⟩
abbrev FeKX (X : Cx) (k : Nat) (x : Str) (kind : Str → Option Str) : Prop := FeK X.prog X.w X.K X.mg X.base k x kind
section
variable {P : Program} {w : World} {K : PySem.W.Frag} {mg : Str → Option Value} {base : Heap} {k : Nat} {f : Addr} {name qual : Str} {params : Arguments} {body : List Stmt} {scope : Scope} {N ps : List Str}
theorem fnK_of {dV kV doc pm cdv ct oc : Value} {an od : Option Addr} {osl : Array (Option Value)} {m : Nat} {b : Addr → Str → DS} {kind : Str → Option Str}
    (lk : K.lookup f = some ⟨oc, od, .func (PySem.W.fnOf name qual params body scope dV kV doc pm an cdv ct), osl⟩) (hcd : PySem.W.codeIn K cdv qual = true) (sc : FnScope N ps scope) (hm : N.length = 1 + m) (hps : ps.length = 1)
    (told : ∀ a c z μ, kind c = some z → mkF 1 m false (b a c) [.ref a] μ = .ok (.t (.str z)) μ) (exc : ∀ c z C, kind c = some z → mg c = some (.ref C) → ExcC K C)
    (hb : ∀ (A : Around) (outer : List Env) (s : Shared) (H : Hp) (E : XK) (p : Addr × Obj) (c z : Str) (C : Addr), L2H.RoomH k (A.deeper (envOfC qual scope s.heap.objs.size f cdv)) → kind c = some z →
      IsEx (L2H.cxH (L2.CX P w) P w K mg base N qual scope f cdv A outer s H E p) p.1 c C → LSs (L2H.cxH (L2.CX P w) P w K mg base N qual scope f cdv A outer s H E p) (fun _ _ _ _ => False) body (b p.1 c)) :
    FnK P w K mg base (k + 1) f (PySem.W.fnOf name qual params body scope dV kV doc pm an cdv ct) ps kind := by
  refine ⟨hps, fun A outer s H args us p c z C wd μ Q E room pin zc hv mc hk e0 bd rv eH L post => ?_⟩
  have kin : K.In s.heap := e0.mod.kin.keeps fun b o e => (e0.bs b o e).1
  have lim : s.heap.NoLimit := e0.mod.nolimit.keeps fun b o e => (e0.bs b o e).1
  have visible : ∀ y ∈ ps.zip us, scope.names.lookup y.1 = some .local ∨ (scope.names.lookup y.1 = some .cell ∧ ((cellsFrom (s.heap.objs.size + 1) scope.names []).lookup y.1).isSome = true) := by
    intro y hy
    rcases sc.par y.1 (List.of_mem_zip (a := y.1) (b := y.2) hy).1 with q | q
    · exact .inl q
    · exact .inr ⟨q, PySem.W.cellsFrom_some _ _ _ (.inl q)⟩
  refine codeAny_call_function room.depth (kin _ _ lk) rfl sc.co sc.gen rfl (PySem.W.codeRec_of kin hcd) (bd _ _ _ _ ?_)
  refine wpAny_newFunctionEnv_cells sc.kind visible ?_
  intro env he s1 made
  subst he
  refine ⟨lim.keeps made.toInCall.keep, codeAny_func ?_⟩
  have inv := L2H.inv_startH (CX := L2.CX P w) (E := E) (cd := cdv) (qual := qual) sc pin e0 (vs := [.ref p.1]) (by rw [hps]; rfl) rv made
  have st : L2.start N [V.ref p.1] = [some (V.ref p.1)] ++ List.replicate m none := by unfold L2.start; rw [hm]; simp
  have isx : IsEx (L2H.cxH (L2.CX P w) P w K mg base N qual scope f cdv A outer s H E p) p.1 c C := ⟨⟨p, List.mem_singleton.mpr rfl, rfl, zc, hv⟩, mc, exc c z C hk mc⟩
  have ran := (hb A outer s H E p c z C (room.deeper _) hk isx).run [] s1 (L2.start N [V.ref p.1]) H { nx := fun _ H' => Q .non H', rt := Q } inv ?_
  · refine wpAny_mono ran (fun fl s' done => ?_) fun _ _ x => x
    · have back : ∀ {σ' : L2.St} {H' : Hp} {v : V} {u : Value}, Inv (L2H.cxH (L2.CX P w) P w K mg base N qual scope f cdv A outer s H E p) [] σ' H' s' → RelV v u → Q v H' → CE outer P w H s Q u s' := by
        intro σ' H' v u J r q
        exact ⟨v, H', J.os, J.bare, J.base, J.hok, r, q⟩
      match fl, done with
      | .ret u, ⟨v, σ', H', J, r, q⟩ => exact back J r q
      | .next, ⟨σ', H', J, q⟩ => exact back (v := V.non) (u := Value.none) J rfl q
      | .brk, ⟨_, _, _, q⟩ => exact q.elim
      | .cont, ⟨_, _, _, q⟩ => exact q.elim
  · have rx : RelDL ⟨K, mg⟩ wd [.ref p.1] [V.ref p.1] := RelDL.cons (by rw [RelD]) RelDL.nil
    refine ⟨wd, [some (.ref p.1)] ++ List.replicate m none, μ, eH, L, by rw [st]; exact slots_start m rx, ?_⟩
    have t := told p.1 c z μ hk
    have t : (match b p.1 c ([some (.ref p.1)] ++ List.replicate m none) μ with
      | .rt x μ' => gc false μ.length x μ'
      | .nx _ μ' => gc false μ.length (.t .none) μ'
      | .ex c p _ μ' => .ex c p (μ'.take μ.length)
      | _ => .bad) = R.ok (.t (.str z)) μ := by
      have y : mkF 1 m false (b p.1 c) [.ref p.1] μ = _ := if_pos rfl
      rw [t] at y
      exact y.symm
    have post' : Pst ⟨K, mg⟩ (fun _ _ _ _ => False) [] (RelD ⟨K, mg⟩) Q wd (R.ok (.t (.str z)) μ) := fun v w' E' L' r => post v w' E' L' (by rw [RelD] at r; exact r)
    cases q : b p.1 c ([some (.ref p.1)] ++ List.replicate m none) μ with
    | rt x μ' =>
      rw [q] at t
      rw [← t] at post'
      exact fun v w' E' L' r => gc_ok L L' E' r post'
    | nx δ' μ' =>
      rw [q] at t
      rw [← t] at post'
      exact fun σ' w' E' L' S' => gc_ok (x := .t .none) L L' E' (RelD.t Rel.nil_) post'
    | ex c p δ' μ' => rw [q] at t; cases t
    | bk _ _ => rw [q] at t; cases t
    | ct _ _ => rw [q] at t; cases t
    | bad => rw [q] at t; cases t
theorem feK_of {x : Str} {sl : List (Str × V)} {fd : FuncData} {m : Nat} {b : Addr → Str → DS} {kind : Str → Option Str} (F : FunD K x x params body scope [] [] f fd) (g : mg x = some (.ref f)) (bd : Binds K fd ps []) (sc : FnScope N ps scope) (hm : N.length = 1 + m) (hps : ps.length = 1)
    (told : ∀ a c z μ, kind c = some z → mkF 1 m false (b a c) [.ref a] μ = .ok (.t (.str z)) μ) (exc : ∀ c z C, kind c = some z → mg c = some (.ref C) → ExcC K C)
    (hb : ∀ (cdv : Value) (A : Around) (outer : List Env) (s : Shared) (H : Hp) (E : XK) (p : Addr × Obj) (c z : Str) (C : Addr), L2H.RoomH k (A.deeper (envOfC x scope s.heap.objs.size f cdv)) → kind c = some z →
      IsEx (L2H.cxH (L2.CX P w) P w K mg base N x scope f cdv A outer s H E p) p.1 c C → LSs (L2H.cxH (L2.CX P w) P w K mg base N x scope f cdv A outer s H E p) (fun _ _ _ _ => False) body (b p.1 c)) : FeK P w K mg base (k + 1) x kind := by
  obtain ⟨oc, od, dV, kV, doc, pm, an, cdv, ct, osl, rfl, lk, hcd, _, _⟩ := F.ex
  exact ⟨f, _, ps, g, F.kp, bd, fnK_of lk hcd sc hm hps told exc fun A outer s H E p c z C room hk => hb cdv A outer s H E p c z C room hk⟩
end

/-! ## try: .. except C as e: return kind(e) -/
section
variable {X : Cx} {k i : Nat} {a : Addr} {oe : Obj} {pn : List (Addr × Obj)} {cls : Value} {d : Option Addr} {x er : Str} {kind : Str → Option Str} {p p1 pos : Pos}
/-- what the suite's call wishes -/
def tKind (G : Gd) (kind : Str → Option Str) (i : Nat) (a : Addr) (cls : Value) (d : Option Addr) : TE := fun σ H Q => σ[i]? = some (some (.ref a)) ∧ d = none ∧ ∃ c C z wd μ, cls = .ref C ∧ G.mg c = some (.ref C) ∧ kind c = some z ∧
  wd.H = H ∧ Live G wd μ ∧ ∀ v w', Ext wd w' → Live G w' μ → Rel G w' (.str z) v → Q v w'.H
theorem pe_kind (F : FeKX X k x kind) (room : Room k X.A) (hz : Zc cls d oe) (hv : ∃ vs, oe.data = .fields vs) (hg : Gl X x) (hN : X.N[i]? = some er) (vis : Vis X.env.scope er)
    (h1 : (er == ("__debug__" : Str)) = false := by decide) (h2 : (er == ("__classdict__" : Str)) = false := by decide) (h3 : (x == ("__debug__" : Str)) = false := by decide) :
    PE (X.suite a ((a, oe) :: pn)) (.Call (.Name x p) [.Name er p1] [] pos) (tKind (gx X) kind i a cls d) := by
  obtain ⟨f, fd, ps, hm, kp, bd, F⟩ := F.ex
  refine ⟨fun pins s σ H Q I h => ?_⟩
  refine wpAny_Call_Name_kw (ld_glob (X := X.suite a ((a, oe) :: pn)) I hg hm ?_ h3)
  obtain ⟨hs, hd, c, C, z, wd, μ, rfl, mc, hk, eH, L, post⟩ := h
  subst hd
  have args : PA (X.suite a ((a, oe) :: pn)) [.Name er p1] (tCons _ tNil) := pa_cons (pe_var (X := X.suite a ((a, oe) :: pn)) (pos := p1) hN vis h1 h2) pa_nil
  refine PySem.W.callWith_K (h₀ := X.base) I.ok.mod.kin kp (thn (args.run pos pins s σ H (fun vs H1 => vs = [V.ref a] ∧ H1 = H) I ⟨.ref a, hs, rfl, rfl⟩) fun us s1 ⟨vs, H1, I1, rv, ev, e1⟩ => ⟨I1.kIn, ?_⟩) rfl rfl
  subst ev
  subst e1
  have many : us.length = ps.length := by rw [← rv.length, F.one]; rfl
  have bound : BindsTo s1 fd ⟨us, []⟩ (ps.zip us) := by
    have z := bd s1 us I1.kIn (by simpa using many)
    simpa using z
  have P1 := I1.pin (a, oe) (List.mem_append_left _ List.mem_cons_self)
  have hpin : L2H.PinOk X.stack H1 s1 (a, oe) := ⟨P1.1, P1.2.1, fun hm => (List.mem_cons.mp (I1.stkSub a hm)).elim P1.2.2.1 P1.2.2.2.1, P1.2.2.2.2⟩
  have rh : L2H.RoomH k (X.suite a ((a, oe) :: pn)).A := ⟨room.dp, room.un⟩
  refine wpAny_call (codeAny_mono (F.go (X.suite a ((a, oe) :: pn)).A X.stack s1 H1 ⟨us, []⟩ us (a, oe) c z C wd μ Q (fun _ _ _ => False) rh hpin hz hv mc hk I1.env0 bound rv eH L post) ?_)
  intro res s' got
  match res, got with
  | .error err, ⟨_, _, _, _, _, _, _, _, _, _, _, _, y⟩ => exact y.elim
  | .ok (.ret u), got => exact I1.after got
  | .ok .next, got => exact got.elim
  | .ok .brk, got => exact got.elim
  | .ok .cont, got => exact got.elim
def sTryK (kind : Str → Option Str) (i : Nat) (b : DS) : DS := fun δ μ => match b δ μ with
  | .ex c none δ' μ' => match kind c with
    | some z => if i < δ'.length then .rt (.t (.str z)) μ' else .bad
    | none => .bad
  | .ex _ _ _ _ => .bad
  | r => r
/-- .. except C as e: if kind(e) != z0: return False -/
def sTryQ (kind : Str → Option Str) (i : Nat) (z0 : Str) (b : DS) : DS := fun δ μ => match b δ μ with
  | .ex c none δ' μ' => match kind c with
    | some z => if i < δ'.length then (match cNe (.str z) (.str z0) with
      | some true => .rt (.t (.bool false)) μ'
      | some false => .nx (δ'.set i none) μ'
      | none => .bad) else .bad
    | none => .bad
  | .ex _ _ _ _ => .bad
  | r => r
theorem Slots.setNone {G : Gd} {w : Wd} {δ : Sl} {σ : L2.St} (S : Slots G w δ σ) (i : Nat) : Slots G w (δ.set i none) (σ.set i none) := by
  refine ⟨by rw [List.length_set, List.length_set]; exact S.1, fun j d e => ?_⟩
  by_cases q : i = j
  · subst q
    by_cases z : i < δ.length
    · rw [List.getElem?_set_self z] at e
      cases e
    · rw [List.getElem?_eq_none (by rw [List.length_set]; omega)] at e
      cases e
  · rw [List.getElem?_set_ne q] at e ⊢
    exact S.2 j d e
variable {W : WX} {y : Str} {Lp : Addr} {body : List Stmt} {b : DS} {np p2 p3 p4 pos' : Pos}
/-- every kind's class is caught -/
def Caught (K : PySem.W.Frag) (mg : Str → Option Value) (kind : Str → Option Str) (Lp : Addr) : Prop := ∀ c z C, kind c = some z → mg c = some (.ref C) → PySem.W.exmOne K (.ref C) (.ref Lp) = some true
theorem ls_tryK (F : FeKX X k x kind) (room : Room k X.A) (hx : Gl X x) (hs : X.stack = X.env :: X.outer) (hf : X.env.frame = some X.env.locals) (hN : X.N.Nodup) (hi : X.N[i]? = some er) (hl : X.env.kindOf er = some .local) (tk : Takes X W)
    (gy : Gl X y) (my : X.mg y = some (.ref Lp)) (ct : Caught X.K X.mg kind Lp)
    (hb : ∀ (W : WX) (pn : List (Addr × Obj)) (xe : Value → Shared → Prop), Takes (X.tr pn xe) W → PassesOwn (model X.prog X.w) X.A X.env xe → LSs (X.tr pn xe) W body b)
    (h1 : (er == ("__debug__" : Str)) = false := by decide) (h2 : (er == ("__classdict__" : Str)) = false := by decide) (h3 : (x == ("__debug__" : Str)) = false := by decide) (h4 : (y == ("__debug__" : Str)) = false := by decide) :
    LS X W (.Try body [.ExceptHandler (some (.Name y np)) (some er) [.Return (some (.Call (.Name x p) [.Name er p1] [] p2)) p3] pos'] [] [] pos) (sTryK kind i b) := by
  have suite : ∀ (a : Addr) (oe : Obj) (cls : Value) (d : Option Addr) (pn : List (Addr × Obj)), Zc cls d oe → (∃ vs, oe.data = .fields vs) → PSs (X.suite a ((a, oe) :: pn)) [.Return (some (.Call (.Name x p) [.Name er p1] [] p2)) p3] (tRet (tKind (gx X) kind i a cls d)) :=
    fun a oe cls d pn hz hv => pss_one (ps_ret (pe_kind F room hz hv hx hi (.inl hl) h1 h2 h3))
  refine (ps_try_as (Wout := W) (tb := fun W => liftS (gx X) W b) hs hf hN hi hl ⟨gy, h4, .inl my⟩ tk hb suite).imp fun Dn σ H ⟨w, δ, μ, e, L, S, h⟩ => ?_
  refine ⟨w, δ, μ, e, L, S, ?_⟩
  unfold sTryK at h
  cases q : b δ μ with
  | nx δ' μ' => rw [q] at h; exact h
  | bk δ' μ' => rw [q] at h; exact h
  | ct δ' μ' => rw [q] at h; exact h
  | rt x' μ' => rw [q] at h; exact h
  | bad => rw [q] at h; exact h.elim
  | ex c pp δ' μ' =>
    rw [q] at h
    cases pp with
    | some fs => exact h.elim
    | none =>
      dsimp only at h
      split at h
      · rename_i z hk
        split at h
        · rename_i hi'
          intro C d σ' w' g E' L' S' x'
          have ed : d = none := by
            cases d with
            | none => rfl
            | some ad => exact x'.elim
          refine ⟨true, ct c z C hk g, fun _ a ha => ?_, fun z => Bool.noConfusion z⟩
          refine ⟨List.getElem?_set_self (by rw [← S'.1]; exact hi'), ed, c, C, z, w', μ', rfl, g, hk, rfl, L', fun v w2 E2 L2 r2 => ?_⟩
          exact h v w2 (E'.trans E2) L2 (RelD.t r2)
        · exact h.elim
      · exact h.elim
/-- the suite: if kind(e) != z0: return False -/
theorem ls_tryQ {z0 : Str} {j1 j2 : Nat} {p5 p6 p7 : Pos} (F : FeKX X k x kind) (room : Room k X.A) (hx : Gl X x) (hs : X.stack = X.env :: X.outer) (hf : X.env.frame = some X.env.locals) (hN : X.N.Nodup) (hi : X.N[i]? = some er) (hl : X.env.kindOf er = some .local) (tk : Takes X W)
    (gy : Gl X y) (my : X.mg y = some (.ref Lp)) (ct : Caught X.K X.mg kind Lp) (hz0 : z0.length ≤ sizeLine) (hu : X.A.units + 64 < cLine)
    (hb : ∀ (W : WX) (pn : List (Addr × Obj)) (xe : Value → Shared → Prop), Takes (X.tr pn xe) W → PassesOwn (model X.prog X.w) X.A X.env xe → LSs (X.tr pn xe) W body b)
    (h1 : (er == ("__debug__" : Str)) = false := by decide) (h2 : (er == ("__classdict__" : Str)) = false := by decide) (h3 : (x == ("__debug__" : Str)) = false := by decide) (h4 : (y == ("__debug__" : Str)) = false := by decide) :
    LS X W (.Try body [.ExceptHandler (some (.Name y np)) (some er) [.If (.Compare (.Call (.Name x p) [.Name er p1] [] p2) [.NotEq] [.Constant (.str z0) j1 p3] p4) [.Return (some (.Constant (.bool false) j2 p5)) p6] [] p7] pos'] [] [] pos) (sTryQ kind i z0 b) := by
  have suite : ∀ (a : Addr) (oe : Obj) (cls : Value) (d : Option Addr) (pn : List (Addr × Obj)), Zc cls d oe → (∃ vs, oe.data = .fields vs) → ∃ r : R2, PSs (X.suite a ((a, oe) :: pn)) [.If (.Compare (.Call (.Name x p) [.Name er p1] [] p2) [.NotEq] [.Constant (.str z0) j1 p3] p4) [.Return (some (.Constant (.bool false) j2 p5)) p6] [] p7]
      (tIfS (tTest (tOp r (tKind (gx X) kind i a cls d) (tC (.str z0)))) (tRet (tC (.bl false))) tNext) ∧ ∀ (w : Wd) (μ : Mu) (p q : PyData) (b : Bool) (x y : V) (Q : VK), Live (gx X) w μ → cNe p q = some b → Now (gx X) w p x → Now (gx X) w q y → Q (.bl b) w.H → r x y w.H Q := by
    intro a oe cls d pn hz hv
    obtain ⟨r, o, kk⟩ := c_ne (X := X.suite a ((a, oe) :: pn)) hu
    exact ⟨r, pss_one (ps_if (pt_cmpR o (pe_kind F room hz hv hx hi (.inl hl) h1 h2 h3) pe_str (by rfl)) (pss_one (ps_ret pe_bl)) pss_nil), kk⟩
  have suite2 : ∀ (a : Addr) (oe : Obj) (cls : Value) (d : Option Addr) (pn : List (Addr × Obj)), Zc cls d oe → (∃ vs, oe.data = .fields vs) → PSs (X.suite a ((a, oe) :: pn)) [.If (.Compare (.Call (.Name x p) [.Name er p1] [] p2) [.NotEq] [.Constant (.str z0) j1 p3] p4) [.Return (some (.Constant (.bool false) j2 p5)) p6] [] p7]
      (fun Dn σ H => tKind (gx X) kind i a cls d σ H fun v H1 => ∃ (z : Str × Str) (w : Wd) (μ : Mu), kind z.1 = some z.2 ∧ w.H = H1 ∧ Live (gx X) w μ ∧ Rel (gx X) w (.str z.2) v ∧ ∃ b, cNe (.str z.2) (.str z0) = some b ∧ if b = true then Dn.rt (.bl false) H1 else Dn.nx σ H1) := by
    intro a oe cls d pn hz hv
    obtain ⟨r, hr, kk⟩ := suite a oe cls d pn hz hv
    refine hr.imp fun Dn σ H h => ?_
    obtain ⟨hs, hd, c, C, z, wd, μ, ec, mc, hk, eH, L, post⟩ := h
    refine ⟨hs, hd, c, C, z, wd, μ, ec, mc, hk, eH, L, fun v w' E' L' rv => ?_⟩
    obtain ⟨z', w2, μ2, _, e2, L2, rv2, b, hb, q⟩ := post v w' E' L' rv
    rw [← e2] at q ⊢
    refine kk w2 μ2 (.str z'.2) (.str z0) b v (.str z0) _ L2 hb (Now.of_rel rv2) (Now.of_rel (Rel.str hz0)) ⟨b, rfl, ?_⟩
    cases b with
    | true => exact q
    | false => exact q
  refine (ps_try_as (Wout := W) (tb := fun W => liftS (gx X) W b) hs hf hN hi hl ⟨gy, h4, .inl my⟩ tk hb suite2).imp fun Dn σ H ⟨w, δ, μ, e, L, S, h⟩ => ?_
  refine ⟨w, δ, μ, e, L, S, ?_⟩
  unfold sTryQ at h
  cases q : b δ μ with
  | nx δ' μ' => rw [q] at h; exact h
  | bk δ' μ' => rw [q] at h; exact h
  | ct δ' μ' => rw [q] at h; exact h
  | rt x' μ' => rw [q] at h; exact h
  | bad => rw [q] at h; exact h.elim
  | ex c pp δ' μ' =>
    rw [q] at h
    cases pp with
    | some fs => exact h.elim
    | none =>
      dsimp only at h
      split at h
      · rename_i z hk
        split at h
        · rename_i hi'
          intro C d σ' w' g E' L' S' x'
          have ed : d = none := by
            cases d with
            | none => rfl
            | some ad => exact x'.elim
          refine ⟨true, ct c z C hk g, fun _ a ha => ?_, fun z => Bool.noConfusion z⟩
          refine ⟨List.getElem?_set_self (by rw [← S'.1]; exact hi'), ed, c, C, z, w', μ', rfl, g, hk, rfl, L', fun v w2 E2 L2 r2 => ?_⟩
          refine ⟨(c, z), w2, μ', hk, rfl, L2, r2, ?_⟩
          split at h
          · rename_i hc
            exact ⟨true, hc, h (.bl false) w2 (E'.trans E2) L2 (RelD.t (Rel.bool false))⟩
          · rename_i hc
            refine ⟨false, hc, ?_⟩
            show Dn.nx ((σ'.set i (some (.ref a))).set i none) w2.H
            rw [List.set_set]
            exact h _ w2 (E'.trans E2) L2 ((S'.ext L' E2).setNone i)
          · exact h.elim
        · exact h.elim
      · exact h.elim
end
end TV

/-! TV, fourteenth part: tables of defs, the head's Hook with more to look at. -/
namespace TV
open PySem PySem.Spec PyProof.Rows L2

/-! ## a table of defs -/
def dTab (kvs : List (Str × DF)) (de : DE) (as : DA) : DE := fun δ μ => (de δ μ).bind fun x μ => match x with
  | .t (.str z) => match kvs.lookup z with
    | some F => (as δ μ).bind F
    | none => .bad
  | _ => .bad
def dInTab (ks : Str → Option Bool) (de : DE) : DT := fun δ μ => (de δ μ).bind fun x μ => match x with
  | .t (.str z) => match ks z with
    | some b => .ok (!b) μ
    | none => .bad
  | _ => .bad
section
variable {X : Cx} {W : WX} {k : Nat} {tb : Str} {Ta : Addr} {e a : Expr} {es : List Expr} {as : DA} {de : DE} {p p2 p3 pos : Pos} {kvs : List (Str × DF)}
theorem eval_call_sub (x y : Expr) (q : Pos) (args : List Expr) (pos : Pos) (env : Env) : eval (.Call (.Subscript x y q) args [] pos) env = (do
    callWith pos (← eval (.Subscript x y q) env) [] (backTo pos (starEach args env)) (backToKw pos (keywordEach [] env))) := rfl
theorem le_tab (D : ∀ z F, kvs.lookup z = some F → ∃ g f, KDct X.K X.w Ta z (.ref f) ∧ X.mg g = some (.ref f) ∧ FeX X k g F) (room : Room k X.A) (gd : X.A.guards = some []) (tk : Takes X W) (hg : Gl X tb) (hm : X.mg tb = some (.ref Ta)) (he : LE X W e de) (ha : LA X W (a :: es) as)
    (hix : PlainIx e := by exact fun _ _ => rfl) (hdb : (tb == ("__debug__" : Str)) = false := by decide)
    (hs : starEach (a :: es) X.env = (false, eval a X.env) :: starEach es X.env := by rfl) (hpl : (backTo pos (starEach es X.env)).any (·.1) = false := by rfl) : LE X W (.Call (.Subscript (.Name tb p) e p2) (a :: es) [] pos) (dTab kvs de as) := by
  refine ⟨fun pins s σ H Q I ⟨w, δ, μ, eH, L, S, h⟩ => ?_⟩
  rw [eval_call_sub]
  have sub : PE X (.Subscript (.Name tb p) e p2) _ := pe_ix (ix_kdict (X := X)) (pe_glob (pos := p) (v := .ref Ta) hg hm rfl hdb) he hix
  unfold dTab at h
  refine wpAny_bind (thn (sub.run pins s σ H (fun v H1 => ∃ F g f, v = .ref f ∧ X.mg g = some (.ref f) ∧ FeX X k g F ∧ ∃ w1 μ1, w1.H = H1 ∧ Live (gx X) w1 μ1 ∧ Slots (gx X) w1 δ σ ∧ Pst (gx X) W σ (RelD (gx X)) Q w1 ((as δ μ1).bind F)) I ?_) fun f s1 ⟨v, H1, I1, r1, F, g, fa, ev, mf, D1, w1, μ1, e1, L1, S1, h1⟩ => ?_)
  · refine ⟨w, δ, μ, eH, L, S, ?_⟩
    refine Pst.bind h fun x v w1 μ1 E1 L1 r1 h1 => ?_
    split at h1
    · rename_i z
      split at h1
      · rename_i F hF
        obtain ⟨g, f, kd, mf, D1⟩ := D z F hF
        rw [RelD, Rel] at r1
        obtain ⟨rfl, _⟩ := r1
        exact ⟨Ta, z, .ref f, rfl, rfl, kd, F, g, f, rfl, mf, D1, w1, μ1, rfl, L1, S.ext L E1, h1⟩
      · exact h1.elim
    · exact h1.elim
  · subst ev
    cases r1
    obtain ⟨f', fd, ps, hm', hk, bd, D2⟩ := D1.ex
    have ef : fa = f' := by
      rw [mf] at hm'
      exact Value.ref.inj (Option.some.inj hm')
    subst ef
    have first := ha.run pos pins s1 σ H1 _ I1 (call_lift (F := F) ⟨w1, δ, μ1, e1, L1, S1, h1⟩)
    exact PySem.W.callWith_K (h₀ := X.base) I1.ok.mod.kin hk (thn first fun us s2 ⟨vs, H2, I2, rv, want⟩ => ⟨I2.kIn, runG D2 room gd bd tk I2 rv want⟩) hs hpl
theorem lt_notInTab {es : Array DictEntry} {n : Nat} {ks : Str → Option Bool} (D : KDict X.K X.w Ta es n) (hk : ∀ z b, ks z = some b → ∃ r, PySem.W.nsIn X.K Ta z = some r ∧ r.isSome = b) (hg : Gl X tb) (hm : X.mg tb = some (.ref Ta)) (he : LE X W e de) (hmk : behindInMarks .NotIn (.Name tb p) = false := by rfl) (hdb : (tb == ("__debug__" : Str)) = false := by decide) :
    LT X W (.Compare e [.NotIn] [.Name tb p] pos) (dInTab ks de) := by
  refine (pt_cmpR (op_notIn_kd D) he (pe_glob (pos := p) (v := .ref Ta) hg hm rfl hdb) hmk).imp fun σ H Q ⟨w, δ, μ, eH, L, S, h⟩ => ?_
  refine ⟨w, δ, μ, eH, L, S, Pst.bind h fun x v w1 μ1 E1 L1 r1 h1 => ?_⟩
  split at h1
  · rename_i z
    split at h1
    · rename_i b hb
      obtain ⟨r, e1, e2⟩ := hk z b hb
      rw [RelD, Rel] at r1
      obtain ⟨rfl, _⟩ := r1
      refine ⟨z, r, rfl, rfl, e1, !b, by rw [e2], here_ok h1 L1 rfl⟩
    · exact h1.elim
  · exact h1.elim
end

/-! ## a def that is never called so deep -/
theorem fe_bad {P : Program} {w : World} {K : PySem.W.Frag} {mg : Str → Option Value} {base : Heap} {x : Str} {params : Arguments} {body : List Stmt} {scope : Scope} {f : Addr} {fd : FuncData} {ps : List Str} (F : FunD K x x params body scope [] [] f fd) (g : mg x = some (.ref f)) (bd : Binds K fd ps []) (k : Nat) :
    Fe P w K mg base k x (fun _ _ => .bad) :=
  ⟨f, fd, ps, g, F.kp, bd, ⟨fun _ _ _ => rfl, fun A outer s H args us vs Q E room gd e0 b rv ⟨w, xs, μ, e, L, r, h⟩ => h.elim⟩⟩

theorem u64_of {k : Nat} {A : Around} (r : Room k A) : A.units + 64 < cLine := by have := r.un; omega
theorem u65_of {k : Nat} {A : Around} (r : Room k A) : A.units + 65 < cLine := by have := r.un; omega
theorem u64H_of {k : Nat} {A : Around} (r : L2H.RoomH k A) : A.units + 64 < cLine := by have := r.un; omega
theorem u65H_of {k : Nat} {A : Around} (r : L2H.RoomH k A) : A.units + 65 < cLine := by have := r.un; omega
/-! ## the Hook -/
abbrev AlE : Type := Bool × He.AlT
def obsE (fa : List He.Fa) (fn : List He.DefD) (ts : List He.Tab) (ex : PySem.W.Frag → Bool) (K : PySem.W.Frag) : AlE := (ex K, He.obsT fa fn ts K)
def valE (fn : List He.DefD) (ts : List He.Tab) (w : World) : AlE := (true, He.valT fn ts w)
def obsEG (n : Nat) (fa : List He.Fa) (fn : List He.DefD) (ts : List He.Tab) (ex : PySem.W.Frag → Bool) (g : Addr → Option Obj) : AlE := obsE fa fn ts ex (He.frG g (cStatics :: He.asD g n))
def SaysE (fa : List He.Fa) (fn : List He.DefD) (ts : List He.Tab) (ex : PySem.W.Frag → Bool) (w : World) (K : PySem.W.Frag) : Prop := obsE fa fn ts ex K = valE fn ts w
def hookE (n : Nat) (fa : List He.Fa) (fn : List He.DefD) (ts : List He.Tab) (ex : PySem.W.Frag → Bool) : PySem.W.Hook where
  α := AlE
  obs := fun s => obsEG n fa fn ts ex s.heap.get?
  val := fun w => valE fn ts w
  says := fun w h => ∃ K : PySem.W.Frag, K.In h ∧ SaysE fa fn ts ex w K
  of := fun _ _ e => ⟨_, He.frG_in, e⟩
  keeps := fun _ _ _ ⟨K, kin, c⟩ k => ⟨K, PySem.W.Frag.In.keeps kin k, c⟩
theorem obsEG_eq {n : Nat} {fa : List He.Fa} {fn : List He.DefD} {ts : List He.Tab} {ex : PySem.W.Frag → Bool} {g : Addr → Option Obj} {s : Shared} (h : ∀ a, g a = s.heap.get? a) : obsEG n fa fn ts ex g = (hookE n fa fn ts ex).obs s := by
  have e : g = s.heap.get? := funext h
  rw [e]
  rfl
section
variable {fa : List He.Fa} {fn : List He.DefD} {ts : List He.Tab} {ex : PySem.W.Frag → Bool} {w : World} {K : PySem.W.Frag}
theorem SaysE.t (c : SaysE fa fn ts ex w K) : He.SaysT fa fn ts w K := congrArg (fun z : AlE => z.2) c
theorem SaysE.d (c : SaysE fa fn ts ex w K) : He.SaysD fa fn K := c.t.d
theorem SaysE.x (c : SaysE fa fn ts ex w K) : ex K = true := congrArg (fun z : AlE => z.1) c
end
/-- what an own class says of its instances -/
def excB (K : PySem.W.Frag) (x : Str) : Bool :=
  He.eqO (PySem.W.findIn K (.ref (He.ga K x)) "__getattribute__") (some (some (.builtin "BaseException.__getattribute__"))) && He.eqO (PySem.W.findIn K (.ref (He.ga K x)) "__getattr__") (some none) && decide (PySem.W.subIn K (.ref (He.ga K x)) (.type "BaseException") = some true)
    && PySem.W.hasDictIn K (He.ga K x) && He.eqO (PySem.W.findIn K (.ref (He.ga K x)) "__class__") (some (some (.builtin "object.__class__"))) && He.eqO (PySem.W.specialIn K (.builtin "object.__class__") "__get__") (some (some (.builtin "getset_descriptor.__get__")))
    && decide (PySem.W.takesIn K (.builtin "object.__class__") = some true) && decide (PySem.W.mroIn K (He.ga K x) (.type "object") = some true)
theorem excB_ok {K : PySem.W.Frag} {x : Str} (h : excB K x = true) : ExcC K (He.ga K x) := by
  unfold excB at h
  simp only [Bool.and_eq_true, decide_eq_true_eq] at h
  obtain ⟨⟨⟨⟨⟨⟨⟨h1, h2⟩, h3⟩, h4⟩, h5⟩, h6⟩, h7⟩, h8⟩ := h
  exact ⟨He.eqO_ok h1, He.eqO_ok h2, h3, h4, He.eqO_ok h5, He.eqO_ok h6, h7, h8⟩
/-- all these classes, told from each other -/
def exmB (K : PySem.W.Frag) (xs ys : List Str) : Bool := xs.all fun x => ys.all fun y => decide (PySem.W.exmOne K (.ref (He.ga K x)) (.ref (He.ga K y)) = some (decide (x = y)))
def underB (K : PySem.W.Frag) (xs : List Str) (y : Str) : Bool := xs.all fun x => decide (PySem.W.exmOne K (.ref (He.ga K x)) (.ref (He.ga K y)) = some true)
theorem exmB_ok {K : PySem.W.Frag} {xs ys : List Str} (h : exmB K xs ys = true) {x y : Str} (hx : x ∈ xs) (hy : y ∈ ys) : PySem.W.exmOne K (.ref (He.ga K x)) (.ref (He.ga K y)) = some (decide (x = y)) :=
  of_decide_eq_true (List.all_eq_true.mp (List.all_eq_true.mp h x hx) y hy)
theorem underB_ok {K : PySem.W.Frag} {xs : List Str} {y : Str} (h : underB K xs y = true) {x : Str} (hx : x ∈ xs) : PySem.W.exmOne K (.ref (He.ga K x)) (.ref (He.ga K y)) = some true :=
  of_decide_eq_true (List.all_eq_true.mp h x hx)
/-- keys a table has, keys it has not -/
def keysB (K : PySem.W.Frag) (a : Addr) (no : List Str) : Bool := no.all fun z => He.eqO (PySem.W.nsIn K a z) (some none)
theorem keysB_ok {K : PySem.W.Frag} {a : Addr} {no : List Str} (h : keysB K a no = true) {z : Str} (hz : z ∈ no) : PySem.W.nsIn K a z = some none := He.eqO_ok (List.all_eq_true.mp h z hz)
theorem exc_fact {K : PySem.W.Frag} {h : Heap} {mg : Str → Option Value} {x : Str} (kin : K.In h) (G : h.Ns mainGlobals mg) (c : (He.Fa.exc x).ok K = true) (g : (He.Fa.glo x).ok K = true) : ExcF K mg x := by
  obtain ⟨h1, h2, h3, h4⟩ := He.exc_ok c
  exact ⟨He.ga K x, He.glo_ok kin G g, h1, h2, h3, h4⟩
end TV

/-! TV, fifteenth part: plain laws about loops and comprehensions. -/
namespace TV
open PySem PySem.Spec PyProof.Rows L2

theorem bind_ok {α β : Type} (a : α) (μ : Mu) (k : α → Mu → R β) : (R.ok a μ).bind k = k a μ := rfl
theorem bind_ex {α β : Type} (c : Str) (p : Option (List (Str × PyData))) (μ : Mu) (k : α → Mu → R β) : (R.ex c p μ : R α).bind k = .ex c p μ := rfl
theorem seq_nx (δ : Sl) (μ : Mu) (k : DS) : (RS.nx δ μ).seq k = k δ μ := rfl
theorem seq_rt (x : D) (μ : Mu) (k : DS) : (RS.rt x μ).seq k = .rt x μ := rfl
theorem seq_bk (δ : Sl) (μ : Mu) (k : DS) : (RS.bk δ μ).seq k = .bk δ μ := rfl
theorem seq_ct (δ : Sl) (μ : Mu) (k : DS) : (RS.ct δ μ).seq k = .ct δ μ := rfl
theorem seq_ex (c : Str) (p : Option (List (Str × PyData))) (δ : Sl) (μ : Mu) (k : DS) : (RS.ex c p δ μ).seq k = .ex c p δ μ := rfl
theorem toS_ok {α : Type} (a : α) (μ : Mu) (δ : Sl) (k : α → Mu → RS) : (R.ok a μ).toS δ k = k a μ := rfl
theorem toS_ex {α : Type} (c : Str) (p : Option (List (Str × PyData))) (μ : Mu) (δ : Sl) (k : α → Mu → RS) : (R.ex c p μ : R α).toS δ k = .ex c p δ μ := rfl
theorem nox_ok {α : Type} (a : α) (μ : Mu) : nox (R.ok a μ) = .ok a μ := rfl

theorem mkF_rt {n m : Nat} {live : Bool} {b : DS} {args : List D} {μ μ' : Mu} {x : D} (hn : args.length = n) (e : b (args.map some ++ List.replicate m none) μ = .rt x μ') : mkF n m live b args μ = gc live μ.length x μ' := by
  unfold mkF
  rw [if_pos hn, e]
theorem mkF_t {n m : Nat} {live : Bool} {b : DS} {args : List D} {μ μ' : Mu} {x : PyData} (hn : args.length = n) (e : b (args.map some ++ List.replicate m none) μ = .rt (.t x) μ') (hl : μ'.length = μ.length) : mkF n m live b args μ = .ok (.t x) μ' := by
  rw [mkF_rt hn e]
  unfold gc
  dsimp only
  rw [List.take_of_length_le (by omega)]
theorem mkF_nx {n m : Nat} {live : Bool} {b : DS} {args : List D} {μ μ' : Mu} {δ : Sl} (hn : args.length = n) (e : b (args.map some ++ List.replicate m none) μ = .nx δ μ') (hl : μ'.length = μ.length) : mkF n m live b args μ = .ok (.t .none) μ' := by
  unfold mkF
  rw [if_pos hn, e]
  unfold gc
  dsimp only
  rw [List.take_of_length_le (by omega)]
theorem mkF_ex {n m : Nat} {live : Bool} {b : DS} {args : List D} {μ μ' : Mu} {δ : Sl} {c : Str} {p : Option (List (Str × PyData))} (hn : args.length = n) (e : b (args.map some ++ List.replicate m none) μ = .ex c p δ μ') (hl : μ'.length = μ.length) : mkF n m live b args μ = .ex c p μ' := by
  unfold mkF
  rw [if_pos hn, e]
  dsimp only
  rw [List.take_of_length_le (by omega)]
/-! ## for -/
theorem forL_inv {ok : Mu → Bool} {g : DG} {s : DS} (I : Nat → Sl → Mu → Prop) (N : Nat) (hok : ∀ μ, ok μ = true) : ∀ (xs : List PyData) (i : Nat) (δ : Sl) (μ : Mu), I i δ μ → i + xs.length ≤ N →
    (∀ x ∈ xs, ∀ i δ μ, i < N → I i δ μ → ∃ δ1 μ1 δ2 μ2, g (.t x) δ μ = .nx δ1 μ1 ∧ I (i + 1) δ2 μ2 ∧ (s δ1 μ1 = .nx δ2 μ2 ∨ s δ1 μ1 = .ct δ2 μ2 ∨ s δ1 μ1 = .bk δ2 μ2)) →
    ∃ j δ' μ', j ≤ N ∧ forL ok g s xs δ μ = .nx δ' μ' ∧ I j δ' μ'
  | [], i, δ, μ, h, hN, _ => ⟨i, δ, μ, by simpa using hN, by rw [forL, hok]; rfl, h⟩
  | x :: xs, i, δ, μ, h, hN, step => by
    rw [List.length_cons] at hN
    obtain ⟨δ1, μ1, δ2, μ2, e1, h2, e2⟩ := step x (by simp) i δ μ (by omega) h
    rw [forL, hok, if_pos rfl, e1]
    dsimp only
    rcases e2 with e2 | e2 | e2
    · obtain ⟨j, δ', μ', hj, e, hI⟩ := forL_inv I N hok xs (i + 1) δ2 μ2 h2 (by omega) fun y hy => step y (by simp [hy])
      exact ⟨j, δ', μ', hj, by rw [e2]; exact e, hI⟩
    · obtain ⟨j, δ', μ', hj, e, hI⟩ := forL_inv I N hok xs (i + 1) δ2 μ2 h2 (by omega) fun y hy => step y (by simp [hy])
      exact ⟨j, δ', μ', hj, by rw [e2]; exact e, hI⟩
    · exact ⟨i + 1, δ2, μ2, by omega, by rw [e2], h2⟩
/-- a loop that gives back v at the first bad item -/
theorem forL_find {ok : Mu → Bool} {g : DG} {s : DS} {v : D} {μ : Mu} (I : Sl → Prop) (bad : PyData → Bool) (hok : ok μ = true) : ∀ (xs : List PyData) (δ : Sl), I δ →
    (∀ x ∈ xs, ∀ δ, I δ → ∃ δ1 δ2, g (.t x) δ μ = .nx δ1 μ ∧ I δ2 ∧ s δ1 μ = if bad x then .rt v μ else .nx δ2 μ) →
    (xs.any bad = true → forL ok g s xs δ μ = .rt v μ) ∧ (xs.any bad = false → ∃ δ', forL ok g s xs δ μ = .nx δ' μ ∧ I δ')
  | [], δ, h, _ => ⟨fun z => by simp at z, fun _ => ⟨δ, by rw [forL, hok]; rfl, h⟩⟩
  | x :: xs, δ, h, step => by
    obtain ⟨δ1, δ2, e1, h2, e2⟩ := step x (by simp) δ h
    rw [forL, hok, if_pos rfl, e1]
    dsimp only
    cases hb : bad x with
    | true =>
      rw [hb] at e2
      refine ⟨fun _ => by rw [e2]; rfl, fun z => ?_⟩
      rw [List.any_cons, hb] at z
      cases z
    | false =>
      rw [hb] at e2
      obtain ⟨a, b⟩ := forL_find I bad hok xs δ2 h2 fun y hy => step y (by simp [hy])
      rw [List.any_cons, hb, Bool.false_or]
      refine ⟨fun z => ?_, fun z => ?_⟩
      · rw [e2]; exact a z
      · obtain ⟨δ', e, h3⟩ := b z
        exact ⟨δ', by rw [e2]; exact e, h3⟩

/-! ## comprehensions -/
theorem set_self' {α : Type} : ∀ {l : List α} {k : Nat} {a : α}, l[k]? = some a → l.set k a = l
  | [], _, _, h => by simp at h
  | x :: l, 0, a, h => by simp at h; simp [h]
  | x :: l, k + 1, a, h => by
    rw [List.getElem?_cons_succ] at h
    rw [List.set_cons_succ, set_self' h]
/-- each item's value alone -/
theorem lcL_map {p : It'} {g : DG} {dt : DT} {de : DE} {δ0 : Sl} {k : Nat} (f : PyData → PyData) (b : PyData → Bool) (hp : p.2 = none) : ∀ (xs : List PyData) (μ : Mu) (acc : List PyData), μ[k]? = some (.l acc) → acc.length + xs.length ≤ sizeLine →
    (∀ x ∈ xs, ∀ μ', μ'.length = μ.length → ∃ δ1, g (.t x) δ0 μ' = .nx δ1 μ' ∧ dt δ1 μ' = .ok (b x) μ' ∧ (b x = true → de δ1 μ' = .ok (.t (f x)) μ')) → lcL p g dt de δ0 k xs μ = .ok () (μ.set k (.l (acc ++ (xs.filter b).map f)))
  | [], μ, acc, h, _, _ => by
    have e : chk p μ = true := by unfold chk; rw [hp]
    rw [lcL, e, if_pos rfl]
    simp [set_self' h]
  | x :: xs, μ, acc, h, z, step => by
    have e : chk p μ = true := by unfold chk; rw [hp]
    obtain ⟨δ1, e1, e2, e3⟩ := step x (by simp) μ rfl
    have hk : k < μ.length := (List.getElem?_eq_some_iff.mp h).1
    rw [lcL, e, if_pos rfl, e1]
    dsimp only
    rw [e2, nox_ok, bind_ok]
    rw [List.length_cons] at z
    cases hb : b x with
    | false =>
      rw [if_neg Bool.false_ne_true, List.filter_cons_of_neg (by rw [hb]; exact Bool.false_ne_true)]
      exact lcL_map f b hp xs μ acc h (by omega) fun y hy => step y (by simp [hy])
    | true =>
      rw [if_pos rfl, e3 hb, nox_ok, bind_ok]
      have pu : pushAt k (.t (f x)) μ = some (μ.set k (.l (acc ++ [f x]))) := by
        unfold pushAt
        rw [h]
        exact if_pos (by omega)
      rw [pu]
      dsimp only
      rw [lcL_map f b hp xs (μ.set k (.l (acc ++ [f x]))) (acc ++ [f x]) (List.getElem?_set_self hk) (by rw [List.length_append, List.length_singleton]; omega) fun y hy μ' hμ => step y (by simp [hy]) μ' (by rw [hμ, List.length_set])]
      rw [List.set_set, List.filter_cons_of_pos hb, List.map_cons, List.append_assoc]
      rfl
theorem dLc_map {vs : List Nat} {di : DI} {g : DG} {dt : DT} {de : DE} {δ : Sl} {μ : Mu} {xs : List PyData} (f : PyData → PyData) (b : PyData → Bool) (hi : di δ μ = .ok (xs, none) μ) (z : xs.length ≤ sizeLine)
    (h : ∀ x ∈ xs, ∀ μ', μ'.length = μ.length + 1 → ∃ δ1, g (.t x) (wipeD δ vs) μ' = .nx δ1 μ' ∧ dt δ1 μ' = .ok (b x) μ' ∧ (b x = true → de δ1 μ' = .ok (.t (f x)) μ')) : dLc false vs di g dt de δ μ = .ok (.t (.list ((xs.filter b).map f))) μ := by
  unfold dLc
  rw [hi, bind_ok]
  dsimp only
  have k0 : (μ ++ [O.l []])[μ.length]? = some (.l []) := by simp
  have e := lcL_map (p := (xs, none)) (g := g) (dt := dt) (de := de) (δ0 := wipeD δ vs) f b rfl xs (μ ++ [O.l []]) [] k0 (by simpa using z) fun x hx μ' hμ => h x hx μ' (by rw [hμ]; simp)
  rw [e, bind_ok]
  unfold lcEnd
  rw [List.getElem?_set_self (by simp)]
  simp
/-- .. of all items -/
theorem dLc_all {vs : List Nat} {di : DI} {g : DG} {de : DE} {δ : Sl} {μ : Mu} {xs : List PyData} (f : PyData → PyData) (hi : di δ μ = .ok (xs, none) μ) (z : xs.length ≤ sizeLine)
    (h : ∀ x ∈ xs, ∀ μ', μ'.length = μ.length + 1 → ∃ δ1, g (.t x) (wipeD δ vs) μ' = .nx δ1 μ' ∧ de δ1 μ' = .ok (.t (f x)) μ') : dLc false vs di g dYes de δ μ = .ok (.t (.list (xs.map f))) μ := by
  have e := dLc_map (vs := vs) (g := g) (dt := dYes) (de := de) f (fun _ => true) hi z fun x hx μ' hμ => (fun ⟨δ1, a, b⟩ => ⟨δ1, a, rfl, fun _ => b⟩) (h x hx μ' hμ)
  rw [e, List.filter_eq_self.mpr fun _ _ => rfl]

/-! ## step by step -/
theorem dLst_ok {as : DA} {δ : Sl} {μ μ' : Mu} {xs : List D} {ps : List PyData} (h : as δ μ = .ok xs μ') (e : allT xs = some ps) (z : xs.length ≤ 1000) : dLst false as δ μ = .ok (.t (.list ps)) μ' := by
  unfold dLst
  rw [h, bind_ok]
  unfold mkLst
  rw [if_pos (Nat.le_trans z (by rw [sizeLine_eq]; decide)), e]
  rfl
theorem dTup_ok {as : DA} {δ : Sl} {μ μ' : Mu} {xs : List D} {ps : List PyData} (h : as δ μ = .ok xs μ') (e : allT xs = some ps) (z : xs.length ≤ 1000) : dTup as δ μ = .ok (.t (.tuple ps)) μ' := by
  unfold dTup
  rw [h, bind_ok]
  unfold mkTup
  rw [if_pos (Nat.le_trans z (by rw [sizeLine_eq]; decide)), e]
theorem cons_ok {a : DE} {r : DA} {δ : Sl} {μ μ1 μ2 : Mu} {x : D} {xs : List D} (h : a δ μ = .ok x μ1) (h2 : r δ μ1 = .ok xs μ2) : dCons a r δ μ = .ok (x :: xs) μ2 := by
  unfold dCons
  rw [h, bind_ok, h2, bind_ok]
theorem set_ok' {i : Nat} {d : DE} {δ : Sl} {μ μ' : Mu} {x : D} (h : d δ μ = .ok x μ') : sSet i d δ μ = .nx (δ.set i (some x)) μ' := by
  unfold sSet
  rw [h, toS_ok]
theorem seq_ok {a b : DS} {δ δ' : Sl} {μ μ' : Mu} (h : a δ μ = .nx δ' μ') : sSeq a b δ μ = b δ' μ' := by
  unfold sSeq
  rw [h, seq_nx]
theorem seq_out {a b : DS} {δ : Sl} {μ μ' : Mu} {x : D} (h : a δ μ = .rt x μ') : sSeq a b δ μ = .rt x μ' := by
  unfold sSeq
  rw [h, seq_rt]
theorem ret_ok {d : DE} {δ : Sl} {μ μ' : Mu} {x : D} (h : d δ μ = .ok x μ') : sRet d δ μ = .rt x μ' := by
  unfold sRet
  rw [h, toS_ok]
theorem if_t {c : DT} {a b : DS} {δ : Sl} {μ μ' : Mu} (h : c δ μ = .ok true μ') : sIf c a b δ μ = a δ μ' := by
  unfold sIf
  rw [h, toS_ok, if_pos rfl]
theorem if_f {c : DT} {a b : DS} {δ : Sl} {μ μ' : Mu} (h : c δ μ = .ok false μ') : sIf c a b δ μ = b δ μ' := by
  unfold sIf
  rw [h, toS_ok, if_neg Bool.false_ne_true]
theorem call1_ok {F : DF} {a : DE} {δ : Sl} {μ μ1 : Mu} {x : D} {r : R D} (h : a δ μ = .ok x μ1) (e : F [x] μ1 = r) : dCall F (dCons a dNil) δ μ = r := by
  unfold dCall
  rw [cons_ok h rfl, bind_ok, e]
theorem call2_ok {F : DF} {a b : DE} {δ : Sl} {μ μ1 μ2 : Mu} {x y : D} {r : R D} (h : a δ μ = .ok x μ1) (h2 : b δ μ1 = .ok y μ2) (e : F [x, y] μ2 = r) : dCall F (dCons a (dCons b dNil)) δ μ = r := by
  unfold dCall
  rw [cons_ok h (cons_ok h2 rfl), bind_ok, e]
theorem isE_ok {a : Addr} {b : Bool} {r : Sl} {μ : Mu} : dIsE 0 a b (some (.ref a) :: r) μ = .ok (.t (.bool b)) μ := by simp [dIsE]

/-! ## draws -/
/-- drawn numbers: not too many, each below 1000 -/
def Good (ds : List Int) : Prop := ds.length ≤ 20000 ∧ ∀ d ∈ ds, 0 ≤ d ∧ d < 1000
/-- the live list k holds draws -/
def Dr (k : Nat) (μ : Mu) : Prop := ∃ ds, Good ds ∧ μ[k]? = some (.l (ds.map .int))
/-- only the draws at k have moved on -/
def Mv (k : Nat) (μ μ' : Mu) : Prop := ∃ ds, Good ds ∧ μ' = μ.set k (.l (ds.map .int))
theorem Dr.lt {k : Nat} {μ : Mu} (h : Dr k μ) : k < μ.length := by
  obtain ⟨ds, _, e⟩ := h
  exact (List.getElem?_eq_some_iff.mp e).1
theorem Mv.refl {k : Nat} {μ : Mu} (h : Dr k μ) : Mv k μ μ := by
  obtain ⟨ds, g, e⟩ := h
  exact ⟨ds, g, (set_self' e).symm⟩
theorem Mv.trans {k : Nat} {a b c : Mu} (x : Mv k a b) (y : Mv k b c) : Mv k a c := by
  obtain ⟨ds, _, rfl⟩ := x
  obtain ⟨es, g, rfl⟩ := y
  exact ⟨es, g, by rw [List.set_set]⟩
theorem Mv.dr {k : Nat} {a b : Mu} (x : Mv k a b) (h : k < a.length) : Dr k b := by
  obtain ⟨ds, g, rfl⟩ := x
  exact ⟨ds, g, List.getElem?_set_self h⟩
theorem Mv.len {k : Nat} {a b : Mu} (x : Mv k a b) : b.length = a.length := by
  obtain ⟨ds, g, rfl⟩ := x
  rw [List.length_set]
theorem Mv.other {k j : Nat} {a b : Mu} (x : Mv k a b) (h : k ≠ j) : b[j]? = a[j]? := by
  obtain ⟨ds, g, rfl⟩ := x
  rw [List.getElem?_set_ne h]
/-- a comprehension that draws -/
theorem lcL_draw {p : It'} {g : DG} {de : DE} {δ0 : Sl} {k j : Nat} (P : PyData → Prop) (hp : p.2 = none) (hjk : j ≠ k) : ∀ (xs : List PyData) (μ : Mu) (acc : List PyData), μ[k]? = some (.l acc) → acc.length + xs.length ≤ sizeLine → Dr j μ →
    (∀ x ∈ xs, ∀ μ', μ'.length = μ.length → Dr j μ' → ∃ δ1 y μ2, g (.t x) δ0 μ' = .nx δ1 μ' ∧ de δ1 μ' = .ok (.t y) μ2 ∧ P y ∧ Mv j μ' μ2) →
    ∃ ys ds, lcL p g dYes de δ0 k xs μ = .ok () ((μ.set j (.l (ds.map .int))).set k (.l (acc ++ ys))) ∧ Good ds ∧ ys.length = xs.length ∧ ∀ y ∈ ys, P y
  | [], μ, acc, h, _, ⟨ds, gd, e⟩, _ => by
    have ec : chk p μ = true := by unfold chk; rw [hp]
    refine ⟨[], ds, ?_, gd, rfl, by simp⟩
    rw [lcL, ec, if_pos rfl, set_self' e, List.append_nil, set_self' h]
  | x :: xs, μ, acc, h, z, hd, step => by
    have ec : chk p μ = true := by unfold chk; rw [hp]
    obtain ⟨δ1, y, μ2, e1, e2, hP, mv⟩ := step x (by simp) μ rfl hd
    have hk : k < μ.length := (List.getElem?_eq_some_iff.mp h).1
    have h2 : μ2[k]? = some (.l acc) := by rw [mv.other hjk]; exact h
    rw [List.length_cons] at z
    have pu : pushAt k (.t y) μ2 = some (μ2.set k (.l (acc ++ [y]))) := by
      unfold pushAt
      rw [h2]
      exact if_pos (by omega)
    have dr2 : Dr j (μ2.set k (.l (acc ++ [y]))) := by
      obtain ⟨ds, gd, e⟩ := mv.dr hd.lt
      exact ⟨ds, gd, by rw [List.getElem?_set_ne (Ne.symm hjk)]; exact e⟩
    obtain ⟨ys, ds, e, gd, hl, hPs⟩ := lcL_draw P hp hjk xs (μ2.set k (.l (acc ++ [y]))) (acc ++ [y]) (List.getElem?_set_self (by rw [mv.len]; exact hk)) (by rw [List.length_append, List.length_singleton]; omega) dr2
      fun w hw μ' hμ => step w (by simp [hw]) μ' (by rw [hμ, List.length_set, mv.len])
    refine ⟨y :: ys, ds, ?_, gd, by simp [hl], fun w hw => ?_⟩
    · have dy : ∀ μ', dYes δ1 μ' = .ok true μ' := fun _ => rfl
      rw [lcL, ec, if_pos rfl, e1]
      dsimp only
      rw [dy, nox_ok, bind_ok, if_pos rfl, e2, nox_ok, bind_ok, pu]
      dsimp only
      rw [e]
      obtain ⟨d0, _, rfl⟩ := mv
      rw [List.set_comm _ _ hjk, List.set_set, List.set_comm _ _ (Ne.symm hjk), List.set_set, List.append_assoc]
      rfl
    · rcases List.mem_cons.mp hw with rfl | hw
      · exact hP
      · exact hPs w hw
theorem dLc_draw {vs : List Nat} {di : DI} {g : DG} {de : DE} {δ : Sl} {μ μ0 : Mu} {xs : List PyData} {j : Nat} (P : PyData → Prop) (hi : di δ μ0 = .ok (xs, none) μ) (z : xs.length ≤ sizeLine) (hd : Dr j μ)
    (h : ∀ x ∈ xs, ∀ μ', μ'.length = μ.length + 1 → Dr j μ' → ∃ δ1 y μ2, g (.t x) (wipeD δ vs) μ' = .nx δ1 μ' ∧ de δ1 μ' = .ok (.t y) μ2 ∧ P y ∧ Mv j μ' μ2) :
    ∃ ys μ', dLc false vs di g dYes de δ μ0 = .ok (.t (.list ys)) μ' ∧ Mv j μ μ' ∧ ys.length = xs.length ∧ ∀ y ∈ ys, P y := by
  have hj := hd.lt
  have k0 : (μ ++ [O.l []])[μ.length]? = some (.l []) := by simp
  have d0 : Dr j (μ ++ [O.l []]) := by
    obtain ⟨ds, gd, e⟩ := hd
    exact ⟨ds, gd, by rw [List.getElem?_append_left hj]; exact e⟩
  obtain ⟨ys, ds, e, gd, hl, hP⟩ := lcL_draw (p := (xs, none)) (g := g) (de := de) (δ0 := wipeD δ vs) P rfl (Nat.ne_of_lt hj) xs (μ ++ [.l []]) [] k0 (by simpa using z) d0 fun x hx μ' hμ => h x hx μ' (by rw [hμ]; simp)
  refine ⟨ys, μ.set j (.l (ds.map .int)), ?_, ⟨ds, gd, rfl⟩, hl, hP⟩
  unfold dLc
  rw [hi, bind_ok, e, bind_ok]
  unfold lcEnd
  rw [List.getElem?_set_self (by simp)]
  rw [List.set_append_left _ _ hj, List.set_append_right _ _ (by simp)]
  simp
end TV

/-! TV, sixteenth part: instances of own classes, their fields and methods. -/
namespace TV
open PySem PySem.Spec PyProof.Rows L2

abbrev Fs := List (Str × PyData)
def insOf (μ : Mu) : D → Option (Str × Fs)
  | .lst n => match μ[n]? with
    | some (.ins c fs) => some (c, fs)
    | _ => none
  | _ => none
/-- a field anew -/
def putP (f : Str) (y : PyData) : Fs → Fs
  | [] => [(f, y)]
  | (g, z) :: r => if g = f then (g, y) :: r else (g, z) :: putP f y r
section
variable {G : Gd} {w w' : Wd} {μ : Mu}
theorem RelF.length : ∀ {fs : Fs} {vs : List (Str × V)}, RelF G w fs vs → fs.length = vs.length
  | [], _, h => by rw [RelF] at h; subst h; rfl
  | (n, d) :: fs, vs, h => by
    rw [RelF] at h
    obtain ⟨v, r, rfl, _, h2⟩ := h
    rw [List.length_cons, List.length_cons, h2.length]
theorem RelF.lookup {f : Str} : ∀ {fs : Fs} {vs : List (Str × V)}, RelF G w fs vs → match fs.lookup f with
    | some d => ∃ v, vs.lookup f = some v ∧ Rel G w d v
    | none => vs.lookup f = none
  | [], _, h => by rw [RelF] at h; subst h; rfl
  | (n, d) :: fs, vs, h => by
    rw [RelF] at h
    obtain ⟨v, r, rfl, h1, h2⟩ := h
    rw [List.lookup, List.lookup]
    cases q : (f == n) with
    | true => exact ⟨v, rfl, h1⟩
    | false => exact h2.lookup
theorem insOf_ok {x : D} {v : V} {c : Str} {fs : Fs} (L : Live G w μ) (r : RelD G w x v) (e : insOf μ x = some (c, fs)) : ∃ n C dx vfs, x = .lst n ∧ n < w.N ∧ v = .ref (w.m n) ∧ w.H (w.m n) = some (.ins C dx vfs) ∧ G.mg c = some (.ref C) ∧ RelF G w fs vfs := by
  unfold insOf at e
  split at e
  · rename_i n
    split at e
    · rename_i c' fs' e1
      cases e
      rw [RelD] at r
      obtain ⟨ho, z, hh⟩ := L.at_ n _ e1
      cases ho with
      | ins C dx vfs => exact ⟨n, C, dx, vfs, rfl, r.1, r.2, z, hh.1, hh.2⟩
      | _ => exact hh.elim
    · cases e
  · cases e
theorem RelF.put {f : Str} {y : PyData} {v : V} (h : Rel G w y v) : ∀ {fs : Fs} {vs : List (Str × V)}, RelF G w fs vs → RelF G w (putP f y fs) (putF f v vs)
  | [], vs, h2 => by
    rw [RelF] at h2
    subst h2
    show RelF G w [(f, y)] (putF f v [])
    unfold putF
    rw [RelF]
    exact ⟨v, [], rfl, h, by rw [RelF]⟩
  | (g, z) :: fs, vs, h2 => by
    rw [RelF] at h2
    obtain ⟨u, r, rfl, h1, h3⟩ := h2
    unfold putP putF
    by_cases q : g = f
    · subst q
      first
        | (rw [if_pos rfl, if_pos rfl, RelF]; exact ⟨v, r, rfl, h, h3⟩)
        | (rw [if_pos rfl, if_pos (beq_self_eq_true _), RelF]; exact ⟨v, r, rfl, h, h3⟩)
    · first
        | (rw [if_neg q, if_neg q, RelF]; exact ⟨u, _, rfl, h1, RelF.put h h3⟩)
        | (rw [if_neg q, if_neg (by simpa using q), RelF]; exact ⟨u, _, rfl, h1, RelF.put h h3⟩)
        | (rw [if_neg q, if_neg (fun z => q z.symm), RelF]; exact ⟨u, _, rfl, h1, RelF.put h h3⟩)
end
/-- what a class's instances ask -/
structure InsC (K : PySem.W.Frag) (mg : Str → Option Value) (c : Str) : Prop where
  cl : ∀ C, mg c = some (.ref C) → Cls K C
structure FldC (K : PySem.W.Frag) (mg : Str → Option Value) (c f : Str) : Prop where
  cl : ∀ C, mg c = some (.ref C) → Cls K C ∧ NoAttr K C f
def dFld (c f : Str) (a : DE) : DE := fun δ μ => (a δ μ).bind fun x μ => match insOf μ x with
  | some (c', fs) => if c' = c then (match fs.lookup f with
    | some d => .ok (.t d) μ
    | none => .bad) else .bad
  | none => .bad
def sFldP (c f : Str) (o d : DE) : DS := fun δ μ => (d δ μ).toS δ fun y μ => (o δ μ).toS δ fun x μ => match x, y, insOf μ x with
  | .lst n, .t q, some (c', fs) => if c' = c ∧ fs.length < 900 then .nx δ (μ.set n (.ins c (putP f q fs))) else .bad
  | _, _, _ => .bad
def sFldA (c f : Str) (g : PyData → PyData → Option PyData) (o d : DE) : DS := fun δ μ => (o δ μ).toS δ fun x μ => match x, insOf μ x with
  | .lst n, some (c', fs) => if c' = c then (match fs.lookup f with
    | some p => (d δ μ).toS δ fun y μ => match rd μ y, insOf μ (.lst n) with
      | some q, some (c2, fs2) => if c2 = c ∧ fs2.length < 900 ∧ flatP p then (match g p q with
        | some r => .nx δ (μ.set n (.ins c (putP f r fs2)))
        | none => .bad) else .bad
      | _, _ => .bad
    | none => .bad) else .bad
  | _, _ => .bad
section
variable {X : Cx} {W : WX} {o e value : Expr} {c f : Str} {pos pos' tpos : Pos} {a d : DE}
theorem le_fld (F : FldC X.K X.mg c f) (he : LE X W e a) (hb : attributeBase e f X.env (eval e X.env) = eval e X.env := by rfl) : LE X W (.Attribute e f pos) (dFld c f a) := by
  refine (pe_fld he hb).imp fun σ H Q ⟨w, δ, μ, eH, L, S, h⟩ => ?_
  refine ⟨w, δ, μ, eH, L, S, Pst.bind h fun x v w1 μ1 E1 L1 r1 h1 => ?_⟩
  split at h1
  · rename_i c' fs ei
    split at h1
    · rename_i ec
      subst ec
      obtain ⟨n, C, dx, vfs, rfl, hn, rfl, hH, mc, rf⟩ := insOf_ok L1 r1 ei
      obtain ⟨k1, k2⟩ := F.cl C mc
      have lk := rf.lookup (f := f)
      split at h1
      · rename_i q eq
        rw [eq] at lk
        obtain ⟨v, hv, rv⟩ := lk
        exact ⟨_, C, dx, vfs, v, rfl, hH, k1, k2, hv, here_ok h1 L1 (RelD.t rv)⟩
      · exact h1.elim
    · exact h1.elim
  · exact h1.elim
theorem ls_fld (F : FldC X.K X.mg c f) (ho : LE X W o a) (hv : LE X W value d) (hs : swapsWith value (some (.Attribute o f pos')) pos.line X.env = pure false := by rfl) : LS X W (.Assign [.Attribute o f pos'] value pos) (sFldP c f a d) := by
  refine (ps_fld ho hv hs).imp fun Dn σ H ⟨w, δ, μ, eH, L, S, h⟩ => ?_
  refine ⟨w, δ, μ, eH, L, S, PstS.bind L S h fun y u w1 μ1 E1 L1 r1 h1 => ?_⟩
  refine ⟨w1, δ, μ1, rfl, L1, S.ext L E1, PstS.bind L1 (S.ext L E1) h1 fun x v w2 μ2 E2 L2 r2 h2 => ?_⟩
  split at h2
  · rename_i n q c' fs ei
    split at h2
    · rename_i hc
      obtain ⟨rfl, hl⟩ := hc
      obtain ⟨n', C, dx, vfs, en, hn, rfl, hH, mc, rf⟩ := insOf_ok L2 r2 ei
      cases en
      obtain ⟨k1, k2⟩ := F.cl C mc
      have rq : Rel (gx X) w1 q u := by rw [RelD] at r1; exact r1
      have rq2 := Rel.ext L1 E2 q u rq
      refine ⟨_, C, dx, vfs, rfl, hH, k1, k2, by rw [← rf.length]; omega, ?_⟩
      have S2 := (S.ext L E1).ext L1 E2
      have E3 := Ext.set (o := .ins C dx (putF f u vfs)) L2 hn
      exact h2 _ ⟨upd w2.H (w2.m n) (.ins C dx (putF f u vfs)), w2.m, w2.N⟩ E3 (Live.set L2 hn ⟨mc, RelF.put rq2 rf⟩) (S2.ext L2 E3)
    · exact h2.elim
  · exact h2.elim
end
/-- a method by its class's name -/
structure FeM (P : Program) (w : World) (K : PySem.W.Frag) (mg : Str → Option Value) (base : Heap) (k : Nat) (c m : Str) (F : DF) : Prop where
  ex : ∃ C f fd ps, mg c = some (.ref C) ∧ Cls K C ∧ Meth K C m f ∧ Binds K fd ps [] ∧ FnG P w K mg base k f fd ps F
theorem FeM.mono {P : Program} {w : World} {K : PySem.W.Frag} {mg : Str → Option Value} {base : Heap} {j k : Nat} {c m : Str} {F : DF} (h : FeM P w K mg base j c m F) (q : j ≤ k) : FeM P w K mg base k c m F := by
  obtain ⟨C, f, fd, ps, a, b, d, e, g⟩ := h.ex
  exact ⟨C, f, fd, ps, a, b, d, e, g.mono q⟩
def dMethO (c m : Str) (F : DF) (a : DE) (as : DA) : DE := fun δ μ => (a δ μ).bind fun x μ => match insOf μ x with
  | some (c', fs) => if c' = c ∧ fs.lookup m = none then (as δ μ).bind fun xs μ => F (x :: xs) μ else .bad
  | none => .bad
section
variable {X : Cx} {W : WX} {k : Nat} {o e : Expr} {es : List Expr} {c m : Str} {F : DF} {apos pos : Pos} {a : DE} {as : DA}
theorem methO_read {σ : L2.St} {H : Hp} {Q : VK} {C : Addr} (hC : X.mg c = some (.ref C)) (h : lift (gx X) W (RelD (gx X)) (dMethO c m F a as) σ H Q) :
    lift (gx X) W (RelD (gx X)) a σ H fun x H1 => ∃ q dx fs, x = .ref q ∧ H1 q = some (.ins C dx fs) ∧ fs.lookup m = none ∧ lift (gx X) W (RelDL (gx X)) as σ H1 fun vs H2 => spL ⟨X.K, X.mg⟩ F (.ref q :: vs) H2 Q (WE W σ) := by
  obtain ⟨w, δ, μ, eH, L, S, h⟩ := h
  refine ⟨w, δ, μ, eH, L, S, Pst.bind h fun x v w1 μ1 E1 L1 r1 h1 => ?_⟩
  split at h1
  · rename_i c' fs ei
    split at h1
    · rename_i hc
      obtain ⟨rfl, hl⟩ := hc
      obtain ⟨n, C', dx, vfs, rfl, hn, rfl, hH, mc, rf⟩ := insOf_ok L1 r1 ei
      have eC : C' = C := Value.ref.inj (Option.some.inj ((show X.mg c' = some (.ref C') from mc).symm.trans hC))
      subst eC
      have lk := rf.lookup (f := m)
      rw [hl] at lk
      refine ⟨_, dx, vfs, rfl, hH, lk, w1, δ, μ1, rfl, L1, S.ext L E1, Pst.bind h1 fun xs vs w2 μ2 E2 L2 r2 h2 => ?_⟩
      refine ⟨w2, .lst n :: xs, μ2, rfl, L2, RelDL.cons (RelD.ext L1 E2 _ _ r1) r2, ?_⟩
      cases q : F (.lst n :: xs) μ2 with
      | ok y μ3 => rw [q] at h2; exact h2
      | ex c p μ3 => rw [q] at h2; exact h2
      | bad => rw [q] at h2; exact h2
    · exact h1.elim
  · exact h1.elim
theorem le_methO {pl : Sem Bool} (D : FeM X.prog X.w X.K X.mg X.base k c m F) (room : Room k X.A) (gd : X.A.guards = some []) (tk : Takes X W) (ho : LE X W o a) (ha : LA X W (e :: es) as)
    (hst : starEach (e :: es) X.env = (false, eval e X.env) :: starEach es X.env := by rfl) (hpl : (backTo pos (starEach es X.env)).any (·.1) = false := by rfl)
    (ht : eval (.Call (.Attribute o m apos) (e :: es) [] pos) X.env = (do
      let ov ← eval o X.env
      standAt apos.atName
      let (f, first) ← holding [ov] (getMethod ov m pl)
      callWith pos f first (backTo pos (starEach (e :: es) X.env)) (backToKw pos (keywordEach [] X.env))) := by rfl) :
    LE X W (.Call (.Attribute o m apos) (e :: es) [] pos) (dMethO c m F a as) := by
  obtain ⟨C, f, fd, ps, hC, cl, hm, bd, D⟩ := D.ex
  refine ⟨fun pins s σ H Q I h => ?_⟩
  refine PySem.W.methodCall_KW (pl := pl) (thn (ho.run pins s σ H _ I (methO_read hC h)) fun u s1 ⟨x, H1, I1, rx, q, dx, fs, ex, eq, l, want⟩ => ?_) ht
  subst ex
  cases rx
  refine getmeth_ok I1 eq cl hm l ?_
  refine PySem.W.callWith_K (first := [.ref q]) (h₀ := X.base) I.ok.mod.kin hm.kp (thn (ha.run pos pins s1 σ H1 _ I1 want) fun us s2 ⟨vs, H2, I2, rv, w2⟩ => ⟨I2.kIn, ?_⟩) hst hpl
  exact runG (vs := V.ref q :: vs) (us := Value.ref q :: us) D room gd bd tk I2 (.cons rfl rv) w2
theorem le_methO0 {pl : Sem Bool} (D : FeM X.prog X.w X.K X.mg X.base k c m F) (room : Room k X.A) (gd : X.A.guards = some []) (tk : Takes X W) (ho : LE X W o a)
    (ht : eval (.Call (.Attribute o m apos) [] [] pos) X.env = (do
      let ov ← eval o X.env
      standAt apos.atName
      let (f, first) ← holding [ov] (getMethod ov m pl)
      callWith pos f first (backTo pos (starEach [] X.env)) (backToKw pos (keywordEach [] X.env))) := by rfl) :
    LE X W (.Call (.Attribute o m apos) [] [] pos) (dMethO c m F a dNil) := by
  obtain ⟨C, f, fd, ps, hC, cl, hm, bd, D⟩ := D.ex
  refine ⟨fun pins s σ H Q I h => ?_⟩
  refine PySem.W.methodCall_KW (pl := pl) (thn (ho.run pins s σ H _ I (methO_read hC h)) fun u s1 ⟨x, H1, I1, rx, q, dx, fs, ex, eq, l, want⟩ => ?_) ht
  subst ex
  cases rx
  refine getmeth_ok I1 eq cl hm l ?_
  obtain ⟨w, δ, μ, e, L, S, want⟩ := want
  exact PySem.W.callWith_K0 (first := [.ref q]) I1.kIn hm.kp (runG (vs := [V.ref q]) (us := [.ref q]) D room gd bd tk I1 (.cons rfl .nil) (by rw [← e]; exact here_ok want L RelDL.nil))
end
section
variable {X : Cx} {W : WX} {o value : Expr} {c f : Str} {pos tpos : Pos} {a d : DE}
theorem flat_keep {G : Gd} {w w' : Wd} {p : PyData} {v : V} (fp : flatP p = true) (h : Rel G w p v) : Rel G w' p v := by
  cases p <;> first
    | (rw [Rel] at h ⊢; exact h)
    | (simp [flatP] at fp)
theorem ls_flda {op : Operator} {g : PyData → PyData → Option PyData} (F : FldC X.K X.mg c f) (ho : LE X W o a) (hv : LE X W value d) (hop : Op2 X (inplaceOp op) g) : LS X W (.AugAssign (.Attribute o f tpos) op value pos) (sFldA c f g a d) := by
  obtain ⟨r, q, k⟩ := hop
  refine (ps_fldaug ho hv (rd := r) (fun pins s σ H x y u v Q I r1 r2 h => q pins s σ H x y u v Q I r1 r2 h)).imp fun Dn σ H ⟨w, δ, μ, eH, L, S, h⟩ => ?_
  refine ⟨w, δ, μ, eH, L, S, PstS.bind L S h fun x v w1 μ1 E1 L1 r1 h1 => ?_⟩
  have S1 := S.ext L E1
  split at h1
  · rename_i n c' fs ei
    split at h1
    · rename_i ec
      subst ec
      obtain ⟨n', C, dx, vfs, en, hn, rfl, hH, mc, rf⟩ := insOf_ok L1 r1 ei
      cases en
      obtain ⟨k1, k2⟩ := F.cl C mc
      have lk := rf.lookup (f := f)
      split at h1
      · rename_i p ep
        rw [ep] at lk
        obtain ⟨v0, hv0, rv0⟩ := lk
        refine ⟨_, C, dx, vfs, v0, rfl, hH, k1, k2, hv0, w1, δ, μ1, rfl, L1, S1, PstS.bind L1 S1 h1 fun y u w2 μ2 E2 L2 r2 h2 => ?_⟩
        have S2 := S1.ext L1 E2
        split at h2
        · rename_i q' c2 fs2 eq ei2
          split at h2
          · rename_i hc
            obtain ⟨rfl, hl, fp⟩ := hc
            split at h2
            · rename_i res eg
              have rl : RelD (gx X) w2 (.lst n) (.ref (w1.m n)) := RelD.ext L1 E2 _ _ r1
              obtain ⟨n', C2, dx2, vfs2, en, hn2, ev, hH2, mc2, rf2⟩ := insOf_ok L2 rl ei2
              cases en
              have eC : C2 = C := Value.ref.inj (Option.some.inj (mc2.symm.trans mc))
              subst eC
              refine k w2 μ2 p q' res v0 u _ L2 eg (Now.of_rel (flat_keep fp rv0)) (now_of L2 eq r2) fun z w3 E3 L3 rz => ?_
              have rl3 : RelD (gx X) w3 (.lst n) (.ref (w1.m n)) := RelD.ext L2 E3 _ _ rl
              obtain ⟨n', C3, dx3, vfs3, en, hn3, ev3, hH3, mc3, rf3⟩ := insOf_ok L3 rl3 ei2
              cases en
              have eC3 : C3 = C2 := Value.ref.inj (Option.some.inj (mc3.symm.trans mc))
              subst eC3
              have em : w1.m n = w3.m n := V.ref.inj ev3
              refine ⟨dx3, vfs3, by rw [em]; exact hH3, by rw [← rf3.length]; omega, ?_⟩
              rw [em]
              have E4 := Ext.set (o := .ins C3 dx3 (putF f z vfs3)) L3 hn3
              exact h2 _ ⟨upd w3.H (w3.m n) (.ins C3 dx3 (putF f z vfs3)), w3.m, w3.N⟩ (E3.trans E4) (Live.set L3 hn3 ⟨mc3, RelF.put rz rf3⟩) ((S2.ext L2 E3).ext L3 E4)
            · exact h2.elim
          · exact h2.elim
        · exact h2.elim
      · exact h1.elim
    · exact h1.elim
  · exact h1.elim
end
/-! ## C(e, ..) -/
structure FeI (P : Program) (w : World) (K : PySem.W.Frag) (mg : Str → Option Value) (base : Heap) (k : Nat) (c : Str) (F : DF) : Prop where
  ex : ∃ C f fd ps, mg c = some (.ref C) ∧ Mk K C f ∧ Binds K fd ps [] ∧ FnG P w K mg base k f fd ps F
def dMake (c : Str) (F : DF) (as : DA) : DE := fun δ μ => (as δ μ).bind fun xs μ1 => (F (.lst μ1.length :: xs) (μ1 ++ [.ins c []])).bind fun y μ2 => match y with
  | .t .none => .ok (.lst μ1.length) μ2
  | _ => .bad
section
variable {X : Cx} {W : WX} {k : Nat} {x c : Str} {e : Expr} {es : List Expr} {F : DF} {p pos : Pos} {as : DA}
theorem make_guards {A : Around} (h : A.guards = some []) (C : Addr) (us : List Value) : (A.under (.builtin "type.__call__" ⟨.ref C :: us, []⟩)).guards = some [] := by
  unfold Around.under
  dsimp only
  rw [h]
  kernel_rfl
theorem runMake {pins : List (Addr × Obj)} {σ : L2.St} {H : Hp} {s : Shared} {Q : VK} {us : List Value} {vs : List V} {C f : Addr} {fd : FuncData} {ps : List Str} (M : Mk X.K C f) (D : FnG X.prog X.w X.K X.mg X.base k f fd ps F) (room : Room (k + 1) X.A) (gd : X.A.guards = some []) (bd : Binds X.K fd ps [])
    (tk : Takes X W) (I : Inv X pins σ H s) (rv : Vals vs us)
    (want : ∀ y dx, H y = none → H dx = none → dx ≠ y → spL ⟨X.K, X.mg⟩ F (.ref y :: vs) (upd (upd H dx (.own y)) y (.ins C dx [])) (fun v H2 => v = .non ∧ Q (.ref y) H2) (WE W σ)) :
    wpAny (model X.prog X.w) X.A (call (.ref C) us) (EP X pins σ Q) X.xe s := by
  have hq := want (s.heap.objs.size + 1) s.heap.objs.size (I.hok.fresh (Nat.le_succ _)) (I.hok.fresh (Nat.le_refl _)) (Nat.ne_of_lt (Nat.lt_succ_self _))
  have I2 := Inv.made (C := C) I
  have r2 : Vals (V.ref (s.heap.objs.size + 1) :: vs) (Value.ref (s.heap.objs.size + 1) :: us) := .cons rfl rv
  have many : (Value.ref (s.heap.objs.size + 1) :: us).length = ps.length := r2.length.symm.trans (D.len hq)
  have bound : ∀ s0 : Shared, X.K.In s0.heap → BindsTo s0 fd ⟨Value.ref (s.heap.objs.size + 1) :: us, []⟩ (ps.zip (Value.ref (s.heap.objs.size + 1) :: us)) := by
    intro s0 kin
    have z := bd s0 (Value.ref (s.heap.objs.size + 1) :: us) kin (by simpa using many)
    simpa using z
  refine wpAny_call (make_map (f := f) I.kIn M.makes M.init (beq_iff_eq.mp M.fn) (codeAny_mono (D.go _ X.stack _ _ ⟨Value.ref (s.heap.objs.size + 1) :: us, []⟩ (Value.ref (s.heap.objs.size + 1) :: us) _ _ (WE W σ) (room.make C us []) (make_guards gd C us) (I2.env0.make C us []) (bound _ I2.kIn) r2 hq) fun r s' got => ?_))
  match r, got with
  | .error err, got => exact passAt tk σ pins _ _ err s' I2 got
  | .ok (.ret u), got =>
    obtain ⟨v, H', I3, rv', ev, q3⟩ := I2.after got
    subst ev
    exact ⟨rv', ⟨V.ref (s.heap.objs.size + 1), H', I3, rfl, q3⟩⟩
  | .ok .next, got => exact got.elim
  | .ok .brk, got => exact got.elim
  | .ok .cont, got => exact got.elim
theorem le_make (D : FeI X.prog X.w X.K X.mg X.base k c F) (room : Room (k + 1) X.A) (gd : X.A.guards = some []) (tk : Takes X W) (hg : Gl X c) (ha : LA X W (e :: es) as) (hdb : (c == ("__debug__" : Str)) = false := by decide)
    (he : starEach (e :: es) X.env = (false, eval e X.env) :: starEach es X.env := by rfl) (hpl : (backTo pos (starEach es X.env)).any (·.1) = false := by rfl) : LE X W (.Call (.Name c p) (e :: es) [] pos) (dMake c F as) := by
  obtain ⟨C, f, fd, ps, hC, M, bd, D⟩ := D.ex
  refine ⟨fun pins s σ H Q I ⟨w, δ, μ, eH, L, S, h⟩ => wpAny_Call_Name_kw (ld_glob I hg hC ?_ hdb)⟩
  have first := ha.run pos pins s σ H (fun vs H1 => ∀ y dx, H1 y = none → H1 dx = none → dx ≠ y → spL ⟨X.K, X.mg⟩ F (.ref y :: vs) (upd (upd H1 dx (.own y)) y (.ins C dx [])) (fun v H2 => v = .non ∧ Q (.ref y) H2) (WE W σ)) I
    ⟨w, δ, μ, eH, L, S, Pst.bind h fun xs vs w1 μ1 E1 L1 r1 h1 y dx ny ndx ne => ?_⟩
  · exact PySem.W.callWith_K (h₀ := X.base) I.ok.mod.kin M.kp (thn first fun us s1 ⟨vs, H1, I1, rv, want⟩ => ⟨I1.kIn, runMake M D room gd bd tk I1 rv want⟩) he hpl
  · have L2 := Live.new (o := .own y) L1 ndx
    have E2 := Ext.new (o := .own y) L1 ndx
    have ny2 : (w1.put dx (.own y)).H y = none := by
      show upd w1.H dx (.own y) y = none
      rw [upd_ne (Ne.symm ne)]
      exact ny
    have hh : Holds (gx X) (w1.put dx (.own y)) (.ins c []) (.ins C dx []) := ⟨hC, by rw [RelF]⟩
    have E3 := Ext.add (o := .ins C dx []) L2 ny2
    have L3 := Live.add (q := .ins c []) L2 ny2 hh
    have rl : RelD (gx X) ((w1.put dx (.own y)).add y (.ins C dx [])) (.lst μ1.length) (.ref y) := by
      rw [RelD, L1.len]
      exact ⟨Nat.lt_succ_self _, by rw [show w1.N = (w1.put dx (.own y)).N from rfl, Wd.add_at]⟩
    have rx := RelDL.ext L2 E3 _ _ (RelDL.ext L1 E2 _ _ r1)
    refine ⟨(w1.put dx (.own y)).add y (.ins C dx []), TV.D.lst μ1.length :: xs, (μ1 ++ [O.ins c []] : Mu), rfl, L3, RelDL.cons rl rx, ?_⟩
    cases q : F (.lst μ1.length :: xs) (μ1 ++ [.ins c []]) with
    | ok z μ2 =>
      rw [q] at h1
      intro v w4 E4 L4 rz
      cases z with
      | t zz =>
        cases zz with
        | none =>
          rw [RelD, Rel] at rz
          exact ⟨rz, h1 (.ref y) w4 ((E2.trans E3).trans E4) L4 (RelD.ext L3 E4 _ _ rl)⟩
        | _ => exact h1.elim
      | _ => exact h1.elim
    | ex c' p' μ2 =>
      rw [q] at h1
      intro C' d' w4 g' E4 L4 x4
      exact h1 C' d' w4 g' ((E2.trans E3).trans E4) L4 x4
    | bad => rw [q] at h1; exact h1.elim
end
end TV

/-! TV, seventeenth part: exceptions that bear one field; clauses that read it; clauses without a name. -/
namespace TV
open PySem PySem.Spec PyProof.Rows L2

/-! ## B.__init__(self, ..), B an own class below ValueError -/
structure InitC (K : PySem.W.Frag) (B : Addr) : Prop where
  rd : PySem.W.readsIn K B (.type "type") = true
  ga : PySem.W.specialIn K (.ref B) "__getattribute__" = some (some (.builtin "type.__getattribute__"))
  at_ : PySem.W.findCls K (.ref B) (.type "type") "__init__" = some (.val (.builtin "ValueError.__init__"))
section
variable {X : Cx} {e : Expr} {es : List Expr} {ta : TA} {b : Str} {B : Addr} {p1 p2 pos : Pos}
theorem pe_ownInit {pl : Sem Bool} (V : InitC X.K B) (hg : Gl X b) (hm : X.mg b = some (.ref B)) (ha : PA X (e :: es) ta) (hdb : (b == ("__debug__" : Str)) = false := by decide)
    (hc : eval (.Call (.Attribute (.Name b p1) "__init__" p2) (e :: es) [] pos) X.env = (do
      let ov ← eval (.Name b p1) X.env
      standAt p2.atName
      let (f, first) ← holding [ov] (getMethod ov "__init__" pl)
      callWith pos f first (backTo pos (starEach (e :: es) X.env)) (backToKw pos (keywordEach [] X.env))) := by rfl)
    (he : starEach (e :: es) X.env = (false, eval e X.env) :: starEach es X.env := by rfl) (hpl : (backTo pos (starEach es X.env)).any (·.1) = false := by rfl) :
    PE X (.Call (.Attribute (.Name b p1) "__init__" p2) (e :: es) [] pos) (tVeI X.K ta) := by
  refine ⟨fun pins s σ H Q I h => ?_⟩
  refine PySem.W.methodCall_KW (ld_glob I hg hm ?_ hdb) hc
  refine PySem.W.method_cls I.kIn V.ga (PySem.W.cls_value I.kIn V.rd V.at_ (by decide +kernel) ?_)
  show wpAny _ _ (callWith pos (Value.builtin "ValueError.__init__") [] (backTo pos (starEach (e :: es) X.env)) []) _ _ _
  refine PyProof.Rows.callWith_method1 (thn (ha.run pos pins _ σ H _ (I.tok _) h) fun us s1 ⟨vs, H1, I1, r1, a, C, ws, ev, hl, T, ea, q⟩ => ?_) he hpl
  subst ev
  cases r1 with
  | @cons _ u0 _ ur ra rw' =>
    obtain rfl : u0 = Value.ref a := ra
    have few : ur.length ≤ sizeLine := by
      rw [← Paired.length rw', sizeLine_eq]
      omega
    exact oinit_ok T I1 ea few fun s' J => ⟨.non, H1, J, rfl, q⟩
end
/-! ## raise C(e) -/
/-- what the class's own __init__ does: one field f of its argument -/
def spFld (C : Addr) (f : Str) : Sp := fun vs H Q _ => ∃ (a : Addr) (y : V), vs = [.ref a, y] ∧ H a = some (exo a C none) ∧ ∀ dx, H dx = none → dx ≠ a → Q .non (upd (upd H dx (exd dx [(f, y)])) a (exo a C (some dx)))
structure FeX1 (P : Program) (w : World) (K : PySem.W.Frag) (mg : Str → Option Value) (base : Heap) (k : Nat) (c f : Str) : Prop where
  ex : ∃ C fI fd ps, mg c = some (.ref C) ∧ OexC K C ∧ PySem.W.findIn K (.ref C) "__init__" = some (some (.ref fI)) ∧ PySem.W.typeIn K (.ref fI) = some (.type "function") ∧ Binds K fd ps [] ∧ FnOk P w K mg base CX0 k fI fd ps (spFld C f)
def sRaise1 (c f : Str) (d : DE) : DS := fun δ μ => (d δ μ).toS δ fun y μ => match y with
  | .t q => .ex c (some [(f, q)]) δ μ
  | _ => .bad
section
variable {X : Cx} {W : WX} {k : Nat} {c f : Str} {e : Expr} {d : DE} {p pos pos' : Pos}
theorem ls_raise1 (hc : X.calm = true) (tk : Takes X W) (F : FeX1 X.prog X.w X.K X.mg X.base k c f) (room : Room (k + 1) X.A) (hg : Gl X c) (he : LE X W e d) (hdb : (c == ("__debug__" : Str)) = false := by decide)
    (hs : starEach [e] X.env = (false, eval e X.env) :: starEach [] X.env := by rfl) :
    LS X W (.Raise (some (.Call (.Name c p) [e] [] pos)) none pos') (sRaise1 c f d) := by
  obtain ⟨C, fI, fd, ps, gC, T, iC, tI, bd, Fn⟩ := F.ex
  refine (ps_raise hc tk (pmk_oex T iC tI Fn room bd .nil (fun _ _ _ _ _ _ _ z => z.elim) hg gC (pa_cons he pa_nil hs) hdb hs rfl)).imp fun Dn σ H ⟨w, δ, μ, eH, L, S, h⟩ => ?_
  refine ⟨w, δ, μ, eH, L, S, PstS.bind L S h fun y v w1 μ1 E1 L1 r1 h1 => ?_⟩
  split at h1
  · rename_i q
    rw [RelD] at r1
    refine ⟨by simp, fun a ha => ⟨a, v, rfl, upd_same, fun dx hdx hne => ⟨rfl, dx, [(f, v)], upd_same, ?_, ?_, ?_⟩⟩⟩
    · rw [upd_ne hne, upd_same]
    · rw [upd_ne hne] at hdx
      exact hdx
    · have hdx' : w1.H dx = none := by rw [upd_ne hne] at hdx; exact hdx
      have E2 := Ext.new (o := .xd [(f, v)]) L1 hdx'
      have L2 := Live.new (o := .xd [(f, v)]) L1 hdx'
      have eH2 : upd (del (upd (upd (upd w1.H a (exo a C none)) dx (exd dx [(f, v)])) a (exo a C (some dx))) a) dx (.xd [(f, v)]) = (w1.put dx (.xd [(f, v)])).H := by
        funext b
        show _ = upd w1.H dx (.xd [(f, v)]) b
        by_cases hb : b = dx
        · rw [hb, upd_same, upd_same]
        · rw [upd_ne hb, upd_ne hb]
          by_cases hb2 : b = a
          · rw [hb2, del_same, ha]
          · rw [del_ne hb2, upd_ne hb2, upd_ne hb, upd_ne hb2]
      rw [eH2]
      refine h1 C (some dx) σ (w1.put dx (.xd [(f, v)])) gC E2 L2 ((S.ext L E1).ext L1 E2) ⟨[(f, v)], upd_same, ?_⟩
      rw [RelF]
      exact ⟨v, [], rfl, Rel.ext L1 E2 q v r1, by rw [RelF]⟩
  · exact h1.elim
end
/-! ## except C as e: return [z, e.f] -/
def sTryF (c f z : Str) (i : Nat) (b : DS) : DS := fun δ μ => match b δ μ with
  | .ex c' (some [(g, q)]) δ' μ' => if c' = c ∧ g = f ∧ i < δ'.length ∧ z.length ≤ 1000 then .rt (.t (.list [.str z, q])) μ' else .bad
  | .ex _ _ _ _ => .bad
  | r => r
/-- except C: return v -/
def sTryV (kind : Str → Bool) (q : PyData) (b : DS) : DS := fun δ μ => match b δ μ with
  | .ex c _ _ μ' => if kind c then .rt (.t q) μ' else .bad
  | r => r
section
variable {X : Cx} {W : WX} {c f z er : Str} {i : Nat} {body : List Stmt} {b : DS} {np p1 p2 p3 p4 p5 pos pos' : Pos} {j : Nat} {C : Addr}
theorem ls_tryF (hs : X.stack = X.env :: X.outer) (hf : X.env.frame = some X.env.locals) (hN : X.N.Nodup) (hi : X.N[i]? = some er) (hl : X.env.kindOf er = some .local) (tk : Takes X W)
    (gy : Gl X c) (my : X.mg c = some (.ref C)) (ex : PySem.W.exmOne X.K (.ref C) (.ref C) = some true) (xf : XfC X.K C) (no : PySem.W.findIn X.K (.ref C) f = some none)
    (hb : ∀ (W : WX) (pn : List (Addr × Obj)) (xe : Value → Shared → Prop), Takes (X.tr pn xe) W → PassesOwn (model X.prog X.w) X.A X.env xe → LSs (X.tr pn xe) W body b)
    (h1 : (er == ("__debug__" : Str)) = false := by decide) (h2 : (er == ("__classdict__" : Str)) = false := by decide) (h4 : (c == ("__debug__" : Str)) = false := by decide) :
    LS X W (.Try body [.ExceptHandler (some (.Name c np)) (some er) [.Return (some (.List [.Constant (.str z) j p1, .Attribute (.Name er p2) f p3] p4)) pos] pos'] [] [] p5) (sTryF c f z i b) := by
  have suite : ∀ (a : Addr) (oe : Obj) (cls : Value) (d : Option Addr) (pn : List (Addr × Obj)), Zc cls d oe → (∃ vs, oe.data = .fields vs) → PSs (X.suite a ((a, oe) :: pn)) [.Return (some (.List [.Constant (.str z) j p1, .Attribute (.Name er p2) f p3] p4)) pos] _ :=
    fun a oe cls d pn hz hv => pss_one (ps_ret (pe_lst (X := X.suite a ((a, oe) :: pn)) (pa_cons pe_str (pa_cons (pe_xf (C := C) xf no hz hv (pe_var (X := X.suite a ((a, oe) :: pn)) (pos := p2) hi (.inl hl) h1 h2)) pa_nil))))
  refine (ps_try_as (Wout := W) (tb := fun W => liftS (gx X) W b) hs hf hN hi hl ⟨gy, h4, .inl my⟩ tk hb suite).imp fun Dn σ H ⟨w, δ, μ, e, L, S, h⟩ => ?_
  refine ⟨w, δ, μ, e, L, S, ?_⟩
  unfold sTryF at h
  cases q : b δ μ with
  | nx δ' μ' => rw [q] at h; exact h
  | bk δ' μ' => rw [q] at h; exact h
  | ct δ' μ' => rw [q] at h; exact h
  | rt x' μ' => rw [q] at h; exact h
  | bad => rw [q] at h; exact h.elim
  | ex c' pp δ' μ' =>
    rw [q] at h
    split at h
    · rename_i cc g qq δ2 μ2 eq
      cases eq
      split at h
      · rename_i hcond
        obtain ⟨rfl, rfl, hlen, hz⟩ := hcond
        intro C' d σ' w' g' E' L' S' x'
        have eC : C' = C := Value.ref.inj (Option.some.inj ((show X.mg c' = some (.ref C') from g').symm.trans my))
        subst eC
        cases d with
        | none => exact x'.elim
        | some dd =>
          obtain ⟨vfs, hx, rf⟩ := x'
          rw [RelF] at rf
          obtain ⟨v, r, rfl, rv, rn⟩ := rf
          rw [RelF] at rn
          subst rn
          refine ⟨true, ex, fun _ a ha => ?_, fun z => Bool.noConfusion z⟩
          refine ⟨.ref a, List.getElem?_set_self (by rw [← S'.1]; exact hlen), rfl, rfl, dd, _, v, rfl, hx, by simp [List.lookup], ?_⟩
          refine ⟨by rw [sizeLine_eq]; simp, fun p hp => ?_⟩
          have rl : RelL (gx X) w' [.str z, qq] [.str z, v] := RelL.cons (Rel.str (Nat.le_trans hz (by rw [sizeLine_eq]; decide))) (RelL.one rv)
          exact h (.ref p) (w'.put p (.lst [.str z, v])) (E'.trans (Ext.new L' hp)) (Live.new L' hp) (RelD.t (Rel.newF L' rl (by rw [sizeLine_eq]; simp) hp))
      · exact h.elim
    · exact h.elim
    · rename_i h3 h4 h5
      first
        | exact (h3 _ _ _ _ rfl).elim
        | exact (h4 _ _ _ _ rfl).elim
        | exact (h5 _ _ _ _ rfl).elim
/-- except C: return a constant -/
theorem ls_tryV {kind : Str → Bool} {q : PyData} {v : V} {e : Expr} (hs : X.stack = X.env :: X.outer) (hf : X.env.frame = some X.env.locals) (tk : Takes X W)
    (gy : Gl X c) (my : X.mg c = some (.ref C)) (ct : ∀ c' C', kind c' = true → X.mg c' = some (.ref C') → PySem.W.exmOne X.K (.ref C') (.ref C) = some true)
    (hv : ∀ (a : Addr) (oe : Obj) (pn : List (Addr × Obj)), PE (X.suite a ((a, oe) :: pn)) e (tC v)) (rv : ∀ w, Rel (gx X) w q v)
    (hb : ∀ (W : WX) (pn : List (Addr × Obj)) (xe : Value → Shared → Prop), Takes (X.tr pn xe) W → PassesOwn (model X.prog X.w) X.A X.env xe → LSs (X.tr pn xe) W body b) (h4 : (c == ("__debug__" : Str)) = false := by decide) :
    LS X W (.Try body [.ExceptHandler (some (.Name c np)) none [.Return (some e) p4] pos'] [] [] pos) (sTryV kind q b) := by
  have suite : ∀ (a : Addr) (oe : Obj) (cls : Value) (d : Option Addr) (pn : List (Addr × Obj)), Zc cls d oe → (∃ vs, oe.data = .fields vs) → PSs (X.suite a ((a, oe) :: pn)) [.Return (some e) p4] (tRet (tC v)) :=
    fun a oe cls d pn hz hvs => pss_one (ps_ret (hv a oe pn))
  refine (ps_try_only (Wout := W) (tb := fun W => liftS (gx X) W b) (ts := fun a cls d => tRet (tC v)) hs hf ⟨gy, h4, .inl my⟩ tk hb suite).imp fun Dn σ H ⟨w, δ, μ, e, L, S, h⟩ => ?_
  refine ⟨w, δ, μ, e, L, S, ?_⟩
  unfold sTryV at h
  cases q' : b δ μ with
  | nx δ' μ' => rw [q'] at h; exact h
  | bk δ' μ' => rw [q'] at h; exact h
  | ct δ' μ' => rw [q'] at h; exact h
  | rt x' μ' => rw [q'] at h; exact h
  | bad => rw [q'] at h; exact h.elim
  | ex c' pp δ' μ' =>
    rw [q'] at h
    dsimp only at h
    split at h
    · rename_i hk
      intro C' d σ' w' g' E' L' S' x'
      exact ⟨true, ct c' C' hk g', fun _ a ha => h v w' E' L' (RelD.t (rv w')), fun z => Bool.noConfusion z⟩
    · exact h.elim
end
end TV

/-! TV, eighteenth part: methods and own exceptions' __init__ out of the head's facts. -/
namespace TV
open PySem PySem.Spec PyProof.Rows L2
section
variable {P : Program} {w : World} {K : PySem.W.Frag} {mg : Str → Option Value} {base : Heap} {k : Nat} {f : Addr} {x qual : Str} {params : Arguments} {body : List Stmt} {scope : Scope} {N ps : List Str} {fd : FuncData}
theorem fnG_fd {live : Bool} {m : Nat} {b : DS} (F : FunD K x qual params body scope [] [] f fd) (sc : FnScope N ps scope) (hm : N.length = ps.length + m)
    (hb : ∀ (cdv : Value) (A : Around) (outer : List Env) (s : Shared) (H : Hp) (E : XK), Room k (A.deeper (envOfC qual scope s.heap.objs.size f cdv)) → A.guards = some [] →
      LSs (cxOf (L2.CX P w) P w K mg base N qual scope f cdv A outer s H E) (fun c d _ H => E c d H) body b) : FnG P w K mg base (k + 1) f fd ps (mkF ps.length m live b) := by
  obtain ⟨oc, od, dV, kV, doc, pm, an, cdv, ct, osl, rfl, lk, hcd, _, _⟩ := F.ex
  exact fnG_of lk hcd sc hm fun A outer s H E room gd => hb cdv A outer s H E room gd
theorem fnG_bad {k : Nat} : FnG P w K mg base k f fd ps (fun _ _ => .bad) :=
  ⟨fun _ _ _ => rfl, fun A outer s H args us vs Q E room gd e0 b rv ⟨w, xs, μ, e, L, r, h⟩ => h.elim⟩
end
theorem lss_bad {X : Cx} {W : WX} {st : List Stmt} : LSs X W st (fun _ _ => .bad) := ⟨fun pins s σ H D I ⟨w, δ, μ, e, L, S, h⟩ => h.elim⟩
/-! ## facts by a look at K -/
def oexB (K : PySem.W.Frag) (C : Addr) : Bool := match K.lookup C with
  | some ⟨.type "type", _, .cls cd, sl⟩ => (match cd.mro, sl.toList with
    | .ref C' :: bm, [_, _, _, _, some (.builtin n), _] => C' == C && n == "ValueError.__new__" && !cd.hasDel && cd.hasDict && PySem.HandSPX.refsVE bm
    | _, _ => false)
  | _ => false
theorem oexB_ok {K : PySem.W.Frag} {C : Addr} (q : oexB K C = true) : ∃ nm q N bs bm sn sub ab col dd k0 k1 k2 k3 k5, K.lookup C = some (excClassObj nm q C N bs bm true sn sub ab col dd k0 k1 k2 k3 k5 "ValueError.__new__") ∧ PySem.HandSPX.refsVE bm = true := by
  unfold oexB at q
  split at q
  · rename_i dd cd sl ho
    split at q
    · rename_i C' bm k0 k1 k2 k3 n k5 hm hs
      simp only [Bool.and_eq_true, beq_iff_eq, Bool.not_eq_true'] at q
      obtain ⟨⟨⟨⟨e1, e2⟩, hdel⟩, hd⟩, hr⟩ := q
      subst e1 e2
      obtain ⟨nm, bs, mro, ns, qn, hdct, sn, sub, ab, col, del⟩ := cd
      dsimp only at hm hdel hd
      subst hm hdel hd
      have hsl : sl = #[k0, k1, k2, k3, some (.builtin "ValueError.__new__"), k5] := by
        obtain ⟨l⟩ := sl
        simp only at hs
        rw [hs]
      subst hsl
      exact ⟨nm, qn, ns, bs, bm, sn, sub, ab, col, dd, k0, k1, k2, k3, k5, ho, hr⟩
    · cases q
  · cases q
/-- the class x of exceptions with the field f, below the class b -/
def ex1B (K : PySem.W.Frag) (x f b : Str) : Bool :=
  oexB K (He.ga K x) && He.eqO (PySem.W.findIn K (.ref (He.ga K x)) "__setattr__") (some (some (.builtin "object.__setattr__"))) && decide (PySem.W.subIn K (.ref (He.ga K x)) (.type "BaseException") = some true) && decide (PySem.W.typeIn K (.ref (He.ga K x)) = some (.type "type"))
    && PySem.W.keepIn K (.ref (He.ga K x)) && He.eqO (PySem.W.findIn K (.ref (He.ga K x)) "__init__") (some (some (.ref (He.ma K (He.ga K x) "__init__")))) && decide (PySem.W.typeIn K (.ref (He.ma K (He.ga K x) "__init__")) = some (.type "function"))
    && He.eqO (PySem.W.findIn K (.ref (He.ga K x)) f) (some none) && xfB K (He.ga K x) && decide (PySem.W.exmOne K (.ref (He.ga K x)) (.ref (He.ga K x)) = some true)
    && PySem.W.readsIn K (He.ga K b) (.type "type") && decide (PySem.W.specialIn K (.ref (He.ga K b)) "__getattribute__" = some (some (.builtin "type.__getattribute__"))) && (match PySem.W.findCls K (.ref (He.ga K b)) (.type "type") "__init__" with
      | some (.val (.builtin n)) => n == "ValueError.__init__"
      | _ => false)
structure Ex1 (K : PySem.W.Frag) (x f b : Str) : Prop where
  oex : OexC K (He.ga K x)
  init : PySem.W.findIn K (.ref (He.ga K x)) "__init__" = some (some (.ref (He.ma K (He.ga K x) "__init__")))
  ty : PySem.W.typeIn K (.ref (He.ma K (He.ga K x) "__init__")) = some (.type "function")
  no : PySem.W.findIn K (.ref (He.ga K x)) f = some none
  xf : XfC K (He.ga K x)
  exm : PySem.W.exmOne K (.ref (He.ga K x)) (.ref (He.ga K x)) = some true
  low : InitC K (He.ga K b)
theorem ex1B_ok {K : PySem.W.Frag} {x f b : Str} (h : ex1B K x f b = true) : Ex1 K x f b := by
  unfold ex1B at h
  simp only [Bool.and_eq_true, decide_eq_true_eq] at h
  obtain ⟨⟨⟨⟨⟨⟨⟨⟨⟨⟨⟨⟨h1, h2⟩, h3⟩, h4⟩, h5⟩, h6⟩, h7⟩, h8⟩, h9⟩, h10⟩, h11⟩, h12⟩, h13⟩ := h
  refine ⟨⟨oexB_ok h1, He.eqO_ok h2, h3, h4, h5⟩, He.eqO_ok h6, h7, He.eqO_ok h8, xfB_ok h9, h10, h11, h12, ?_⟩
  split at h13
  · rename_i n e
    rw [e, eq_of_beq h13]
  · cases h13
/-- .. its __init__(self, a): B.__init__(self, 'm'); self.f = a -/
theorem feX1_of {P : Program} {w : World} {K : PySem.W.Frag} {mg : Str → Option Value} {base : Heap} {x f b s0 a0 m : Str} {qual : Str} {params : Arguments} {scope : Scope} {fd : FuncData} {j : Nat} {p1 p2 p3 p4 q1 q2 q3 q4 q5 q6 : Pos}
    (T : Ex1 K x f b) (gx_ : mg x = some (.ref (He.ga K x))) (gb : mg b = some (.ref (He.ga K b))) (bd : Binds K fd [s0, a0] [])
    (F : FunD K "__init__" qual params [.Expr (.Call (.Attribute (.Name b p1) "__init__" p2) [.Name s0 p3, .Constant (.str m) j p4] [] q1) q2, .Assign [.Attribute (.Name s0 q3) f q4] (.Name a0 q5) q6] scope [] [] (He.ma K (He.ga K x) "__init__") fd)
    (hp : ∀ (cdv : Value) (A : Around) (outer : List Env) (s : Shared) (H : Hp) (E : XK), ∃ ta : TA, PE (cxOf CX0 P w K mg base [s0, a0] qual scope (He.ma K (He.ga K x) "__init__") cdv A outer s H E) (.Call (.Attribute (.Name b p1) "__init__" p2) [.Name s0 p3, .Constant (.str m) j p4] [] q1) (tVeI K ta) ∧
      ∀ (σ : L2.St) (H : Hp) (v : V) (Q : List V → Hp → Prop), σ[0]? = some (some v) → Q [v, .str m] H → ta σ H Q)
    (sc : FnScope [s0, a0] [s0, a0] scope) (v0 : scope.names.lookup s0 = some .local) (v1 : scope.names.lookup a0 = some .local)
    (h0 : (s0 == ("__debug__" : Str)) = false) (h0' : (s0 == ("__classdict__" : Str)) = false) (h1 : (a0 == ("__debug__" : Str)) = false) (h1' : (a0 == ("__classdict__" : Str)) = false) :
    FeX1 P w K mg base 1 x f := by
  refine ⟨He.ga K x, _, fd, [s0, a0], gx_, T.oex, T.init, T.ty, bd, ?_⟩
  refine FunD.ok F sc (fun vs H Q E h => ?_) fun cdv A outer s H vs Q E room h => ?_
  · obtain ⟨a, y, rfl, _⟩ := h
    rfl
  · obtain ⟨a, y, rfl, ha, hq⟩ := h
    obtain ⟨ta, hpe, hta⟩ := hp cdv A outer s H E
    refine ⟨_, pss_cons (ps_expr hpe rfl) (pss_one (ps_ost (pe_var (i := 0) rfl (.inl v0) h0 h0') (pe_var (i := 1) rfl (.inl v1) h1 h1') rfl)), ?_⟩
    refine hta _ _ (.ref a) _ rfl ?_
    refine ⟨a, He.ga K x, _, rfl, by simp, T.oex, ha, ?_⟩
    exact ⟨y, rfl, .ref a, rfl, a, He.ga K x, rfl, T.oex, T.no, .inl ⟨ha, fun dx h1 h2 => hq dx h1 h2⟩⟩
/-- .. that the first statement is as it must be -/
theorem init_args {X : Cx} {b s0 m : Str} {B : Addr} {j : Nat} {p1 p2 p3 p4 q1 : Pos} {pl : Sem Bool} (T1 : InitC X.K B) (hg : Gl X b) (hm : X.mg b = some (.ref B)) (hN : X.N[0]? = some s0) (v0 : Vis X.env.scope s0)
    (hc : eval (.Call (.Attribute (.Name b p1) "__init__" p2) [.Name s0 p3, .Constant (.str m) j p4] [] q1) X.env = (do
      let ov ← eval (.Name b p1) X.env
      standAt p2.atName
      let (f, first) ← holding [ov] (getMethod ov "__init__" pl)
      callWith q1 f first (backTo q1 (starEach [.Name s0 p3, .Constant (.str m) j p4] X.env)) (backToKw q1 (keywordEach [] X.env))) := by rfl)
    (hdb : (b == ("__debug__" : Str)) = false := by decide) (h0 : (s0 == ("__debug__" : Str)) = false := by decide) (h0' : (s0 == ("__classdict__" : Str)) = false := by decide) :
    ∃ ta : TA, PE X (.Call (.Attribute (.Name b p1) "__init__" p2) [.Name s0 p3, .Constant (.str m) j p4] [] q1) (tVeI X.K ta) ∧ ∀ (σ : L2.St) (H : Hp) (v : V) (Q : List V → Hp → Prop), σ[0]? = some (some v) → Q [v, .str m] H → ta σ H Q :=
  ⟨_, pe_ownInit T1 hg hm (pa_cons (pe_var (i := 0) hN v0 h0 h0') (pa_cons pe_str pa_nil)) hdb hc, fun σ H v Q h1 h2 => ⟨v, h1, h2⟩⟩
end TV

/-! TV, nineteenth part: comprehensions whose element lets an exception out. -/
namespace TV
open PySem PySem.Spec PyProof.Rows L2

section
variable {M : Model} {A : Around} {E : Value → Shared → Prop} {s : Shared} {Z : Obj → Prop} {B : Heap} {env cenv : Env} {outer l : List Env} {L C a : Addr}
/-- a frame is noted by its number alone -/
theorem note_same (h : cenv.frame = env.frame) (u : Value) : noteFrame u cenv = noteFrame u env := by
  unfold noteFrame PySem.frameOf
  rw [h]
/-- noted under another number so far -/
theorem look_other {Q : Unit → Shared → Prop} (hZ : HandSPX.Steady Z) (hfr : A.frames = some (env :: outer)) (hf : env.frame = some L) (hne : C ≠ L) (hh : HandSPX.HeldZ B (env :: outer) a Z C s.heap)
    (hQ : ∀ h', HandSPX.HeldZ B (env :: outer) a Z L h' → s.heap.UpToSlots h' → Q () { s with heap := h' }) : wpAny M A (noteFrame (.ref a) env) Q E s := by
  obtain ⟨stays, an, fr, oe, vs, T, oT, ts, ea, za, da, v1, Tn, Ta, eT, dT, t3⟩ := hh
  have keep : ∀ b, b ≠ T → (s.heap.update T (Obj.mapFields (·.setIfInBounds 3 Value.none))).get? b = s.heap.get? b := fun b q => Heap.get?_update_other _ _ (Ne.symm q)
  have notT : ∀ b o, s.heap.get? b = some o → (∀ vs, o.data ≠ .fields vs) → b ≠ T := fun b o q1 q2 q => by
    subst q
    rw [eT] at q1
    cases q1
    exact q2 ts dT
  unfold noteFrame
  simp only [hf]
  refine wpAny_bind (wpAny_field ea da v1 ?_)
  rw [if_pos (by simp : (Value.ref T != Value.none) = true)]
  refine wpAny_bind (wpAny_field eT dT t3 ?_)
  rw [if_neg (by simp [rawInt]; exact fun z => hne (Int.ofNat.inj z) : ¬ ((rawInt C == rawInt L) = true))]
  refine wpAny_bind (wpAny_setField eT dT (Array.getElem?_eq_some_iff.mp t3).1 (HandSPX.wpAny_entryZ hZ hfr (fr.of_keeps fun b o q1 q2 => ⟨o, (keep b (notT b o q1 q2)).trans q1, rfl⟩) hf ((keep a (Ne.symm Ta)).trans ea)
    (fun b o q => (keep b fun z => by subst z; rw [Tn] at q; cases q).trans (stays b o q)) an da (Array.getElem?_eq_some_iff.mp v1).1 za fun h' ⟨x1, x2, x3, x4⟩ => ?_))
  exact hQ h' ⟨x1, an, x2, x3⟩ fun b o q1 q2 => x4 b o ((keep b (notT b o q1 q2)).trans q1) q2
theorem sky_note {Q : Unit → Shared → Prop} (hZ : HandSPX.Steady Z) (hfr : A.frames = some (env :: outer)) (hf : env.frame = some L) (hne : C ≠ L) (x : Sky B (env :: outer) a Z C s.heap)
    (hQ : ∀ h', HandSPX.HeldZ B (env :: outer) a Z L h' → s.heap.UpToSlots h' → Q () { s with heap := h' }) : wpAny M A (noteFrame (.ref a) env) Q E s := by
  rcases x with ⟨k1, k2, k3, oe, vs, k4, k5, k6, k7⟩ | x | x
  · exact HandSPX.look_newZ hZ hfr k3 hf k4 k1 k2 k6 k7 k5 hQ
  · exact HandSPX.looks_onZ hZ hfr hf x hQ
  · exact look_other hZ hfr hf hne x hQ
/-- what the block's end leaves, an error told with the block's own names -/
def cpE (M : Model) (A : Around) (E : Value → Shared → Prop) (use : Option (Value → Sem Unit)) (Q : Value → Shared → Prop) (acc : Value) (ce : Env) (r : Result) (s' : Shared) : Prop :=
  match r with
  | .ok f => compPost M A E use Q acc ce.locals (.ok f) s'
  | .error x => ∃ m, s'.heap.Ns ce.locals m ∧ ∀ h', Heap.SameBut ce.locals s'.heap h' → wpAny M A (passOn "comprehension.variables-let-go" x ce : Sem Value) (fun _ _ => False) E { s' with heap := h' }
theorem comp_freeE {e : Expr} {scope : Scope} {pos : Pos} {newAcc first : Sem Value} {g : Comprehension} {gs : List Comprehension} {cl : List (Str × Addr)} {use : Option (Value → Sem Unit)} {Q : Value → Shared → Prop}
    (k1 : clausesOf e = g :: gs) (k2 : ∀ x, foldedSetIterable g.iter env x = pure x) (k3 : closureFor scope env = pure cl) (k4 : scope.kind = .function) (k5 : ∀ x ∈ scope.names, x.2 = .local → scope.names.lookup x.1 = some .local)
    (h : wpAny M A first (fun x s₁ => wpAny M A (pyIter x) (fun it s₂ => wpAny M A newAcc (fun acc s₃ => wpAny M A (newFunctionEnv scope env.globals cl [] env.qual none .none (some env)) (fun ce s₄ =>
      codeAny M A (.compStart e 0 it acc { ce with scope := relabel scope env }) (cpE M A E use Q acc { ce with scope := relabel scope env }) s₄) E s₃) E s₂) E s₁) E s) : wpAny M A (comprehension e scope env pos newAcc false first use) Q E s := by
  have up : ∀ {α : Type} {t : Sem α} {P P' : α → Shared → Prop} {s : Shared}, wpAny M A t P E s → (∀ a s, P a s → P' a s) → wpAny M A t P' E s := fun h hP => wpAny_mono h hP fun _ _ z => z
  unfold comprehension
  rw [k3, k1]
  refine wpAny_bind (up h fun x s₁ h₁ => wpAny_bind (wpAny_standAt (wpAny_bind (wpAny_of_eq (k2 x) (wpAny_bind (wpAny_holding (up h₁ fun it s₂ h₂ => wpAny_standIf (wpAny_bind (up h₂ fun acc s₃ h₃ => wpAny_bind (wpAny_pure (wpAny_bind (up h₃ fun ce s₄ h₄ => ?_))))))))))))
  dsimp only
  have lets : ∀ x ∈ (scope.names.filter fun x => (x.2 == .local || x.2 == .cell) && x.1 != (".0" : Str)).reverse, x.2 = .local → Env.kindOf { ce with scope := relabel scope env } x.1 = some .local := fun x hx hl => lookup_relabel_local (k5 x (List.mem_filter.mp (List.mem_reverse.mp hx)).1 hl)
  refine wpAny_holding (wpAny_bind (wpAny_attempt (wpAny_holding (wpAny_run (codeAny_mono h₄ fun r s' hr => ?_)))))
  cases r with
  | error x =>
    obtain ⟨m, hn, hr⟩ := hr
    exact wpAny_bind (wpAny_holding (wpAny_comp_letGo (cenv := { ce with scope := relabel scope env }) k4 _ s' m lets hn fun h' m' _ q => wpAny_mono (hr h' q) (fun _ _ f => f.elim) fun _ _ y => y))
  | ok f =>
    cases use with
    | none =>
      obtain ⟨m, hn, hr⟩ := hr
      exact wpAny_bind (wpAny_holding (wpAny_comp_letGo (cenv := { ce with scope := relabel scope env }) k4 _ s' m lets hn fun h' m' _ q => wpAny_pure (hr h' q)))
    | some u =>
      refine wpAny_bind (wpAny_rule (wpAny_bind (wpAny_holding (wpAny_mono hr (fun _ s'' ⟨m, hn, hr'⟩ => ?_) fun _ _ z => z))))
      refine wpAny_bind (wpAny_comp_letGo (cenv := { ce with scope := relabel scope env }) k4 _ s'' m (fun x hx hl => ?_) hn fun h' m' _ q => wpAny_pure (hr' h' q))
      rcases List.mem_append.mp hx with z | z
      · exact lets x (List.mem_of_mem_drop z) hl
      · exact lets x (List.mem_of_mem_take z) hl
end
/-! ## the block -/
abbrev blkX (X : Cx) (s : Shared) (H : Hp) (scope : Scope) (ce : Env) (fp : List Addr) (xe : Value → Shared → Prop) : Cx := { X.blk s H scope ce fp with xe := xe }
theorem inv_xe {X : Cx} {pins : List (Addr × Obj)} {σ : L2.St} {H : Hp} {s : Shared} {xe : Value → Shared → Prop} (I : Inv X pins σ H s) : Inv { X with xe := xe } pins σ H s := by
  obtain ⟨ok, i2, i3, i4, i5, i6, i7, i8, i9, i10, i11⟩ := I
  obtain ⟨o1, o2, o3, o4, o5, o6, o7, o8, o9, o10, o11, o12, o13, o14, o15, o16, o17, o18⟩ := ok
  exact ⟨⟨o1, o2, o3, o4, o5, o6, o7, o8, o9, o10, o11, o12, o13, o14, o15, o16, o17, o18⟩, i2, i3, i4, i5, i6, i7, i8, i9, i10, i11⟩
theorem takes_blkX {X : Cx} {s : Shared} {H : Hp} {scope : Scope} {ce : Env} {fp : List Addr} {W : WX} : Takes (blkX X s H scope ce fp (XE (X.blk s H scope ce fp) W)) W := by
  intro u s' ⟨a, B, sI, pins, σ, H', cls, d, e, I, nb, up, sky, na, os, ag, w⟩
  exact ⟨a, B, sI, pins, σ, H', cls, d, e, inv_xe (X := blkX X s H scope ce fp (XE (X.blk s H scope ce fp) W)) (xe := fun _ _ => False) I, nb, up, sky, na, os, ag, w⟩
section
variable {X : Cx} {pins : List (Addr × Obj)} {σ : L2.St} {s3 s' : Shared} {H3 : Hp} {scope : Scope} {ce : Env} {fp : List Addr} {W : WX} {u : Value}
theorem block_error {use : Option (Value → Sem Unit)} {Qf : Value → Shared → Prop} {acc : Value} (tk : Takes X W) (hs : X.stack = X.env :: X.outer) (hf : X.env.frame = some X.env.locals) (I3 : Inv X pins σ H3 s3) (f3 : ∀ b ∈ fp, FpOk X pins H3 b ∧ b < s3.heap.objs.size)
    (hce : ce.frame = X.env.frame) (cL : ce.locals = s3.heap.objs.size) (x : XE (X.blk s3 H3 scope ce fp) (fun cls d _ H => W cls d σ H) u s') :
    notedBy (model X.prog X.w) X.A ce (fun e s' => cpE (model X.prog X.w) X.A X.xe use Qf acc ce (.error e) s') u s' := by
  obtain ⟨a, B, sI, pE, σE, HE, cls, d, rfl, I, nb, up, sky, na, os, ag, w⟩ := x
  have hfr : X.A.frames = some (X.env :: X.outer) := by rw [I3.ok.frames, hs]
  have sky : Sky B (X.env :: X.outer) a (Zc cls d) ce.locals s'.heap := by
    rw [← hs]
    exact sky
  have nC : HE ce.locals = none := I.free
  have fC := I3.fpOk (Nat.le_refl _) (by rw [← cL]; exact nC)
  rw [← cL] at fC
  have hne : ce.locals ≠ X.env.locals := fC.2.1
  unfold notedBy
  rw [note_same hce]
  refine sky_note Zc.steady hfr hf hne sky fun h1 held up1 => ?_
  obtain ⟨m, ⟨oC, es, ep, eC, dC', kC, fiC⟩, _⟩ := I.loc
  have eC : sI.heap.get? ce.locals = some oC := eC
  obtain ⟨sl1, eC1⟩ := (up.trans up1) _ oC eC fun vs z => by rw [dC'] at z; cases z
  refine ⟨m, ⟨_, es, ep, eC1, dC', kC, fiC⟩, fun h2 sb => ?_⟩
  obtain ⟨stays, an, fr, oe, vs, T, oT, ts, ea, za, da, v1, Tn, Ta, eT, dT, t3⟩ := held
  -- other than the block's names
  have neC : ∀ b o, h1.get? b = some o → (∀ vs, o.data = .fields vs → b ≠ ce.locals) := fun b o e vs q z => by
    subst z
    rw [eC1] at e
    cases e
    rw [show oC.data = Data.fields vs from q] at dC'
    cases dC'
  have ea2 : h2.get? a = some oe := (sb.2 a (neC a oe ea vs da)).trans ea
  have eT2 : h2.get? T = some oT := (sb.2 T (neC T oT eT ts dT)).trans eT
  have hid : ∀ {h : Heap} {b : Addr} {o : Obj}, (PySem.W.hideAll h [ce.locals]).get? b = some o → b ≠ ce.locals ∧ h.get? b = some o := fun {h b o} e => by
    refine ⟨fun z => ?_, PySem.W.of_hideAll _ e⟩
    rw [z, PySem.W.hideAll_none [ce.locals] (by simp)] at e
    cases e
  have hidN : ∀ {h : Heap} {b : Addr}, h.get? b = none → (PySem.W.hideAll h [ce.locals]).get? b = none := fun {h b} e => by
    cases q : (PySem.W.hideAll h [ce.locals]).get? b with
    | none => rfl
    | some o => rw [(hid q).2] at e; cases e
  have held2 : HandSPX.HeldZ (PySem.W.hideAll B [ce.locals]) (X.env :: X.outer) a (Zc cls d) X.env.locals h2 := by
    refine ⟨fun b o e => (sb.2 b (hid e).1).trans (stays b o (hid e).2), hidN an, ?_, oe, vs, T, oT, ts, ea2, za, da, v1, hidN Tn, Ta, eT2, dT, t3⟩
    have fr' : h1.FunFrames (PySem.W.hideAll B [ce.locals]) (X.env :: X.outer) := L2.funFrames_none fr fun b hb => hidN (fr.mem hb).1
    have mem : ∀ b ∈ frs (X.env :: X.outer), b ≠ ce.locals := fun b hb z => by
      rw [z] at hb
      rcases List.mem_filterMap.mp hb with ⟨e, he, q⟩
      rcases List.mem_cons.mp he with rfl | he
      · rw [hf] at q
        exact hne (Option.some.inj q).symm
      · exact fC.2.2.1 (List.mem_filterMap.mpr ⟨e, he, q⟩)
    clear fr
    have go : ∀ l : List Env, (∀ b ∈ frs l, b ≠ ce.locals) → h1.FunFrames (PySem.W.hideAll B [ce.locals]) l → h2.FunFrames (PySem.W.hideAll B [ce.locals]) l := by
      intro l
      induction l with
      | nil => exact fun _ _ => trivial
      | cons e l ih =>
        intro hm ⟨z1, ⟨L, o, z2, z3, z4, z5⟩, z6⟩
        exact ⟨z1, ⟨L, o, z2, z3, (sb.2 L (hm L (List.mem_filterMap.mpr ⟨e, List.mem_cons_self, z2⟩))).trans z4, z5⟩, ih (fun b hb => hm b (by
          obtain ⟨e', he', q⟩ := List.mem_filterMap.mp hb
          exact List.mem_filterMap.mpr ⟨e', List.mem_cons_of_mem _ he', q⟩)) z6⟩
    exact go _ mem fr'
  unfold PySem.passOn
  refine wpAny_bind (wpAny_field (s := { s' with heap := h2 }) ea2 da v1 ?_)
  rw [if_neg (by simp : ¬ ((Value.ref T == Value.none) = true)), hce, hf]
  refine wpAny_bind (HandSPX.setFlight_onZ held2 fun h3 held3 up3 => ?_)
  refine wpAny_throw (tk _ _ ?_)
  have Ib : Inv X pins σ HE sI := I3.call' (ch := fp) I.os I.base I.hok I.bare fun b hb => ⟨(f3 b hb).1.2.2.2.1, (f3 b hb).1.2.1, (f3 b hb).1.2.2.2.2.1, (f3 b hb).1.2.2.2.2.2⟩
  have I0 := Ib.turned (t' := sI.toks) (h' := PySem.W.hideAll sI.heap [ce.locals]) (it := ce.locals) (fun b o hb e => PySem.W.hideAll_get _ e (by simpa using hb)) nC hne fC.2.2.2.1 fC.2.2.2.2.1 fC.2.2.2.2.2
  refine ⟨a, PySem.W.hideAll B [ce.locals], _, pins, σ, HE, cls, d, rfl, I0, fun b o e hb => PySem.W.hideAll_get _ (nb b o (hid e).2 hb) (by simpa using (hid e).1), fun b o e hd => ?_, .inr (.inr (by rw [hs]; exact held3)), na, os, ag, w⟩
  obtain ⟨sl, q⟩ := (up.trans up1) b o (hid e).2 hd
  obtain ⟨sl2, q2⟩ := up3 b { o with slots := sl } ((sb.2 b (hid e).1).trans q) hd
  exact ⟨sl2, q2⟩
end
section
variable {X : Cx} {W : WX}
theorem lc_coreE {pins : List (Addr × Obj)} {s : Shared} {σ : L2.St} {H : Hp} {Q : VK} {elt tg iter : Expr} {ifs : List Expr} {scope : Scope} {own : List (Str × Nat)} {pos pos' : Pos} {wi : TI} {g : TG} {tt : TT} {te : TE} {use : Option (Value → Sem Unit)} {Qf : Value → Shared → Prop}
    (hc : X.calm = true) (hN : X.N.Nodup) (tk : Takes X W) (hst : X.stack = X.env :: X.outer) (hf : X.env.frame = some X.env.locals) (I : Inv X pins σ H s) (hi : PI X tg iter wi) (ok : BlkOk X.N X.env.scope scope own)
    (hg : ∀ (s : Shared) (H : Hp) (C : Addr) (cl : List (Str × Addr)) (fp : List Addr), PG (X.blk s H scope (compEnvC scope cl C X.env) fp) tg g)
    (ht : ∀ (s : Shared) (H : Hp) (C : Addr) (cl : List (Str × Addr)) (fp : List Addr), PTs (X.blk s H scope (compEnvC scope cl C X.env) fp) ifs tt)
    (he : ∀ (s : Shared) (H : Hp) (C : Addr) (cl : List (Str × Addr)) (fp : List Addr) (xe : Value → Shared → Prop), Takes (blkX X s H scope (compEnvC scope cl C X.env) fp xe) (fun cls d _ H => W cls d σ H) → PE (blkX X s H scope (compEnvC scope cl C X.env) fp xe) elt te)
    (hsx : ∀ x, foldedSetIterable iter X.env x = pure x) (h : tLc wi g tt te (own.map (·.2)) σ H Q)
    (hRR : ∀ D C s' m H', Inv X pins σ H' s' → Q (.ref D) H' → s'.heap.Ns C m → FpOk X pins H' C → compPost (model X.prog X.w) X.A X.xe use Qf (.ref D) C (.ok .next) s') :
    wpAny (model X.prog X.w) X.A (comprehension (.ListComp elt [⟨tg, iter, ifs, 0⟩] scope pos) scope X.env pos' (newList []) false (eval iter X.env) use) Qf X.xe s := by
  have clo : closureFor scope X.env = pure (cloFrom X.env.cells scope.names []) := closure_ok fun y hy e => (ok.free y hy e).elim (fun k => I.ok.has _ (.inl k)) fun k => I.ok.has _ (.inr k)
  refine comp_freeE (use := use) rfl hsx clo ok.kind (fun y hy e => (ok.uniq y hy).trans (by rw [e])) (thn (hi.run pins s σ H _ I h) fun xv s1 hx => thn hx fun itv s2 h2 => ?_)
  obtain ⟨it, fp, tn, J, H2, ev, I2, T, st2, f2, q⟩ := h2
  subst ev
  refine wpAny_newObj_type (newEnv_comp ?_) (by show 0 ≤ sizeLine; decide)
  generalize hD : s2.heap.objs.size = D
  have freeD : H2 D = none := I2.hok.fresh (Nat.le_of_eq hD)
  obtain ⟨Wm, ⟨m0, w0⟩, turn⟩ := q D freeD
  generalize hs3 : ({ s2 with heap := s2.heap.push { cls := .type "list", data := .seq ([] : List Value).toArray } } : Shared) = s3
  have I3 : Inv X pins σ (upd H2 D (.lst [])) s3 := by
    rw [← hs3]
    exact I2.laid (t' := s2.toks) (fun b o e => Heap.get?_push_of_some _ e) (Nat.le_of_eq hD) ⟨Nat.zero_le _, [], 0, .nil, by rw [← hD]; exact Heap.get?_push_size _ rfl⟩
  have hp3 : s3.heap = s2.heap.push { cls := .type "list", data := .seq ([] : List Value).toArray } := by rw [← hs3]
  have below : ∀ b ∈ fp, b < s2.heap.objs.size := fun b hb => (fun ⟨o, e, _⟩ => Heap.lt_size e) (T.obj _ _ st2 b hb)
  have f3 : ∀ b ∈ fp, FpOk X pins (upd H2 D (.lst [])) b ∧ b < s3.heap.objs.size := fun b hb => by
    have z := below b hb
    exact ⟨⟨by rw [upd_ne (by rw [← hD]; exact Nat.ne_of_lt z)]; exact (f2 b hb).1, (f2 b hb).2⟩, by rw [hp3, Heap.size_push]; exact Nat.lt_succ_of_lt z⟩
  have st3 : tn 0 s3.heap := T.keep _ _ _ st2 fun b _ o e => hp3 ▸ Heap.get?_push_of_some _ e
  have I4 := block_start I3 ok hN f3
  have pg := hg s3 (upd H2 D (.lst [])) s3.heap.objs.size (cellsFrom (s3.heap.objs.size + 1) scope.names (cloFrom X.env.cells scope.names [])) fp
  have pt := ht s3 (upd H2 D (.lst [])) s3.heap.objs.size (cellsFrom (s3.heap.objs.size + 1) scope.names (cloFrom X.env.cells scope.names [])) fp
  have pe := he s3 (upd H2 D (.lst [])) s3.heap.objs.size (cellsFrom (s3.heap.objs.size + 1) scope.names (cloFrom X.env.cells scope.names [])) fp _ takes_blkX
  show codeAny _ _ (.compStart (.ListComp elt [⟨tg, iter, ifs, 0⟩] scope pos) 0 (.ref it) (.ref D) (compEnvC scope (cellsFrom (s3.heap.objs.size + 1) scope.names (cloFrom X.env.cells scope.names [])) s3.heap.objs.size X.env))
    (cpE (model X.prog X.w) X.A X.xe use Qf (.ref D) (compEnvC scope (cellsFrom (s3.heap.objs.size + 1) scope.names (cloFrom X.env.cells scope.names [])) s3.heap.objs.size X.env)) { s3 with heap := pushCells (s3.heap.push { cls := .type "dict", data := .dict #[] }) scope.names }
  have clear0 : ∀ b ∈ fp, (upd H2 D (.lst [])) b = none := fun b hb => (f3 b hb).1.1
  generalize hce : compEnvC scope (cellsFrom (s3.heap.objs.size + 1) scope.names (cloFrom X.env.cells scope.names [])) s3.heap.objs.size X.env = ce at I4 pg pt pe ⊢
  have cL : ce.locals = s3.heap.objs.size := by rw [← hce]; rfl
  have cF : ce.frame = X.env.frame := by rw [← hce]; rfl
  generalize hH3 : upd H2 D (.lst []) = H3 at I3 I4 pg pt pe w0 clear0 f3
  generalize hs4 : ({ s3 with heap := pushCells (s3.heap.push { cls := .type "dict", data := .dict #[] }) scope.names } : Shared) = s4 at I4 ⊢
  have st4 : tn 0 s4.heap := T.keep _ _ _ st3 fun b _ o e => hs4 ▸ pushCells_keeps _ _ _ _ (Heap.get?_push_of_some _ e)
  have still : ∀ {σ' : L2.St} {H' : Hp} {s' : Shared}, Inv (X.blk s3 H3 scope ce fp) [] σ' H' s' → (∀ b ∈ fp, H' b = none) → ∀ b ∈ fp, FpOk (X.blk s3 H3 scope ce fp) [] H' b := fun J hn b hb =>
    ⟨hn b hb, (J.ok.exf b hb).1, J.ok.exfs b hb, .inl hb, fun x c e => (J.ok.exf b hb).2 x c e, fun p hp => nomatch (show p ∈ ([] : List (Addr × Obj)) from hp)⟩
  have loop : codeAny (model X.prog X.w) X.A (.compLoop (.ListComp elt [⟨tg, iter, ifs, 0⟩] scope pos) 0 (.ref it) (.ref D) ce) (cpE (model X.prog X.w) X.A X.xe use Qf (.ref D) ce) s4 := by
    refine compLoop_any (fun n s' => ∃ i H', Inv (X.blk s3 H3 scope ce fp) [] (wipe σ (own.map (·.2))) H' s' ∧ tn i s'.heap ∧ (∀ b ∈ fp, H' b = none) ∧ Wm i n H') (fun n s5 ⟨i, H5, I5, st5, n5, w5⟩ => ?_) m0 ⟨0, H3, I4, st4, clear0, w0⟩
    rcases turn i n H5 w5 with ⟨stop, last⟩ | ⟨go, Nx, hNx, step⟩
    · refine thnF (T.done (X.blk s3 H3 scope ce fp) rfl rfl rfl hc i [] s5 _ H5 (fun _ _ => False) I5 (still I5 n5) st5 stop) fun r s6 ⟨hr, I6⟩ => ?_
      subst hr
      have I7 : Inv X pins σ H5 s6 := I3.call' (ch := fp) I6.os I6.base I6.hok I6.bare fun b hb => (fun z => ⟨z.2.2.2.1, z.2.1, z.2.2.2.2.1, z.2.2.2.2.2⟩) (f3 b hb).1
      have nC : H5 ce.locals = none := I6.free
      obtain ⟨m, hn, _⟩ := I6.loc
      have hn : s6.heap.Ns ce.locals m := hn
      rw [cL] at hn nC
      show compPost _ _ _ _ _ _ ce.locals _ _
      rw [cL]
      exact hRR D s3.heap.objs.size s6 m H5 I7 last hn (I3.fpOk (Nat.le_refl _) nC)
    · refine thnF (T.item (X.blk s3 H3 scope ce fp) rfl rfl rfl hc i [] s5 _ H5 (fun _ _ => False) I5 (still I5 n5) st5 go) fun r s6 ⟨u, hr, h6⟩ => ?_
      subst hr
      refine thnF h6 fun _ s7 ⟨x, H7, I7, r7, y7, st7, n7⟩ => ?_
      refine thnF (pg.run _ s7 _ H7 x u _ (I7.pinned (still I7 n7) (T.obj _ _ st7)) r7 (step x H7 y7)) fun _ s8 ⟨σ8, H8, I8, hw8, q8⟩ => ?_
      refine thnF (pt.run _ s8 σ8 H8 _ I8 q8) fun b s9 ⟨H9, I9, q9⟩ => ?_
      have fin : ∀ {s' : Shared} {H' : Hp}, Inv (X.blk s3 H3 scope ce fp) ([] ++ pinsAt fp s7.heap) σ8 H' s' → Nx H' → ∃ m, m < n ∧ ∃ i H', Inv (X.blk s3 H3 scope ce fp) [] (wipe σ (own.map (·.2))) H' s' ∧ tn i s'.heap ∧ (∀ b ∈ fp, H' b = none) ∧ Wm i m H' := by
        intro s' H' J nx
        obtain ⟨m', hm, w'⟩ := hNx H' nx
        have pin : ∀ b ∈ fp, ∀ o, s7.heap.get? b = some o → s'.heap.get? b = some o ∧ H' b = none := fun b hb o e => (fun z => ⟨z.1, z.2.1⟩) (J.pin (b, o) (List.mem_append_right _ (List.mem_append_right _ (mem_pinsAt hb e))))
        refine ⟨m', hm, i + 1, H', (J.unpinned (pins := [])).weak (by rw [← hw8, wipe_length]) (fun j v e => ?_), T.keep _ _ _ st7 fun b hb o e => (pin b hb o e).1, fun b hb => (fun ⟨o, e, _⟩ => (pin b hb o e).2) (T.obj _ _ st7 b hb), w'⟩
        rw [← hw8] at e
        exact (wipe_some e).1
      cases b with
      | false =>
        rw [if_neg (by decide)] at q9 ⊢
        exact fin I9 q9
      | true =>
        rw [if_pos rfl] at q9 ⊢
        refine wpAny_mono (pe.run _ s9 σ8 H9 _ (inv_xe I9) q9) (fun z s10 ⟨yv, H10, I10, r10, acc, hD10, hz10, nx⟩ => ?_) fun u s' x => block_error tk hst hf I3 f3 cF cL x
        have I11 : Inv (X.blk s3 H3 scope ce fp) ([] ++ pinsAt fp s7.heap) σ8 H10 s10 := inv_xe (xe := fun _ _ => False) I10
        exact wpAny_noRaise (app_ok (X := X.blk s3 H3 scope ce fp) I11 hD10 hz10 r10 fun s11 I12 => fin I12 nx)
  exact codeAny_compStart_list loop (T.self X.A 0 _ _ _ st4 loop)
end
/-- the turns, the element let out what it raises -/
def lcLX (p : It') (g : DG) (dt : DT) (de : DE) (δ0 : Sl) (k : Nat) : List PyData → Mu → R Unit
  | [], μ => if chk p μ then .ok () μ else .bad
  | x :: xs, μ => if chk p μ then (match g (.t x) δ0 μ with
    | .nx δ1 μ1 => (nox (dt δ1 μ1)).bind fun b μ2 => if b then (de δ1 μ2).bind fun y μ3 => (match pushAt k y μ3 with
        | some μ4 => lcLX p g dt de δ0 k xs μ4
        | none => .bad) else lcLX p g dt de δ0 k xs μ2
    | _ => .bad) else .bad
def dLcX (live : Bool) (vs : List Nat) (di : DI) (g : DG) (dt : DT) (de : DE) : DE := fun δ μ => (di δ μ).bind fun p μ =>
  (lcLX p g dt de (wipeD δ vs) μ.length p.1 (μ ++ [.l []])).bind fun _ μ' => lcEnd live μ.length μ'
section
variable {X : Cx} {W : WX} {elt tg iter : Expr} {ifs : List Expr} {scope : Scope} {own : List (Str × Nat)} {pos : Pos} {di : DI} {g : DG} {ws : List Nat} {dt : DT} {de : DE}
/-- what the turns are -/
theorem lc_readX {G : Gd} {live : Bool} {σ : L2.St} {H : Hp} {Q : VK} {vs : List Nat} (hws : ∀ j ∈ ws, j ∈ vs)
    (h : lift G W (RelD G) (dLcX live vs di g dt de) σ H Q) : tLc (lift G W (relI G) di) (liftG G W0 ws g) (lift G W0 sameR dt) (lift G (fun c d _ H => W c d σ H) (RelD G) de) vs σ H Q := by
  obtain ⟨w, δ, μ, e, L, S, h⟩ := h
  refine ⟨w, δ, μ, e, L, S, Pst.bind h fun p J w1 μ1 E1 L1 I1 h1 => ?_⟩
  obtain ⟨xs, o⟩ := p
  intro D hD
  have S1 := S.ext L E1
  have EA := Ext.add (a := D) (o := .lst []) L1 hD
  have LA' : Live G (w1.add D (.lst [])) (μ1 ++ [.l []]) := Live.add L1 hD ⟨Nat.zero_le _, RelL.nil⟩
  have hk : μ1.length = w1.N := L1.len
  refine ⟨fun i m H => ∃ w μ, w.H = H ∧ Ext (w1.add D (.lst [])) w ∧ Live G w μ ∧ m = xs.length - i ∧ i ≤ xs.length ∧
      Pst G W σ (RelD G) Q w1 ((lcLX (xs, o) g dt de (wipeD δ vs) μ1.length (xs.drop i) μ).bind fun _ μ' => lcEnd live μ1.length μ'),
    ⟨xs.length, _, _, rfl, Ext.refl _, LA', rfl, Nat.zero_le _, h1⟩, ?_⟩
  rintro i m H ⟨w2, μ2, rfl, E2, L2, rfl, hi, h2⟩
  have E12 : Ext w1 w2 := EA.trans E2
  have mk : ∀ w', Ext (w1.add D (.lst [])) w' → w'.m μ1.length = D := fun w' E => by
    rw [hk, E.ms w1.N (Nat.lt_succ_self _), Wd.add_at]
  by_cases hlt : i < xs.length
  · right
    rw [List.drop_eq_getElem_cons hlt, lcLX] at h2
    split at h2
    · rename_i ck
      refine ⟨I1.go i w2 μ2 E12 L2 ck hlt, fun H => ∃ w μ, w.H = H ∧ Ext (w1.add D (.lst [])) w ∧ Live G w μ ∧
        Pst G W σ (RelD G) Q w1 ((lcLX (xs, o) g dt de (wipeD δ vs) μ1.length (xs.drop (i + 1)) μ).bind fun _ μ' => lcEnd live μ1.length μ'), ?_, fun v H' y => ?_⟩
      · rintro H' ⟨w3, μ3, rfl, E3, L3, h3⟩
        exact ⟨xs.length - (i + 1), by omega, w3, μ3, rfl, E3, L3, rfl, hlt, h3⟩
      · obtain ⟨w3, rfl, E3, L3, d, ed, r3⟩ := I1.yld i w2 μ2 v H' E12 L2 ck hlt y
        have ed' : d = xs[i] := Option.some.inj (ed.symm.trans (List.getElem?_eq_getElem hlt))
        subst ed'
        have S3 := ((S1.ext L1 E12).ext L2 E3).wipe vs
        refine ⟨w3, wipeD δ vs, μ2, .t xs[i], rfl, L3, S3, RelD.t r3, ?_⟩
        cases q : g (.t xs[i]) (wipeD δ vs) μ2 with
        | nx δ4 μ4 =>
          rw [q] at h2
          dsimp only at h2
          intro σ4 w4 hl4 hj4 E4 L4 S4
          have E24 : Ext (w1.add D (.lst [])) w4 := (E2.trans E3).trans E4
          refine ⟨wipe_same hl4 fun j hj => hj4 j fun z => hj (hws j z), w4, δ4, μ4, rfl, L4, S4, ?_⟩
          cases q4 : dt δ4 μ4 with
          | ok b μ5 =>
            rw [q4] at h2
            intro b' w5 E5 L5 eb
            subst eb
            have E25 := E24.trans E5
            cases b' with
            | true =>
              have h2 : Pst G W σ (RelD G) Q w1 (((de δ4 μ5).bind fun y μ3 => (match pushAt μ1.length y μ3 with
                | some μ4 => lcLX (xs, o) g dt de (wipeD δ vs) μ1.length (xs.drop (i + 1)) μ4
                | none => .bad)).bind fun _ μ' => lcEnd live μ1.length μ') := h2
              refine iteT ⟨w5, δ4, μ5, rfl, L5, S4.ext L4 E5, ?_⟩
              cases q5 : de δ4 μ5 with
              | ok y μ6 =>
                rw [q5] at h2
                intro u w6 E6 L6 r6
                have h2 : Pst G W σ (RelD G) Q w1 ((match pushAt μ1.length y μ6 with
                  | some μ4 => lcLX (xs, o) g dt de (wipeD δ vs) μ1.length (xs.drop (i + 1)) μ4
                  | none => .bad).bind fun _ μ' => lcEnd live μ1.length μ') := h2
                have E26 := E25.trans E6
                cases y with
                | t z =>
                  cases e6 : μ6[μ1.length]? with
                  | some ob =>
                    cases ob with
                    | l acc6 =>
                      by_cases hz : acc6.length < sizeLine
                      case neg =>
                        have ep : pushAt μ1.length (.t z) μ6 = none := by unfold pushAt; rw [e6]; exact if_neg hz
                        rw [ep] at h2
                        exact h2.elim
                      have ep : pushAt μ1.length (.t z) μ6 = some (μ6.set μ1.length (.l (acc6 ++ [z]))) := by unfold pushAt; rw [e6]; exact if_pos hz
                      rw [ep] at h2
                      dsimp only at h2
                      obtain ⟨ho, hz6, hh⟩ := L6.at_ _ _ e6
                      have hk6 : μ1.length < w6.N := by have := (List.getElem?_eq_some_iff.mp e6).1; rw [L6.len] at this; exact this
                      cases ho with
                      | lst us =>
                        rw [RelD] at r6
                        refine ⟨us, by rw [← mk w6 E26]; exact hz6, by rw [← hh.2.length]; exact hz, ?_⟩
                        have LS' := Live.set (q := .l (acc6 ++ [z])) (o := .lst (us ++ [u])) L6 hk6 ⟨by rw [List.length_append]; exact hz, hh.2.append (RelL.one r6)⟩
                        have ES' := Ext.set (o := .lst (us ++ [u])) L6 hk6
                        exact ⟨⟨upd w6.H (w6.m μ1.length) (.lst (us ++ [u])), w6.m, w6.N⟩, _, by show upd w6.H (w6.m μ1.length) _ = _; rw [mk w6 E26], E26.trans ES', LS', h2⟩
                      | _ => exact hh.elim
                    | ins _ _ =>
                      have ep : pushAt μ1.length (.t z) μ6 = none := by unfold pushAt; rw [e6]
                      rw [ep] at h2
                      exact h2.elim
                  | none =>
                    have ep : pushAt μ1.length (.t z) μ6 = none := by unfold pushAt; rw [e6]
                    rw [ep] at h2
                    exact h2.elim
                | _ => exact h2.elim
              | ex c p μ6 =>
                rw [q5] at h2
                exact fun C d w' g' E L x => h2 C d w' g' ((EA.trans E25).trans E) L x
              | bad => rw [q5] at h2; exact h2.elim
            | false =>
              have h2 : Pst G W σ (RelD G) Q w1 ((lcLX (xs, o) g dt de (wipeD δ vs) μ1.length (xs.drop (i + 1)) μ5).bind fun _ μ' => lcEnd live μ1.length μ') := h2
              exact iteF ⟨w5, μ5, rfl, E25, L5, h2⟩
          | ex c p μ5 => rw [q4] at h2; exact h2.elim
          | bad => rw [q4] at h2; exact h2.elim
        | ex c p δ4 μ4 => rw [q] at h2; exact h2.elim
        | bk _ _ => rw [q] at h2; exact h2
        | ct _ _ => rw [q] at h2; exact h2
        | rt _ _ => rw [q] at h2; exact h2
        | bad => rw [q] at h2; exact h2
    · exact h2.elim
  · left
    have ei : i = xs.length := by omega
    subst ei
    rw [List.drop_length, lcLX] at h2
    split at h2
    · rename_i ck
      refine ⟨I1.stop w2 μ2 E12 L2 ck, ?_⟩
      have h2 : Pst G W σ (RelD G) Q w1 (lcEnd live μ1.length μ2) := h2
      unfold lcEnd at h2
      split at h2
      · rename_i acc e6
        obtain ⟨ho, hz6, hh⟩ := L2.at_ _ _ e6
        have hk6 : μ1.length < w2.N := by have := (List.getElem?_eq_some_iff.mp e6).1; rw [L2.len] at this; exact this
        cases ho with
        | lst us =>
          split at h2
          · have LC := L2.cut (n := μ1.length + 1) hk6
            have EC := E12.cut (n := μ1.length + 1) (by rw [hk]; exact Nat.le_succ _) hk6
            exact h2 (.ref D) (w2.cut (μ1.length + 1)) EC LC (by rw [RelD]; exact ⟨Nat.lt_succ_self _, by show _ = V.ref (w2.m μ1.length); rw [mk w2 E2]⟩)
          · have LC := L2.cut (n := μ1.length) (Nat.le_of_lt hk6)
            have EC := E12.cut (n := μ1.length) (Nat.le_of_eq hk.symm) (Nat.le_of_lt hk6)
            refine h2 (.ref D) (w2.cut μ1.length) EC LC (RelD.t ?_)
            rw [Rel]
            refine ⟨D, us, rfl, by rw [← mk w2 E2]; exact hz6, fun n hn q => ?_, hh.1, RelL.cut (Nat.le_of_lt hk6) _ _ hh.2⟩
            have hn : n < μ1.length := hn
            have q : w2.m n = w2.m μ1.length := by rw [mk w2 E2]; exact q
            have := L2.inj n μ1.length (Nat.lt_trans hn hk6) hk6 q
            omega
        | _ => exact hh.elim
      · exact h2.elim
    · exact h2.elim
theorem le_lcX (live : Bool) (hc : X.calm = true) (hN : X.N.Nodup) (tk : Takes X W) (hst : X.stack = X.env :: X.outer) (hf : X.env.frame = some X.env.locals) (hi : LI X W tg iter di) (ok : BlkOk X.N X.env.scope scope own)
    (hg : ∀ (s : Shared) (H : Hp) (C : Addr) (cl : List (Str × Addr)) (fp : List Addr), LG (X.blk s H scope (compEnvC scope cl C X.env) fp) W0 tg ws g)
    (ht : ∀ (s : Shared) (H : Hp) (C : Addr) (cl : List (Str × Addr)) (fp : List Addr), LTs (X.blk s H scope (compEnvC scope cl C X.env) fp) W0 ifs dt)
    (he : ∀ (W' : WX) (s : Shared) (H : Hp) (C : Addr) (cl : List (Str × Addr)) (fp : List Addr) (xe : Value → Shared → Prop), Takes (blkX X s H scope (compEnvC scope cl C X.env) fp xe) W' → LE (blkX X s H scope (compEnvC scope cl C X.env) fp xe) W' elt de)
    (hws : ∀ j ∈ ws, j ∈ own.map (·.2)) (hs : ∀ x, foldedSetIterable iter X.env x = pure x := by intro _; rfl) : LE X W (.ListComp elt [⟨tg, iter, ifs, 0⟩] scope pos) (dLcX live (own.map (·.2)) di g dt de) := by
  refine ⟨fun pins s σ H Q I h => ?_⟩
  rw [eval_ListComp]
  refine lc_coreE (te := lift (gx X) (fun c d _ H => W c d σ H) (RelD (gx X)) de) hc hN tk hst hf I hi ok hg ht (fun s H C cl fp xe t => he _ s H C cl fp xe t) hs (lc_readX hws h) fun D C s' m H' I' q hn f => ⟨m, hn, fun h'' sb => ?_⟩
  obtain ⟨f0, f1, f2, f3, f4, f5⟩ := f
  exact ⟨.ref D, H', I'.turned (t' := s'.toks) (fun b o hb e => (sb.2 b hb).trans e) f0 f1 f3 f4 f5, rfl, q⟩
end
/-- where nothing is raised it is the other one -/
theorem lcLX_ok {p : It'} {g : DG} {dt : DT} {de : DE} {δ0 : Sl} {k : Nat} : ∀ {xs : List PyData} {μ μ' : Mu}, lcL p g dt de δ0 k xs μ = .ok () μ' → lcLX p g dt de δ0 k xs μ = .ok () μ'
  | [], μ, μ', h => by rw [lcL] at h; rw [lcLX]; exact h
  | x :: xs, μ, μ', h => by
    rw [lcL] at h
    rw [lcLX]
    split at h
    · rename_i ck
      rw [if_pos ck]
      cases q : g (.t x) δ0 μ with
      | nx δ1 μ1 =>
        rw [q] at h
        dsimp only at h ⊢
        cases q2 : nox (dt δ1 μ1) with
        | ok b μ2 =>
          rw [q2] at h
          cases b with
          | false => exact lcLX_ok (h : lcL p g dt de δ0 k xs μ2 = .ok () μ')
          | true =>
            have h : (nox (de δ1 μ2)).bind (fun y μ3 => (match pushAt k y μ3 with
              | some μ4 => lcL p g dt de δ0 k xs μ4
              | none => .bad)) = .ok () μ' := h
            show (de δ1 μ2).bind (fun y μ3 => (match pushAt k y μ3 with
              | some μ4 => lcLX p g dt de δ0 k xs μ4
              | none => .bad)) = .ok () μ'
            cases q3 : de δ1 μ2 with
            | ok y μ3 =>
              rw [q3] at h
              have h : (match pushAt k y μ3 with
                | some μ4 => lcL p g dt de δ0 k xs μ4
                | none => .bad) = .ok () μ' := h
              show (match pushAt k y μ3 with
                | some μ4 => lcLX p g dt de δ0 k xs μ4
                | none => .bad) = .ok () μ'
              cases q4 : pushAt k y μ3 with
              | some μ4 => rw [q4] at h; exact lcLX_ok h
              | none => rw [q4] at h; cases h
            | ex c pp μ3 => rw [q3] at h; cases h
            | bad => rw [q3] at h; cases h
        | ex c pp μ2 => rw [q2] at h; cases h
        | bad => rw [q2] at h; cases h
      | bk _ _ => rw [q] at h; cases h
      | ct _ _ => rw [q] at h; cases h
      | rt _ _ => rw [q] at h; cases h
      | ex _ _ _ _ => rw [q] at h; cases h
      | bad => rw [q] at h; cases h
    · cases h
theorem dLcX_ok {live : Bool} {vs : List Nat} {di : DI} {g : DG} {dt : DT} {de : DE} {δ : Sl} {μ μ' : Mu} {x : D} (h : dLc live vs di g dt de δ μ = .ok x μ') : dLcX live vs di g dt de δ μ = .ok x μ' := by
  unfold dLc at h
  unfold dLcX
  cases q : di δ μ with
  | ok p μ1 =>
    rw [q] at h
    have h : (lcL p g dt de (wipeD δ vs) μ1.length p.1 (μ1 ++ [.l []])).bind (fun _ μ' => lcEnd live μ1.length μ') = .ok x μ' := h
    show (lcLX p g dt de (wipeD δ vs) μ1.length p.1 (μ1 ++ [.l []])).bind (fun _ μ' => lcEnd live μ1.length μ') = .ok x μ'
    cases q2 : lcL p g dt de (wipeD δ vs) μ1.length p.1 (μ1 ++ [.l []]) with
    | ok u μ2 => rw [q2] at h; rw [lcLX_ok q2]; exact h
    | ex c pp μ2 => rw [q2] at h; cases h
    | bad => rw [q2] at h; cases h
  | ex c pp μ2 => rw [q] at h; cases h
  | bad => rw [q] at h; cases h
end TV
namespace TW
open PySem PySem.Spec PyProof.Rows L2 TV
def top (i : Nat) : Stmt := PySem.Challenge.pw_loopsheld_k20_texts_of_terms.main.body.getD i (.Pass ⟨0, 0, 0, 0⟩)
def d_term_text : He.DefD := ⟨("term_text", none), "term_text", "term_text", defArgs (top 11), defBody (top 11), defScope (top 11), [], []⟩
def d_read_term : He.DefD := ⟨("read_term", none), "read_term", "read_term", defArgs (top 13), defBody (top 13), defScope (top 13), [], []⟩
def d__law_number : He.DefD := ⟨("_law_number", none), "_law_number", "_law_number", defArgs (top 15), defBody (top 15), defScope (top 15), [], []⟩
def d__law_draws : He.DefD := ⟨("_law_draws", none), "_law_draws", "_law_draws", defArgs (top 16), defBody (top 16), defScope (top 16), [], []⟩
def d__law_next : He.DefD := ⟨("_law_next", none), "_law_next", "_law_next", defArgs (top 17), defBody (top 17), defScope (top 17), [], []⟩
def d__law_more : He.DefD := ⟨("_law_more", none), "_law_more", "_law_more", defArgs (top 18), defBody (top 18), defScope (top 18), [], []⟩
def d__law_pick : He.DefD := ⟨("_law_pick", none), "_law_pick", "_law_pick", defArgs (top 19), defBody (top 19), defScope (top 19), [], []⟩
def d__law_term : He.DefD := ⟨("_law_term", none), "_law_term", "_law_term", defArgs (top 20), defBody (top 20), defScope (top 20), [], []⟩
def d__law_text : He.DefD := ⟨("_law_text", none), "_law_text", "_law_text", defArgs (top 21), defBody (top 21), defScope (top 21), [], []⟩
def d__law_integer : He.DefD := ⟨("_law_integer", none), "_law_integer", "_law_integer", defArgs (top 22), defBody (top 22), defScope (top 22), [], []⟩
def d__law_read : He.DefD := ⟨("_law_read", none), "_law_read", "_law_read", defArgs (top 23), defBody (top 23), defScope (top 23), [], []⟩
def d__law_entries : He.DefD := ⟨("_law_entries", none), "_law_entries", "_law_entries", defArgs (top 24), defBody (top 24), defScope (top 24), [], []⟩
def d__law_due : He.DefD := ⟨("_law_due", none), "_law_due", "_law_due", defArgs (top 25), defBody (top 25), defScope (top 25), [], []⟩
def d__law_told : He.DefD := ⟨("_law_told", none), "_law_told", "_law_told", defArgs (top 26), defBody (top 26), defScope (top 26), [], []⟩
def d__law_refused : He.DefD := ⟨("_law_refused", none), "_law_refused", "_law_refused", defArgs (top 27), defBody (top 27), defScope (top 27), [], []⟩
def d_law : He.DefD := ⟨("law", none), "law", "law", defArgs (top 28), defBody (top 28), defScope (top 28), [], []⟩
def cbody : Stmt → List Stmt
  | .ClassDef _ _ _ b _ _ _ _ _ _ _ => b
  | _ => []
abbrev mt_Reading___init__ : Stmt := (cbody (top 12)).getD 0 (.Pass ⟨0, 0, 0, 0⟩)
def d_Reading___init__ : He.DefD := ⟨("Reading", some "__init__"), "__init__", "Reading.__init__", defArgs mt_Reading___init__, defBody mt_Reading___init__, defScope mt_Reading___init__, [], []⟩
abbrev mt_Reading_sign : Stmt := (cbody (top 12)).getD 1 (.Pass ⟨0, 0, 0, 0⟩)
def d_Reading_sign : He.DefD := ⟨("Reading", some "sign"), "sign", "Reading.sign", defArgs mt_Reading_sign, defBody mt_Reading_sign, defScope mt_Reading_sign, [], []⟩
abbrev mt_Reading_is_at : Stmt := (cbody (top 12)).getD 2 (.Pass ⟨0, 0, 0, 0⟩)
def d_Reading_is_at : He.DefD := ⟨("Reading", some "is_at"), "is_at", "Reading.is_at", defArgs mt_Reading_is_at, defBody mt_Reading_is_at, defScope mt_Reading_is_at, [], []⟩
abbrev mt_Reading_take : Stmt := (cbody (top 12)).getD 3 (.Pass ⟨0, 0, 0, 0⟩)
def d_Reading_take : He.DefD := ⟨("Reading", some "take"), "take", "Reading.take", defArgs mt_Reading_take, defBody mt_Reading_take, defScope mt_Reading_take, [], []⟩
abbrev mt_Reading_integer : Stmt := (cbody (top 12)).getD 4 (.Pass ⟨0, 0, 0, 0⟩)
def d_Reading_integer : He.DefD := ⟨("Reading", some "integer"), "integer", "Reading.integer", defArgs mt_Reading_integer, defBody mt_Reading_integer, defScope mt_Reading_integer, [], []⟩
abbrev mt_Reading_term : Stmt := (cbody (top 12)).getD 5 (.Pass ⟨0, 0, 0, 0⟩)
def d_Reading_term : He.DefD := ⟨("Reading", some "term"), "term", "Reading.term", defArgs mt_Reading_term, defBody mt_Reading_term, defScope mt_Reading_term, [], []⟩
abbrev mt_Reading_entries : Stmt := (cbody (top 12)).getD 6 (.Pass ⟨0, 0, 0, 0⟩)
def d_Reading_entries : He.DefD := ⟨("Reading", some "entries"), "entries", "Reading.entries", defArgs mt_Reading_entries, defBody mt_Reading_entries, defScope mt_Reading_entries, [], []⟩
abbrev mt_Malformed___init__ : Stmt := (cbody (top 3)).getD 0 (.Pass ⟨0, 0, 0, 0⟩)
def d_Malformed___init__ : He.DefD := ⟨("Malformed", some "__init__"), "__init__", "Malformed.__init__", defArgs mt_Malformed___init__, defBody mt_Malformed___init__, defScope mt_Malformed___init__, [], []⟩
def fn : List He.DefD := ([d_term_text, d_read_term, d__law_number, d__law_draws, d__law_next, d__law_more, d__law_pick, d__law_term, d__law_text, d__law_integer, d__law_read, d__law_entries, d__law_due, d__law_told, d__law_refused, d_law, d_Reading___init__, d_Reading_sign, d_Reading_is_at, d_Reading_take, d_Reading_integer, d_Reading_term, d_Reading_entries, d_Malformed___init__] : List He.DefD)
def fa : List He.Fa := ([.glo "term_text", .glo "read_term", .glo "_law_number", .glo "_law_draws", .glo "_law_next", .glo "_law_more", .glo "_law_pick", .glo "_law_term", .glo "_law_text", .glo "_law_integer", .glo "_law_read", .glo "_law_entries", .glo "_law_due", .glo "_law_told", .glo "_law_refused", .glo "law", .exc "LoopError", .glo "LoopError", .exc "BadNumber", .glo "BadNumber", .glo "Malformed", .glo "Reading", .str "SMALL" "abcdefghijklmnopqrstuvwxyz", .str "FIGURES" "0123456789", .int "MOST_FIGURES" 20, .int "MOST_OPEN" 12, .str "NOBODY" ".", .str "NOTHING" "none", .free "all", .free "int"] : List He.Fa) ++ ([.free "isinstance", .free "len", .free "list", .free "range", .free "repr", .free "str", .free "tuple", .cls "Reading", .mkr "Reading", .meth "Reading" "__init__", .meth "Reading" "sign", .meth "Reading" "is_at", .meth "Reading" "take", .meth "Reading" "integer", .meth "Reading" "term", .meth "Reading" "entries", .noat "Reading" "at", .noat "Reading" "text"] : List He.Fa)
def ts : List He.Tab := []
def below_BadNumber : List PySem.Str := ["BadNumber"]
def ex (K : PySem.W.Frag) : Bool := (ex1B K "Malformed" "at" "LoopError") && (underB K below_BadNumber "BadNumber")
abbrev Rw : PySem.W.OpenRow := PySem.W.OpenLaw.row PySem.Challenge.rw_loopsheld_k20_texts_of_terms
abbrev hk : PySem.W.Hook := hookE 5 fa fn ts ex
def ob (s : PySem.W.SharedT) : AlE := obsEG 5 fa fn ts ex (HandSHeadRun.getT s)
theorem ob_eq (s : PySem.W.SharedT) : ob s = hk.obs s.abs := obsEG_eq (HandSHeadRun.getT_eq s)
def loose : List PySem.Str := (["term_text", "read_term", "_law_number", "_law_draws", "_law_next", "_law_more", "_law_pick", "_law_term", "_law_text", "_law_integer", "_law_read", "_law_entries", "_law_due", "_law_told", "_law_refused", "LoopError", "BadNumber", "Malformed", "Reading", "__name__", "SMALL", "FIGURES", "MOST_FIGURES", "MOST_OPEN", "NOBODY", "NOTHING"] : List PySem.Str)
structure T (w : World) (K : PySem.W.Frag) (mg : Str → Option Value) : Prop where
  says : SaysE fa fn ts ex w K
  in_ : ∃ h : Heap, K.In h ∧ h.Ns mainGlobals mg
section
variable {P : Program} {w : World} {K : PySem.W.Frag} {mg : Str → Option Value}
theorem T.g (t : T w K mg) (i : Nat) {x : Str} (h : fa[i]? = some (.glo x)) : mg x = some (.ref (He.ga K x)) := by
  obtain ⟨hp, kin, G⟩ := t.in_
  exact He.glo_ok kin G (t.says.d.fact i h)
theorem T.n (t : T w K mg) (i : Nat) {x : Str} (h : fa[i]? = some (.free x)) : mg x = none := by
  obtain ⟨hp, kin, G⟩ := t.in_
  exact He.free_ok kin G (t.says.d.fact i h)
theorem T.ci (t : T w K mg) (i : Nat) {x : Str} {n : Int} (h : fa[i]? = some (.int x n)) : ∃ u, mg x = some (.int n u) := by
  obtain ⟨hp, kin, G⟩ := t.in_
  exact He.int_ok kin G (t.says.d.fact i h)
theorem T.cs (t : T w K mg) (i : Nat) {x z : Str} (h : fa[i]? = some (.str x z)) : ∃ u, mg x = some (.str z u) := by
  obtain ⟨hp, kin, G⟩ := t.in_
  exact He.str_ok kin G (t.says.d.fact i h)
theorem T.x (t : T w K mg) (i j : Nat) {x : Str} (h : fa[i]? = some (.exc x)) (h2 : fa[j]? = some (.glo x)) : ExcF K mg x := by
  obtain ⟨hp, kin, G⟩ := t.in_
  exact exc_fact kin G (t.says.d.fact i h) (t.says.d.fact j h2)
theorem g_term_text (t : T w K mg) : mg "term_text" = some (.ref (He.ga K "term_text")) := t.g 0 rfl
theorem g_read_term (t : T w K mg) : mg "read_term" = some (.ref (He.ga K "read_term")) := t.g 1 rfl
theorem g__law_number (t : T w K mg) : mg "_law_number" = some (.ref (He.ga K "_law_number")) := t.g 2 rfl
theorem g__law_draws (t : T w K mg) : mg "_law_draws" = some (.ref (He.ga K "_law_draws")) := t.g 3 rfl
theorem g__law_next (t : T w K mg) : mg "_law_next" = some (.ref (He.ga K "_law_next")) := t.g 4 rfl
theorem g__law_more (t : T w K mg) : mg "_law_more" = some (.ref (He.ga K "_law_more")) := t.g 5 rfl
theorem g__law_pick (t : T w K mg) : mg "_law_pick" = some (.ref (He.ga K "_law_pick")) := t.g 6 rfl
theorem g__law_term (t : T w K mg) : mg "_law_term" = some (.ref (He.ga K "_law_term")) := t.g 7 rfl
theorem g__law_text (t : T w K mg) : mg "_law_text" = some (.ref (He.ga K "_law_text")) := t.g 8 rfl
theorem g__law_integer (t : T w K mg) : mg "_law_integer" = some (.ref (He.ga K "_law_integer")) := t.g 9 rfl
theorem g__law_read (t : T w K mg) : mg "_law_read" = some (.ref (He.ga K "_law_read")) := t.g 10 rfl
theorem g__law_entries (t : T w K mg) : mg "_law_entries" = some (.ref (He.ga K "_law_entries")) := t.g 11 rfl
theorem g__law_due (t : T w K mg) : mg "_law_due" = some (.ref (He.ga K "_law_due")) := t.g 12 rfl
theorem g__law_told (t : T w K mg) : mg "_law_told" = some (.ref (He.ga K "_law_told")) := t.g 13 rfl
theorem g__law_refused (t : T w K mg) : mg "_law_refused" = some (.ref (He.ga K "_law_refused")) := t.g 14 rfl
theorem g_law (t : T w K mg) : mg "law" = some (.ref (He.ga K "law")) := t.g 15 rfl
theorem x_LoopError (t : T w K mg) : ExcF K mg "LoopError" := t.x 16 17 rfl rfl
theorem g_LoopError (t : T w K mg) : mg "LoopError" = some (.ref (He.ga K "LoopError")) := t.g 17 rfl
theorem x_BadNumber (t : T w K mg) : ExcF K mg "BadNumber" := t.x 18 19 rfl rfl
theorem g_BadNumber (t : T w K mg) : mg "BadNumber" = some (.ref (He.ga K "BadNumber")) := t.g 19 rfl
theorem g_Malformed (t : T w K mg) : mg "Malformed" = some (.ref (He.ga K "Malformed")) := t.g 20 rfl
theorem g_Reading (t : T w K mg) : mg "Reading" = some (.ref (He.ga K "Reading")) := t.g 21 rfl
theorem c_SMALL (t : T w K mg) : ∃ u, mg "SMALL" = some (.str "abcdefghijklmnopqrstuvwxyz" u) := t.cs 22 rfl
theorem c_FIGURES (t : T w K mg) : ∃ u, mg "FIGURES" = some (.str "0123456789" u) := t.cs 23 rfl
theorem c_MOST_FIGURES (t : T w K mg) : ∃ u, mg "MOST_FIGURES" = some (.int 20 u) := t.ci 24 rfl
theorem c_MOST_OPEN (t : T w K mg) : ∃ u, mg "MOST_OPEN" = some (.int 12 u) := t.ci 25 rfl
theorem c_NOBODY (t : T w K mg) : ∃ u, mg "NOBODY" = some (.str "." u) := t.cs 26 rfl
theorem c_NOTHING (t : T w K mg) : ∃ u, mg "NOTHING" = some (.str "none" u) := t.cs 27 rfl
theorem n_all (t : T w K mg) : mg "all" = none := t.n 28 rfl
theorem n_int (t : T w K mg) : mg "int" = none := t.n 29 rfl
theorem n_isinstance (t : T w K mg) : mg "isinstance" = none := t.n 30 rfl
theorem n_len (t : T w K mg) : mg "len" = none := t.n 31 rfl
theorem n_list (t : T w K mg) : mg "list" = none := t.n 32 rfl
theorem n_range (t : T w K mg) : mg "range" = none := t.n 33 rfl
theorem n_repr (t : T w K mg) : mg "repr" = none := t.n 34 rfl
theorem n_str (t : T w K mg) : mg "str" = none := t.n 35 rfl
theorem n_tuple (t : T w K mg) : mg "tuple" = none := t.n 36 rfl
theorem cl_Reading (t : T w K mg) : Cls K (He.ga K "Reading") := He.cls_ok (t.says.d.fact 37 (f := .cls "Reading") rfl)
theorem mk_Reading (t : T w K mg) : Mk K (He.ga K "Reading") (He.ma K (He.ga K "Reading") "__init__") := He.mkr_ok (t.says.d.fact 38 (f := .mkr "Reading") rfl)
theorem me_Reading___init__ (t : T w K mg) : Meth K (He.ga K "Reading") "__init__" (He.ma K (He.ga K "Reading") "__init__") := He.meth_ok (t.says.d.fact 39 (f := .meth "Reading" "__init__") rfl)
theorem me_Reading_sign (t : T w K mg) : Meth K (He.ga K "Reading") "sign" (He.ma K (He.ga K "Reading") "sign") := He.meth_ok (t.says.d.fact 40 (f := .meth "Reading" "sign") rfl)
theorem me_Reading_is_at (t : T w K mg) : Meth K (He.ga K "Reading") "is_at" (He.ma K (He.ga K "Reading") "is_at") := He.meth_ok (t.says.d.fact 41 (f := .meth "Reading" "is_at") rfl)
theorem me_Reading_take (t : T w K mg) : Meth K (He.ga K "Reading") "take" (He.ma K (He.ga K "Reading") "take") := He.meth_ok (t.says.d.fact 42 (f := .meth "Reading" "take") rfl)
theorem me_Reading_integer (t : T w K mg) : Meth K (He.ga K "Reading") "integer" (He.ma K (He.ga K "Reading") "integer") := He.meth_ok (t.says.d.fact 43 (f := .meth "Reading" "integer") rfl)
theorem me_Reading_term (t : T w K mg) : Meth K (He.ga K "Reading") "term" (He.ma K (He.ga K "Reading") "term") := He.meth_ok (t.says.d.fact 44 (f := .meth "Reading" "term") rfl)
theorem me_Reading_entries (t : T w K mg) : Meth K (He.ga K "Reading") "entries" (He.ma K (He.ga K "Reading") "entries") := He.meth_ok (t.says.d.fact 45 (f := .meth "Reading" "entries") rfl)
theorem fld_Reading_at (t : T w K mg) : FldC K mg "Reading" "at" := ⟨fun C m => by
  have e : C = He.ga K "Reading" := Value.ref.inj (Option.some.inj (m.symm.trans (g_Reading t)))
  subst e
  exact ⟨cl_Reading t, He.noat_ok (t.says.d.fact 46 (f := .noat "Reading" "at") rfl)⟩⟩
theorem fld_Reading_text (t : T w K mg) : FldC K mg "Reading" "text" := ⟨fun C m => by
  have e : C = He.ga K "Reading" := Value.ref.inj (Option.some.inj (m.symm.trans (g_Reading t)))
  subst e
  exact ⟨cl_Reading t, He.noat_ok (t.says.d.fact 47 (f := .noat "Reading" "text") rfl)⟩⟩
theorem ex1_Malformed (t : T w K mg) : Ex1 K "Malformed" "at" "LoopError" := by
  have a := t.says.x
  unfold ex at a
  simp only [Bool.and_eq_true] at a
  exact ex1B_ok a.1
theorem x1_Malformed (t : T w K mg) (base : Heap) : FeX1 P w K mg base 1 "Malformed" "at" := by
  obtain ⟨fd, F⟩ := t.says.d.def_ 23 (d := d_Malformed___init__) rfl
  exact feX1_of (b := "LoopError") (s0 := "self") (a0 := "at") (ex1_Malformed t) (g_Malformed t) (g_LoopError t) (F.bindsN fun _ _ _ _ _ _ us hl => match us, hl with | [_, _], _ => rfl) F (fun cdv A outer s H E => init_args (ex1_Malformed t).low rfl (g_LoopError t) rfl (.inl rfl)) ⟨rfl, rfl, rfl, by decide +kernel, rfl, by decide +kernel, by decide +kernel⟩ rfl rfl (by decide) (by decide) (by decide) (by decide)
def under_BadNumber (c : Str) : Bool := decide (c ∈ below_BadNumber)
theorem und_BadNumber (t : T w K mg) : ∀ c' C', under_BadNumber c' = true → mg c' = some (.ref C') → PySem.W.exmOne K (.ref C') (.ref (He.ga K "BadNumber")) = some true := by
  intro c C h m
  unfold under_BadNumber at h
  rw [decide_eq_true_eq] at h
  have e : C = He.ga K c := by
    have k := h
    unfold below_BadNumber at k
    simp only [List.mem_cons, List.not_mem_nil, or_false] at k
    rcases k with rfl <;> first | exact Value.ref.inj (Option.some.inj (m.symm.trans (g_BadNumber t)))
  subst e
  have a := t.says.x
  unfold ex at a
  simp only [Bool.and_eq_true] at a
  exact underB_ok a.2 h
abbrev N__law_number : List Str := ["cell"]
def b__law_number : DS := (sSeq (sIf ((dCmpT cLt (dVar 0) (dC (.int 0)))) (sRet ((dBin fSub (dC (.int 0)) (dVar 0)))) sSkip)
  (sRet (dVar 0)))
def F__law_number : DF := mkF 1 0 false b__law_number
theorem h__law_number (t : T w K mg) (base : Heap) : Fe P w K mg base 1 "_law_number" F__law_number := by
  obtain ⟨fd, F⟩ := t.says.d.def_ 2 (d := d__law_number) rfl
  have nd : N__law_number.Nodup := by decide +kernel
  refine fe_of (N := N__law_number) (ps := ["cell"]) (m := 0) (sl := []) (live := false) F (g__law_number t) (F.bindsN fun _ _ _ _ _ _ us hl => match us, hl with | [_], _ => rfl) ⟨rfl, rfl, rfl, nd, rfl, by decide +kernel, by decide +kernel⟩ rfl ?_
  intro cdv A outer s H E room gd
  have hu := u64_of room
  have hu1 := u65_of room
  exact (lss_cons (ls_if ((lt_cmp c_lt (le_var 0 rfl (.inl rfl)) (le_int) (nomark _))) (lss_one (ls_ret ((le_bin o_sub (le_int) (le_var 0 rfl (.inl rfl)))))) lss_nil)
  (lss_one (ls_ret (le_var 0 rfl (.inl rfl)))))
abbrev N__law_draws : List Str := ["script", "draws", "cell", "rest", "k", "once", "twice"]
def b__law_draws : DS := (sSeq (sSet 1 ((dLst true (dNil))))
  (sSeq (sFor (dSeqI (dVar 0)) (gN 2) (sSeq (sSet 3 ((dCall F__law_number (dCons (dVar 2) dNil))))
  (sIf ((dCmpT cGe (dVar 3) (dC (.int 1000000000000000000)))) (sFor (dRange1 (dC (.int 60))) (gN 4) (sSeq (sIf ((dCmpT cEq (dVar 3) (dC (.int 0)))) sBreak sSkip)
  (sSeq (sExpr ((dMeth isL gAppend (dVar 1) (dCons ((dBin fMod ((dCall (g1 fInt) (dCons (dVar 3) dNil))) (dC (.int 1000)))) dNil))))
  (sSet 3 ((dBin fDiv (dVar 3) (dC (.int 1000)))))))) (sSeq (sSet 5 ((dBin fMod ((dCall (g1 fInt) (dCons ((dAdd false ((dMul false (dVar 3) (dC (.int 48271)))) (dC (.int 11)))) dNil))) (dC (.int 2147483647)))))
  (sSeq (sSet 6 ((dBin fMod ((dCall (g1 fInt) (dCons ((dAdd false ((dMul false (dVar 5) (dC (.int 69621)))) (dVar 3))) dNil))) (dC (.int 2147483629)))))
  (sExpr ((dMeth isL gExtend (dVar 1) (dCons ((dLst false ((dCons ((dBin fMod ((dCall (g1 fInt) (dCons (dVar 3) dNil))) (dC (.int 1000)))) (dCons ((dBin fMod ((dCall (g1 fInt) (dCons (dVar 5) dNil))) (dC (.int 1000)))) (dCons ((dBin fMod ((dCall (g1 fInt) (dCons (dVar 6) dNil))) (dC (.int 1000)))) dNil)))))) dNil)))))))))
  (sSeq (sExpr ((dMeth isL gReverse (dVar 1) dNil)))
  (sRet (dVar 1)))))
def F__law_draws : DF := mkF 1 6 true b__law_draws
theorem h__law_draws (t : T w K mg) (base : Heap) : Fe P w K mg base 2 "_law_draws" F__law_draws := by
  obtain ⟨fd, F⟩ := t.says.d.def_ 3 (d := d__law_draws) rfl
  have nd : N__law_draws.Nodup := by decide +kernel
  refine fe_of (N := N__law_draws) (ps := ["script"]) (m := 6) (sl := []) (live := true) F (g__law_draws t) (F.bindsN fun _ _ _ _ _ _ us hl => match us, hl with | [_], _ => rfl) ⟨rfl, rfl, rfl, nd, rfl, by decide +kernel, by decide +kernel⟩ rfl ?_
  intro cdv A outer s H E room gd
  have hu := u64_of room
  have hu1 := u65_of room
  exact (lss_cons (ls_set nd rfl (.inl rfl) ((le_lst true (la_nil))))
  (lss_cons (ls_for PassesOwn.leaving rfl (li_seq (le_var 0 rfl (.inl rfl))) (lg_name 2 nd rfl (.inl rfl)) (lss_cons (ls_set nd rfl (.inl rfl) ((le_call ((h__law_number t base).mono (by decide)) room gd (takes_of rfl rfl rfl rfl) rfl (la_cons (le_var 2 rfl (.inl rfl)) la_nil))))
  (lss_one (ls_if ((lt_cmp c_ge (le_var 3 rfl (.inl rfl)) (le_int) (nomark _))) (lss_one (ls_for PassesOwn.leaving rfl (li_range1 rfl (n_range t) (le_int)) (lg_name 4 nd rfl (.inl rfl)) (lss_cons (ls_if ((lt_cmp (c_eq hu) (le_var 3 rfl (.inl rfl)) (le_int) (nomark _))) (lss_one ls_break) lss_nil)
  (lss_cons (ls_expr ((le_meth PySem.F.plainAttrs_list PySem.F.slot_list_append PySem.F.type_list_append m_append tyC_list (le_var 1 rfl (.inl rfl)) (la_cons ((le_bin o_mod ((le_callTy k_int rfl (n_int t) boot_int (la_cons (le_var 3 rfl (.inl rfl)) la_nil))) (le_int))) la_nil))))
  (lss_one (ls_set nd rfl (.inl rfl) ((le_bin o_div (le_var 3 rfl (.inl rfl)) (le_int))))))))) (lss_cons (ls_set nd rfl (.inl rfl) ((le_bin o_mod ((le_callTy k_int rfl (n_int t) boot_int (la_cons ((le_add false ((le_mul false (le_var 3 rfl (.inl rfl)) (le_int))) (le_int))) la_nil))) (le_int))))
  (lss_cons (ls_set nd rfl (.inl rfl) ((le_bin o_mod ((le_callTy k_int rfl (n_int t) boot_int (la_cons ((le_add false ((le_mul false (le_var 5 rfl (.inl rfl)) (le_int))) (le_var 3 rfl (.inl rfl)))) la_nil))) (le_int))))
  (lss_one (ls_expr ((le_meth PySem.F.plainAttrs_list PySem.F.slot_list_extend PySem.F.type_list_extend m_extend tyC_list (le_var 1 rfl (.inl rfl)) (la_cons ((le_lst false ((la_cons ((le_bin o_mod ((le_callTy k_int rfl (n_int t) boot_int (la_cons (le_var 3 rfl (.inl rfl)) la_nil))) (le_int))) (la_cons ((le_bin o_mod ((le_callTy k_int rfl (n_int t) boot_int (la_cons (le_var 5 rfl (.inl rfl)) la_nil))) (le_int))) (la_cons ((le_bin o_mod ((le_callTy k_int rfl (n_int t) boot_int (la_cons (le_var 6 rfl (.inl rfl)) la_nil))) (le_int))) la_nil)))))) la_nil)))))))))))
  (lss_cons (ls_expr ((le_meth0 PySem.F.plainAttrs_list PySem.F.slot_list_reverse PySem.F.type_list_reverse m_reverse tyC_list (le_var 1 rfl (.inl rfl)))))
  (lss_one (ls_ret (le_var 1 rfl (.inl rfl)))))))
abbrev N__law_next : List Str := ["draws"]
def b__law_next : DS := (sSeq (sIf ((dTru (dVar 0))) (sRet ((dMeth isL gPop (dVar 0) dNil))) sSkip)
  (sRet (dC (.int 0))))
def F__law_next : DF := mkF 1 0 false b__law_next
theorem h__law_next (t : T w K mg) (base : Heap) : Fe P w K mg base 1 "_law_next" F__law_next := by
  obtain ⟨fd, F⟩ := t.says.d.def_ 4 (d := d__law_next) rfl
  have nd : N__law_next.Nodup := by decide +kernel
  refine fe_of (N := N__law_next) (ps := ["draws"]) (m := 0) (sl := []) (live := false) F (g__law_next t) (F.bindsN fun _ _ _ _ _ _ us hl => match us, hl with | [_], _ => rfl) ⟨rfl, rfl, rfl, nd, rfl, by decide +kernel, by decide +kernel⟩ rfl ?_
  intro cdv A outer s H E room gd
  have hu := u64_of room
  have hu1 := u65_of room
  exact (lss_cons (ls_if ((lt_tru (le_var 0 rfl (.inl rfl)))) (lss_one (ls_ret ((le_meth0 PySem.F.plainAttrs_list PySem.F.slot_list_pop PySem.F.type_list_pop m_pop tyC_list (le_var 0 rfl (.inl rfl)))))) lss_nil)
  (lss_one (ls_ret (le_int))))
abbrev N__law_more : List Str := ["draws", "many", "seed", "more", "k"]
def b__law_more : DS := (sSeq (sSet 2 ((dAdd false ((dAdd false ((dMul false (dC (.int 1000)) ((dCall F__law_next (dCons (dVar 0) dNil))))) ((dCall F__law_next (dCons (dVar 0) dNil))))) (dC (.int 1)))))
  (sSeq (sSet 3 ((dLst true (dNil))))
  (sSeq (sFor (dRange1 (dVar 1)) (gN 4) (sSeq (sSet 2 ((dBin fMod ((dCall (g1 fInt) (dCons ((dAdd false ((dMul false (dVar 2) (dC (.int 48271)))) (dC (.int 12345)))) dNil))) (dC (.int 2147483647)))))
  (sExpr ((dMeth isL gAppend (dVar 3) (dCons ((dBin fMod ((dCall (g1 fInt) (dCons ((dBin fDiv (dVar 2) (dC (.int 7)))) dNil))) (dC (.int 1000)))) dNil))))))
  (sRet ((dAdd true (dVar 3) (dVar 0)))))))
def F__law_more : DF := mkF 2 3 true b__law_more
theorem h__law_more (t : T w K mg) (base : Heap) : Fe P w K mg base 2 "_law_more" F__law_more := by
  obtain ⟨fd, F⟩ := t.says.d.def_ 5 (d := d__law_more) rfl
  have nd : N__law_more.Nodup := by decide +kernel
  refine fe_of (N := N__law_more) (ps := ["draws", "many"]) (m := 3) (sl := []) (live := true) F (g__law_more t) (F.bindsN fun _ _ _ _ _ _ us hl => match us, hl with | [_, _], _ => rfl) ⟨rfl, rfl, rfl, nd, rfl, by decide +kernel, by decide +kernel⟩ rfl ?_
  intro cdv A outer s H E room gd
  have hu := u64_of room
  have hu1 := u65_of room
  exact (lss_cons (ls_set nd rfl (.inl rfl) ((le_add false ((le_add false ((le_mul false (le_int) ((le_call ((h__law_next t base).mono (by decide)) room gd (takes_of rfl rfl rfl rfl) rfl (la_cons (le_var 0 rfl (.inl rfl)) la_nil))))) ((le_call ((h__law_next t base).mono (by decide)) room gd (takes_of rfl rfl rfl rfl) rfl (la_cons (le_var 0 rfl (.inl rfl)) la_nil))))) (le_int))))
  (lss_cons (ls_set nd rfl (.inl rfl) ((le_lst true (la_nil))))
  (lss_cons (ls_for PassesOwn.leaving rfl (li_range1 rfl (n_range t) (le_var 1 rfl (.inl rfl))) (lg_name 4 nd rfl (.inl rfl)) (lss_cons (ls_set nd rfl (.inl rfl) ((le_bin o_mod ((le_callTy k_int rfl (n_int t) boot_int (la_cons ((le_add false ((le_mul false (le_var 2 rfl (.inl rfl)) (le_int))) (le_int))) la_nil))) (le_int))))
  (lss_one (ls_expr ((le_meth PySem.F.plainAttrs_list PySem.F.slot_list_append PySem.F.type_list_append m_append tyC_list (le_var 3 rfl (.inl rfl)) (la_cons ((le_bin o_mod ((le_callTy k_int rfl (n_int t) boot_int (la_cons ((le_bin o_div (le_var 2 rfl (.inl rfl)) (le_int))) la_nil))) (le_int))) la_nil)))))))
  (lss_one (ls_ret ((le_add true (le_var 3 rfl (.inl rfl)) (le_var 0 rfl (.inl rfl)))))))))
abbrev N__law_pick : List Str := ["draws", "some"]
def b__law_pick : DS := (sRet ((dIx (dVar 1) ((dBin fMod ((dCall (g1 fInt) (dCons ((dCall F__law_next (dCons (dVar 0) dNil))) dNil))) ((dCall (g1 fLen) (dCons (dVar 1) dNil))))))))
def F__law_pick : DF := mkF 2 0 false b__law_pick
theorem h__law_pick (t : T w K mg) (base : Heap) : Fe P w K mg base 2 "_law_pick" F__law_pick := by
  obtain ⟨fd, F⟩ := t.says.d.def_ 6 (d := d__law_pick) rfl
  have nd : N__law_pick.Nodup := by decide +kernel
  refine fe_of (N := N__law_pick) (ps := ["draws", "some"]) (m := 0) (sl := []) (live := false) F (g__law_pick t) (F.bindsN fun _ _ _ _ _ _ us hl => match us, hl with | [_, _], _ => rfl) ⟨rfl, rfl, rfl, nd, rfl, by decide +kernel, by decide +kernel⟩ rfl ?_
  intro cdv A outer s H E room gd
  have hu := u64_of room
  have hu1 := u65_of room
  exact (lss_one (ls_ret ((le_ix (le_var 1 rfl (.inl rfl)) ((le_bin o_mod ((le_callTy k_int rfl (n_int t) boot_int (la_cons ((le_call ((h__law_next t base).mono (by decide)) room gd (takes_of rfl rfl rfl rfl) rfl (la_cons (le_var 0 rfl (.inl rfl)) la_nil))) la_nil))) ((le_callB k_len rfl (n_len t) boot_len (la_cons (le_var 1 rfl (.inl rfl)) la_nil)))))))))
abbrev N__law_term : List Str := ["draws", "depth", "kind", "word", "k"]
def b__law_term (F__law_term : Nat → DF) (n : Nat) : DS := (sSeq (sSet 2 ((dBin fMod ((dCall (g1 fInt) (dCons ((dCall F__law_next (dCons (dVar 0) dNil))) dNil))) ((dIf ((dCmpT cLt (dVar 1) (dC (.int 4)))) (dC (.int 8)) (dC (.int 5)))))))
  (sSeq (sIf ((dCmpT cEq (dVar 2) (dC (.int 0)))) (sSeq (sSet 3 ((dMeth isS (gM1 fJoin) (dC (.str "")) (dCons ((dLc false [4] (dRange1 ((dBin fMod ((dCall (g1 fInt) (dCons ((dCall F__law_next (dCons (dVar 0) dNil))) dNil))) (dC (.int 6))))) (gN 4) (dYes) ((dIx (dC (.str "abcnoze")) ((dBin fMod ((dCall (g1 fInt) (dCons ((dCall F__law_next (dCons (dVar 0) dNil))) dNil))) (dC (.int 7)))))))) dNil))))
  (sRet ((dIf ((dCmpT cEq (dVar 3) (dC (.str "none")))) (dC (.str "zone")) (dVar 3))))) sSkip)
  (sSeq (sIf ((dCmpT cEq (dVar 2) (dC (.int 1)))) (sRet ((dCall F__law_pick (dCons (dVar 0) (dCons ((dLst false ((dCons (dC .none) (dCons (dC (.int 0)) (dCons ((dUn fNeg (dC (.int 1)))) (dCons ((dBin fPow (dC (.int 10)) (dC (.int 19)))) (dCons ((dAdd false ((dBin fSub (dC (.int 0)) ((dBin fPow (dC (.int 10)) (dC (.int 20)))))) (dC (.int 1)))) dNil)))))))) dNil))))) sSkip)
  (sSeq (sIf ((dCmpT cLt (dVar 2) (dC (.int 5)))) (sRet ((dBin fSub ((dCall (g1 fInt) (dCons ((dCall F__law_next (dCons (dVar 0) dNil))) dNil))) ((dMul false (dC (.int 100)) ((dBin fMod ((dCall (g1 fInt) (dCons ((dCall F__law_next (dCons (dVar 0) dNil))) dNil))) (dC (.int 7))))))))) sSkip)
  (sRet ((dCall (g1 fTuple) (dCons ((dLc false [4] (dRange1 ((dBin fMod ((dCall (g1 fInt) (dCons ((dCall F__law_next (dCons (dVar 0) dNil))) dNil))) (dC (.int 4))))) (gN 4) (dYes) ((dCall (F__law_term n) (dCons (dVar 0) (dCons ((dAdd false (dVar 1) (dC (.int 1)))) dNil)))))) dNil))))))))
def F__law_term : Nat → DF
  | 0 => fun _ _ => .bad
  | n + 1 => mkF 2 3 false (b__law_term (fun _ => F__law_term n) n)
theorem hs__law_term (t : T w K mg) (base : Heap) (n : Nat) (ih__law_term : Fe P w K mg base (2 + n) "_law_term" (F__law_term n)) : Fe P w K mg base (2 + n + 1) "_law_term" (F__law_term (n + 1)) := by
  obtain ⟨fd, F⟩ := t.says.d.def_ 7 (d := d__law_term) rfl
  have nd : N__law_term.Nodup := by decide +kernel
  refine fe_of (N := N__law_term) (ps := ["draws", "depth"]) (m := 3) (sl := []) (live := false) F (g__law_term t) (F.bindsN fun _ _ _ _ _ _ us hl => match us, hl with | [_, _], _ => rfl) ⟨rfl, rfl, rfl, nd, rfl, by decide +kernel, by decide +kernel⟩ rfl ?_
  intro cdv A outer s H E room gd
  have hu := u64_of room
  have hu1 := u65_of room
  have K__law_term : ∀ {j : Nat}, j ≤ 2 → j ≤ 2 + n := fun h => Nat.le_trans h (Nat.le_add_right _ _)
  have Rm__law_term : ∀ {j : Nat}, j ≤ 2 → j ≤ 2 + n := fun h => Nat.le_trans h (Nat.le_add_right _ _)
  exact (lss_cons (ls_set nd rfl (.inl rfl) ((le_bin o_mod ((le_callTy k_int rfl (n_int t) boot_int (la_cons ((le_call ((h__law_next t base).mono (K__law_term (by decide))) room gd (takes_of rfl rfl rfl rfl) rfl (la_cons (le_var 0 rfl (.inr (.inl rfl))) la_nil))) la_nil))) ((le_if ((lt_cmp c_lt (le_var 1 rfl (.inr (.inl rfl))) (le_int) (nomark _))) (le_int) (le_int))))))
  (lss_cons (ls_if ((lt_cmp (c_eq hu) (le_var 2 rfl (.inl rfl)) (le_int) (nomark _))) (lss_cons (ls_set nd rfl (.inl rfl) ((le_meth PySem.F.plainAttrs_str PySem.F.slot_str_join PySem.F.type_str_join m_join tyC_str (le_str) (la_cons ((le_lc false rfl nd (li_range1 rfl (n_range t) ((le_bin o_mod ((le_callTy k_int rfl (n_int t) boot_int (la_cons ((le_call ((h__law_next t base).mono (K__law_term (by decide))) room gd (takes_of rfl rfl rfl rfl) rfl (la_cons (le_var 0 rfl (.inr (.inl rfl))) la_nil))) la_nil))) (le_int)))) (own := [("k", 4)]) (blkOk_by (by kernel_rfl)) (fun _ _ _ _ _ => (lg_name 4 nd rfl (.inl rfl))) (fun _ _ _ _ _ => lts_nil) (fun _ _ _ _ _ => (le_ix (le_str) ((le_bin o_mod ((le_callTy k_int rfl (n_int t) boot_int (la_cons ((le_call ((h__law_next t base).mono (K__law_term (by decide))) room gd takes0 rfl (la_cons (le_var 0 rfl (.inr (.inl rfl))) la_nil))) la_nil))) (le_int))))) (by decide))) la_nil))))
  (lss_one (ls_ret ((le_if ((lt_cmp (c_eq hu) (le_var 3 rfl (.inl rfl)) (le_str) (nomark _))) (le_str) (le_var 3 rfl (.inl rfl))))))) lss_nil)
  (lss_cons (ls_if ((lt_cmp (c_eq hu) (le_var 2 rfl (.inl rfl)) (le_int) (nomark _))) (lss_one (ls_ret ((le_call ((h__law_pick t base).mono (K__law_term (by decide))) room gd (takes_of rfl rfl rfl rfl) rfl (la_cons (le_var 0 rfl (.inr (.inl rfl))) (la_cons ((le_lst false ((la_cons (le_non) (la_cons (le_int) (la_cons ((le_neg (le_int))) (la_cons ((le_bin o_pow (le_int) (le_int))) (la_cons ((le_add false ((le_bin o_sub (le_int) ((le_bin o_pow (le_int) (le_int))))) (le_int))) la_nil)))))))) la_nil)))))) lss_nil)
  (lss_cons (ls_if ((lt_cmp c_lt (le_var 2 rfl (.inl rfl)) (le_int) (nomark _))) (lss_one (ls_ret ((le_bin o_sub ((le_callTy k_int rfl (n_int t) boot_int (la_cons ((le_call ((h__law_next t base).mono (K__law_term (by decide))) room gd (takes_of rfl rfl rfl rfl) rfl (la_cons (le_var 0 rfl (.inr (.inl rfl))) la_nil))) la_nil))) ((le_mul false (le_int) ((le_bin o_mod ((le_callTy k_int rfl (n_int t) boot_int (la_cons ((le_call ((h__law_next t base).mono (K__law_term (by decide))) room gd (takes_of rfl rfl rfl rfl) rfl (la_cons (le_var 0 rfl (.inr (.inl rfl))) la_nil))) la_nil))) (le_int))))))))) lss_nil)
  (lss_one (ls_ret ((le_callTy k_tuple rfl (n_tuple t) boot_tuple (la_cons ((le_lc false rfl nd (li_range1 rfl (n_range t) ((le_bin o_mod ((le_callTy k_int rfl (n_int t) boot_int (la_cons ((le_call ((h__law_next t base).mono (K__law_term (by decide))) room gd (takes_of rfl rfl rfl rfl) rfl (la_cons (le_var 0 rfl (.inr (.inl rfl))) la_nil))) la_nil))) (le_int)))) (own := [("k", 4)]) (blkOk_by (by kernel_rfl)) (fun _ _ _ _ _ => (lg_name 4 nd rfl (.inl rfl))) (fun _ _ _ _ _ => lts_nil) (fun _ _ _ _ _ => (le_call ih__law_term room gd takes0 rfl (la_cons (le_var 0 rfl (.inr (.inl rfl))) (la_cons ((le_add false (le_var 1 rfl (.inr (.inl rfl))) (le_int))) la_nil)))) (by decide))) la_nil)))))))))
theorem hg__law_term (t : T w K mg) (base : Heap) : ∀ n : Nat, (Fe P w K mg base (2 + n) "_law_term" (F__law_term n))
  | 0 => (by obtain ⟨fd, F⟩ := t.says.d.def_ 7 (d := d__law_term) rfl; exact fe_bad F (g__law_term t) (ps := ["draws", "depth"]) (F.bindsN fun _ _ _ _ _ _ us hl => match us, hl with | [_, _], _ => rfl) _)
  | n + 1 => by
    have q := hg__law_term t base n
    exact hs__law_term t base n q
theorem h__law_term (t : T w K mg) (base : Heap) (n : Nat) : Fe P w K mg base (2 + n) "_law_term" (F__law_term n) := by
  have q := hg__law_term (P := P) t base n
  exact q
abbrev N__law_text : List Str := ["term", "entry"]
def b__law_text (F__law_text : Nat → DF) (n : Nat) : DS := (sSeq (sIf ((dCmpT cIs (dVar 0) (dC .none))) (sRet (dC (.str "none"))) sSkip)
  (sSeq (sIf ((dTru ((dCall gIsi (dCons (dVar 0) (dCons (dK (.ty "int")) dNil)))))) (sRet ((dCall (g1 fStr) (dCons (dVar 0) dNil)))) sSkip)
  (sSeq (sIf ((dTru ((dCall gIsi (dCons (dVar 0) (dCons (dK (.ty "str")) dNil)))))) (sRet ((dIf ((dCmpT cNe (dVar 0) (dC (.str "")))) (dVar 0) (dC (.str "."))))) sSkip)
  (sRet ((dAdd false ((dAdd false (dC (.str "(")) ((dMeth isS (gM1 fJoin) (dC (.str " ")) (dCons ((dLc false [1] (dSeqI (dVar 0)) (gN 1) (dYes) ((dCall (F__law_text n) (dCons (dVar 1) dNil))))) dNil))))) (dC (.str ")"))))))))
def F__law_text : Nat → DF
  | 0 => fun _ _ => .bad
  | n + 1 => mkF 1 1 false (b__law_text (fun _ => F__law_text n) n)
theorem hs__law_text (t : T w K mg) (base : Heap) (n : Nat) (ih__law_text : Fe P w K mg base (0 + n) "_law_text" (F__law_text n)) : Fe P w K mg base (0 + n + 1) "_law_text" (F__law_text (n + 1)) := by
  obtain ⟨fd, F⟩ := t.says.d.def_ 8 (d := d__law_text) rfl
  have nd : N__law_text.Nodup := by decide +kernel
  refine fe_of (N := N__law_text) (ps := ["term"]) (m := 1) (sl := []) (live := false) F (g__law_text t) (F.bindsN fun _ _ _ _ _ _ us hl => match us, hl with | [_], _ => rfl) ⟨rfl, rfl, rfl, nd, rfl, by decide +kernel, by decide +kernel⟩ rfl ?_
  intro cdv A outer s H E room gd
  have hu := u64_of room
  have hu1 := u65_of room
  have K__law_text : ∀ {j : Nat}, j ≤ 0 → j ≤ 0 + n := fun h => Nat.le_trans h (Nat.le_add_right _ _)
  have Rm__law_text : ∀ {j : Nat}, j ≤ 0 → j ≤ 0 + n := fun h => Nat.le_trans h (Nat.le_add_right _ _)
  exact (lss_cons (ls_if ((lt_cmp c_is (le_var 0 rfl (.inl rfl)) (le_non) (nomark _))) (lss_one (ls_ret (le_str))) lss_nil)
  (lss_cons (ls_if ((lt_tru ((le_callB k_isi rfl (n_isinstance t) boot_isinstance (la_cons (le_var 0 rfl (.inl rfl)) (la_cons (le_ty rfl (n_int t) boot_int) la_nil)))))) (lss_one (ls_ret ((le_callTy k_str rfl (n_str t) boot_str (la_cons (le_var 0 rfl (.inl rfl)) la_nil))))) lss_nil)
  (lss_cons (ls_if ((lt_tru ((le_callB k_isi rfl (n_isinstance t) boot_isinstance (la_cons (le_var 0 rfl (.inl rfl)) (la_cons (le_ty rfl (n_str t) boot_str) la_nil)))))) (lss_one (ls_ret ((le_if ((lt_cmp (c_ne hu) (le_var 0 rfl (.inl rfl)) (le_str) (nomark _))) (le_var 0 rfl (.inl rfl)) (le_str))))) lss_nil)
  (lss_one (ls_ret ((le_add false ((le_add false (le_str) ((le_meth PySem.F.plainAttrs_str PySem.F.slot_str_join PySem.F.type_str_join m_join tyC_str (le_str) (la_cons ((le_lc false rfl nd (li_seq (le_var 0 rfl (.inl rfl))) (own := [("entry", 1)]) (blkOk_by (by kernel_rfl)) (fun _ _ _ _ _ => (lg_name 1 nd rfl (.inl rfl))) (fun _ _ _ _ _ => lts_nil) (fun _ _ _ _ _ => (le_call ih__law_text room gd takes0 rfl (la_cons (le_var 1 rfl (.inl rfl)) la_nil))) (by decide))) la_nil))))) (le_str))))))))
theorem hg__law_text (t : T w K mg) (base : Heap) : ∀ n : Nat, (Fe P w K mg base (0 + n) "_law_text" (F__law_text n))
  | 0 => (by obtain ⟨fd, F⟩ := t.says.d.def_ 8 (d := d__law_text) rfl; exact fe_bad F (g__law_text t) (ps := ["term"]) (F.bindsN fun _ _ _ _ _ _ us hl => match us, hl with | [_], _ => rfl) _)
  | n + 1 => by
    have q := hg__law_text t base n
    exact hs__law_text t base n q
theorem h__law_text (t : T w K mg) (base : Heap) (n : Nat) : Fe P w K mg base (0 + n) "_law_text" (F__law_text n) := by
  have q := hg__law_text (P := P) t base n
  exact q
abbrev N_term_text : List Str := ["term", "sign", "entry"]
def b_term_text (F_term_text : Nat → DF) (n : Nat) : DS := (sSeq (sIf ((dCmpT cIs (dVar 0) (dC .none))) (sRet (dC (.str "none"))) sSkip)
  (sSeq (sIf ((dTru ((dCall gIsi (dCons (dVar 0) (dCons (dK (.ty "int")) dNil)))))) (sRet ((dCall (g1 fStr) (dCons (dVar 0) dNil)))) sSkip)
  (sSeq (sIf ((dTru ((dCall gIsi (dCons (dVar 0) (dCons (dK (.ty "str")) dNil)))))) (sSeq (sIf ((dOrT ((dCmpT cEq (dVar 0) (dC (.str "none")))) ((dNotT ((dTru ((dCall (g1 fAll) (dCons ((dLc false [1] (dSeqI (dVar 0)) (gN 1) (dYes) ((dCmp cIn (dVar 1) (dC (.str "abcdefghijklmnopqrstuvwxyz")))))) dNil))))))))) (sRaise "BadNumber") sSkip)
  (sRet ((dOrV (dVar 0) (dC (.str ".")))))) sSkip)
  (sRet ((dAdd false ((dAdd false (dC (.str "(")) ((dMeth isS (gM1 fJoin) (dC (.str " ")) (dCons ((dLcX false [2] (dSeqI (dVar 0)) (gN 2) (dYes) ((dCall (F_term_text n) (dCons (dVar 2) dNil))))) dNil))))) (dC (.str ")"))))))))
def F_term_text : Nat → DF
  | 0 => fun _ _ => .bad
  | n + 1 => mkF 1 2 false (b_term_text (fun _ => F_term_text n) n)
theorem hs_term_text (t : T w K mg) (base : Heap) (n : Nat) (ih_term_text : Fe P w K mg base (0 + n) "term_text" (F_term_text n)) : Fe P w K mg base (0 + n + 1) "term_text" (F_term_text (n + 1)) := by
  obtain ⟨fd, F⟩ := t.says.d.def_ 0 (d := d_term_text) rfl
  have nd : N_term_text.Nodup := by decide +kernel
  refine fe_of (N := N_term_text) (ps := ["term"]) (m := 2) (sl := []) (live := false) F (g_term_text t) (F.bindsN fun _ _ _ _ _ _ us hl => match us, hl with | [_], _ => rfl) ⟨rfl, rfl, rfl, nd, rfl, by decide +kernel, by decide +kernel⟩ rfl ?_
  intro cdv A outer s H E room gd
  have hu := u64_of room
  have hu1 := u65_of room
  have K_term_text : ∀ {j : Nat}, j ≤ 0 → j ≤ 0 + n := fun h => Nat.le_trans h (Nat.le_add_right _ _)
  have Rm_term_text : ∀ {j : Nat}, j ≤ 0 → j ≤ 0 + n := fun h => Nat.le_trans h (Nat.le_add_right _ _)
  exact (lss_cons (ls_if ((lt_cmp c_is (le_var 0 rfl (.inl rfl)) (le_non) (nomark _))) (lss_one (ls_ret (le_gstr rfl (c_NOTHING t)))) lss_nil)
  (lss_cons (ls_if ((lt_tru ((le_callB k_isi rfl (n_isinstance t) boot_isinstance (la_cons (le_var 0 rfl (.inl rfl)) (la_cons (le_ty rfl (n_int t) boot_int) la_nil)))))) (lss_one (ls_ret ((le_callTy k_str rfl (n_str t) boot_str (la_cons (le_var 0 rfl (.inl rfl)) la_nil))))) lss_nil)
  (lss_cons (ls_if ((lt_tru ((le_callB k_isi rfl (n_isinstance t) boot_isinstance (la_cons (le_var 0 rfl (.inl rfl)) (la_cons (le_ty rfl (n_str t) boot_str) la_nil)))))) (lss_cons (ls_if ((lt_w (lw_or ((lt_cmp (c_eq hu) (le_var 0 rfl (.inl rfl)) (le_gstr rfl (c_NOTHING t)) (nomark _))) (lw_or1 ((lt_not ((lt_tru ((le_callB (k_all rfl) rfl (n_all t) (by decide +kernel) (la_cons ((le_lc false rfl nd (li_seq (le_var 0 rfl (.inl rfl))) (own := [("sign", 1)]) (blkOk_by (by kernel_rfl)) (fun _ _ _ _ _ => (lg_name 1 nd rfl (.inl rfl))) (fun _ _ _ _ _ => lts_nil) (fun _ _ _ _ _ => (le_cmp (c_in hu1) (le_var 1 rfl (.inl rfl)) (le_gstr rfl (c_SMALL t)) (by rfl))) (by decide))) la_nil))))))))))) (lss_one (ls_raise rfl (takes_of rfl rfl rfl rfl) (x_BadNumber t) rfl)) lss_nil)
  (lss_one (ls_ret ((le_or (le_var 0 rfl (.inl rfl)) (le_one (le_gstr rfl (c_NOBODY t)))))))) lss_nil)
  (lss_one (ls_ret ((le_add false ((le_add false (le_str) ((le_meth PySem.F.plainAttrs_str PySem.F.slot_str_join PySem.F.type_str_join m_join tyC_str (le_str) (la_cons ((le_lcX false rfl nd (takes_of rfl rfl rfl rfl) rfl rfl (li_seq (le_var 0 rfl (.inl rfl))) (own := [("entry", 2)]) (blkOk_by (by kernel_rfl)) (fun _ _ _ _ _ => (lg_name 2 nd rfl (.inl rfl))) (fun _ _ _ _ _ => lts_nil) (fun _ _ _ _ _ _ _ tkx => (le_call ih_term_text room gd tkx rfl (la_cons (le_var 2 rfl (.inl rfl)) la_nil))) (by decide))) la_nil))))) (le_str))))))))
theorem hg_term_text (t : T w K mg) (base : Heap) : ∀ n : Nat, (Fe P w K mg base (0 + n) "term_text" (F_term_text n))
  | 0 => (by obtain ⟨fd, F⟩ := t.says.d.def_ 0 (d := d_term_text) rfl; exact fe_bad F (g_term_text t) (ps := ["term"]) (F.bindsN fun _ _ _ _ _ _ us hl => match us, hl with | [_], _ => rfl) _)
  | n + 1 => by
    have q := hg_term_text t base n
    exact hs_term_text t base n q
theorem h_term_text (t : T w K mg) (base : Heap) (n : Nat) : Fe P w K mg base (0 + n) "term_text" (F_term_text n) := by
  have q := hg_term_text (P := P) t base n
  exact q
abbrev N__law_refused : List Str := ["term"]
def b__law_refused : DS := (sTryV under_BadNumber (.bool true) (sSeq (sExpr ((dCall (F_term_text 8) (dCons (dVar 0) dNil))))
  (sRet (dC (.bool false)))))
def F__law_refused : DF := mkF 1 0 false b__law_refused
theorem h__law_refused (t : T w K mg) (base : Heap) : Fe P w K mg base 10 "_law_refused" F__law_refused := by
  obtain ⟨fd, F⟩ := t.says.d.def_ 14 (d := d__law_refused) rfl
  have nd : N__law_refused.Nodup := by decide +kernel
  refine fe_of (N := N__law_refused) (ps := ["term"]) (m := 0) (sl := []) (live := false) F (g__law_refused t) (F.bindsN fun _ _ _ _ _ _ us hl => match us, hl with | [_], _ => rfl) ⟨rfl, rfl, rfl, nd, rfl, by decide +kernel, by decide +kernel⟩ rfl ?_
  intro cdv A outer s H E room gd
  have hu := u64_of room
  have hu1 := u65_of room
  exact (lss_one (ls_tryV rfl rfl (takes_of rfl rfl rfl rfl) rfl (g_BadNumber t) (und_BadNumber t) (fun _ _ _ => pe_bl) (fun _ => Rel.bool _) (fun _ _ _ tk po => (lss_cons (ls_expr ((le_call ((h_term_text t base 8).mono (by decide)) room gd tk rfl (la_cons (le_var 0 rfl (.inl rfl)) la_nil))))
  (lss_one (ls_ret (le_bl)))))))
abbrev N_Reading___init__ : List Str := ["self", "text"]
def b_Reading___init__ : DS := (sSeq (sFldP "Reading" "text" (dVar 0) (dVar 1))
  (sFldP "Reading" "at" (dVar 0) (dC (.int 0))))
def F_Reading___init__ : DF := mkF 2 0 false b_Reading___init__
theorem h_Reading___init__ (t : T w K mg) (base : Heap) : FeI P w K mg base 1 "Reading" F_Reading___init__ := by
  obtain ⟨fd, F⟩ := t.says.d.def_ 16 (d := d_Reading___init__) rfl
  have nd : N_Reading___init__.Nodup := by decide +kernel
  refine ⟨⟨_, _, fd, ["self", "text"], g_Reading t, mk_Reading t, (F.bindsN fun _ _ _ _ _ _ us hl => match us, hl with | [_, _], _ => rfl), fnG_fd (N := N_Reading___init__) (m := 0) (live := false) F ⟨rfl, rfl, rfl, nd, rfl, by decide +kernel, by decide +kernel⟩ rfl ?_⟩⟩
  intro cdv A outer s H E room gd
  have hu := u64_of room
  have hu1 := u65_of room
  exact (lss_cons (ls_fld (fld_Reading_text t) (le_var 0 rfl (.inl rfl)) (le_var 1 rfl (.inl rfl)))
  (lss_one (ls_fld (fld_Reading_at t) (le_var 0 rfl (.inl rfl)) (le_int))))
abbrev N_Reading_sign : List Str := ["self"]
def b_Reading_sign : DS := (sRet ((dSl false ((dFld "Reading" "text" (dVar 0))) (dSomeO ((dFld "Reading" "at" (dVar 0)))) (dSomeO ((dAdd false ((dFld "Reading" "at" (dVar 0))) (dC (.int 1))))))))
def F_Reading_sign : DF := mkF 1 0 false b_Reading_sign
theorem h_Reading_sign (t : T w K mg) (base : Heap) : FeM P w K mg base 1 "Reading" "sign" F_Reading_sign := by
  obtain ⟨fd, F⟩ := t.says.d.def_ 17 (d := d_Reading_sign) rfl
  have nd : N_Reading_sign.Nodup := by decide +kernel
  refine ⟨⟨_, _, fd, ["self"], g_Reading t, cl_Reading t, me_Reading_sign t, (F.bindsN fun _ _ _ _ _ _ us hl => match us, hl with | [_], _ => rfl), fnG_fd (N := N_Reading_sign) (m := 0) (live := false) F ⟨rfl, rfl, rfl, nd, rfl, by decide +kernel, by decide +kernel⟩ rfl ?_⟩⟩
  intro cdv A outer s H E room gd
  have hu := u64_of room
  have hu1 := u65_of room
  exact (lss_one (ls_ret ((le_sl false ((le_fld (fld_Reading_text t) (le_var 0 rfl (.inl rfl)))) (lo_some ((le_fld (fld_Reading_at t) (le_var 0 rfl (.inl rfl))))) (lo_some ((le_add false ((le_fld (fld_Reading_at t) (le_var 0 rfl (.inl rfl)))) (le_int))))))))
abbrev N_Reading_is_at : List Str := ["self", "signs"]
def b_Reading_is_at : DS := (sRet ((dAndV ((dCmp cNe ((dMethO "Reading" "sign" F_Reading_sign (dVar 0) dNil)) (dC (.str "")))) ((dCmp cIn ((dMethO "Reading" "sign" F_Reading_sign (dVar 0) dNil)) (dVar 1))))))
def F_Reading_is_at : DF := mkF 2 0 false b_Reading_is_at
theorem h_Reading_is_at (t : T w K mg) (base : Heap) : FeM P w K mg base 2 "Reading" "is_at" F_Reading_is_at := by
  obtain ⟨fd, F⟩ := t.says.d.def_ 18 (d := d_Reading_is_at) rfl
  have nd : N_Reading_is_at.Nodup := by decide +kernel
  refine ⟨⟨_, _, fd, ["self", "signs"], g_Reading t, cl_Reading t, me_Reading_is_at t, (F.bindsN fun _ _ _ _ _ _ us hl => match us, hl with | [_, _], _ => rfl), fnG_fd (N := N_Reading_is_at) (m := 0) (live := false) F ⟨rfl, rfl, rfl, nd, rfl, by decide +kernel, by decide +kernel⟩ rfl ?_⟩⟩
  intro cdv A outer s H E room gd
  have hu := u64_of room
  have hu1 := u65_of room
  exact (lss_one (ls_ret ((le_and ((le_cmp (c_ne hu) ((le_methO0 ((h_Reading_sign t base).mono (by decide)) room gd (takes_of rfl rfl rfl rfl) (le_var 0 rfl (.inl rfl)))) (le_str) (nomark _))) (le_one ((le_cmp (c_in hu1) ((le_methO0 ((h_Reading_sign t base).mono (by decide)) room gd (takes_of rfl rfl rfl rfl) (le_var 0 rfl (.inl rfl)))) (le_var 1 rfl (.inl rfl)) (by rfl))))))))
abbrev N_Reading_take : List Str := ["self", "signs", "start"]
def b_Reading_take : DS := (sSeq (sSet 2 ((dFld "Reading" "at" (dVar 0))))
  (sSeq (whileN ((dTru ((dMethO "Reading" "is_at" F_Reading_is_at (dVar 0) (dCons (dVar 1) dNil))))) (sFldA "Reading" "at" fAddI (dVar 0) (dC (.int 1))) 4000)
  (sRet ((dSl false ((dFld "Reading" "text" (dVar 0))) (dSomeO (dVar 2)) (dSomeO ((dFld "Reading" "at" (dVar 0)))))))))
def F_Reading_take : DF := mkF 2 1 false b_Reading_take
theorem h_Reading_take (t : T w K mg) (base : Heap) : FeM P w K mg base 3 "Reading" "take" F_Reading_take := by
  obtain ⟨fd, F⟩ := t.says.d.def_ 19 (d := d_Reading_take) rfl
  have nd : N_Reading_take.Nodup := by decide +kernel
  refine ⟨⟨_, _, fd, ["self", "signs"], g_Reading t, cl_Reading t, me_Reading_take t, (F.bindsN fun _ _ _ _ _ _ us hl => match us, hl with | [_, _], _ => rfl), fnG_fd (N := N_Reading_take) (m := 1) (live := false) F ⟨rfl, rfl, rfl, nd, rfl, by decide +kernel, by decide +kernel⟩ rfl ?_⟩⟩
  intro cdv A outer s H E room gd
  have hu := u64_of room
  have hu1 := u65_of room
  exact (lss_cons (ls_set nd rfl (.inl rfl) ((le_fld (fld_Reading_at t) (le_var 0 rfl (.inl rfl)))))
  (lss_cons (ls_while 4000 PassesOwn.leaving ((lt_tru ((le_methO ((h_Reading_is_at t base).mono (by decide)) room gd (takes_of rfl rfl rfl rfl) (le_var 0 rfl (.inl rfl)) (la_cons (le_var 1 rfl (.inl rfl)) la_nil))))) (lss_one (ls_flda (fld_Reading_at t) (le_var 0 rfl (.inl rfl)) (le_int) io_add)))
  (lss_one (ls_ret ((le_sl false ((le_fld (fld_Reading_text t) (le_var 0 rfl (.inl rfl)))) (lo_some (le_var 2 rfl (.inl rfl))) (lo_some ((le_fld (fld_Reading_at t) (le_var 0 rfl (.inl rfl)))))))))))
abbrev N_Reading_integer : List Str := ["self", "minus", "start", "zero", "figures"]
def b_Reading_integer : DS := (sSeq (sSet 1 ((dMethO "Reading" "is_at" F_Reading_is_at (dVar 0) (dCons (dC (.str "-")) dNil))))
  (sSeq (sIf ((dTru (dVar 1))) (sFldA "Reading" "at" fAddI (dVar 0) (dC (.int 1))) sSkip)
  (sSeq (sSet 2 ((dFld "Reading" "at" (dVar 0))))
  (sSeq (sIf ((dOrT ((dNotT ((dTru ((dMethO "Reading" "is_at" F_Reading_is_at (dVar 0) (dCons (dC (.str "0123456789")) dNil))))))) ((dAndT ((dTru (dVar 1))) ((dTru ((dMethO "Reading" "is_at" F_Reading_is_at (dVar 0) (dCons (dC (.str "0")) dNil))))))))) (sRaise1 "Malformed" "at" ((dFld "Reading" "at" (dVar 0)))) sSkip)
  (sSeq (sSet 3 ((dMethO "Reading" "is_at" F_Reading_is_at (dVar 0) (dCons (dC (.str "0")) dNil))))
  (sSeq (sSet 4 ((dMethO "Reading" "take" F_Reading_take (dVar 0) (dCons (dC (.str "0123456789")) dNil))))
  (sSeq (sIf ((dAndT ((dTru (dVar 3))) ((dCmpT cGt ((dCall (g1 fLen) (dCons (dVar 4) dNil))) (dC (.int 1)))))) (sRaise1 "Malformed" "at" ((dAdd false (dVar 2) (dC (.int 1))))) sSkip)
  (sSeq (sIf ((dCmpT cGt ((dCall (g1 fLen) (dCons (dVar 4) dNil))) (dC (.int 20)))) (sRaise1 "Malformed" "at" ((dAdd false (dVar 2) (dC (.int 20))))) sSkip)
  (sRet ((dIf ((dTru (dVar 1))) ((dUn fNeg ((dCall (g1 fInt) (dCons (dVar 4) dNil))))) ((dCall (g1 fInt) (dCons (dVar 4) dNil))))))))))))))
def F_Reading_integer : DF := mkF 1 4 false b_Reading_integer
theorem h_Reading_integer (t : T w K mg) (base : Heap) : FeM P w K mg base 4 "Reading" "integer" F_Reading_integer := by
  obtain ⟨fd, F⟩ := t.says.d.def_ 20 (d := d_Reading_integer) rfl
  have nd : N_Reading_integer.Nodup := by decide +kernel
  refine ⟨⟨_, _, fd, ["self"], g_Reading t, cl_Reading t, me_Reading_integer t, (F.bindsN fun _ _ _ _ _ _ us hl => match us, hl with | [_], _ => rfl), fnG_fd (N := N_Reading_integer) (m := 4) (live := false) F ⟨rfl, rfl, rfl, nd, rfl, by decide +kernel, by decide +kernel⟩ rfl ?_⟩⟩
  intro cdv A outer s H E room gd
  have hu := u64_of room
  have hu1 := u65_of room
  exact (lss_cons (ls_set nd rfl (.inl rfl) ((le_methO ((h_Reading_is_at t base).mono (by decide)) room gd (takes_of rfl rfl rfl rfl) (le_var 0 rfl (.inl rfl)) (la_cons (le_str) la_nil))))
  (lss_cons (ls_if ((lt_tru (le_var 1 rfl (.inl rfl)))) (lss_one (ls_flda (fld_Reading_at t) (le_var 0 rfl (.inl rfl)) (le_int) io_add)) lss_nil)
  (lss_cons (ls_set nd rfl (.inl rfl) ((le_fld (fld_Reading_at t) (le_var 0 rfl (.inl rfl)))))
  (lss_cons (ls_if ((lt_w (lw_or ((lt_not ((lt_tru ((le_methO ((h_Reading_is_at t base).mono (by decide)) room gd (takes_of rfl rfl rfl rfl) (le_var 0 rfl (.inl rfl)) (la_cons (le_gstr rfl (c_FIGURES t)) la_nil))))))) (lw_or1 ((lt_w (lw_and ((lt_tru (le_var 1 rfl (.inl rfl)))) (lw_and1 ((lt_tru ((le_methO ((h_Reading_is_at t base).mono (by decide)) room gd (takes_of rfl rfl rfl rfl) (le_var 0 rfl (.inl rfl)) (la_cons (le_str) la_nil))))))))))))) (lss_one (ls_raise1 rfl (takes_of rfl rfl rfl rfl) (x1_Malformed t base) (room.mono (by decide)) rfl ((le_fld (fld_Reading_at t) (le_var 0 rfl (.inl rfl)))))) lss_nil)
  (lss_cons (ls_set nd rfl (.inl rfl) ((le_methO ((h_Reading_is_at t base).mono (by decide)) room gd (takes_of rfl rfl rfl rfl) (le_var 0 rfl (.inl rfl)) (la_cons (le_str) la_nil))))
  (lss_cons (ls_set nd rfl (.inl rfl) ((le_methO ((h_Reading_take t base).mono (by decide)) room gd (takes_of rfl rfl rfl rfl) (le_var 0 rfl (.inl rfl)) (la_cons (le_gstr rfl (c_FIGURES t)) la_nil))))
  (lss_cons (ls_if ((lt_w (lw_and ((lt_tru (le_var 3 rfl (.inl rfl)))) (lw_and1 ((lt_cmp c_gt ((le_callB k_len rfl (n_len t) boot_len (la_cons (le_var 4 rfl (.inl rfl)) la_nil))) (le_int) (nomark _))))))) (lss_one (ls_raise1 rfl (takes_of rfl rfl rfl rfl) (x1_Malformed t base) (room.mono (by decide)) rfl ((le_add false (le_var 2 rfl (.inl rfl)) (le_int))))) lss_nil)
  (lss_cons (ls_if ((lt_cmp c_gt ((le_callB k_len rfl (n_len t) boot_len (la_cons (le_var 4 rfl (.inl rfl)) la_nil))) (le_gint rfl (c_MOST_FIGURES t)) (nomark _))) (lss_one (ls_raise1 rfl (takes_of rfl rfl rfl rfl) (x1_Malformed t base) (room.mono (by decide)) rfl ((le_add false (le_var 2 rfl (.inl rfl)) (le_gint rfl (c_MOST_FIGURES t)))))) lss_nil)
  (lss_one (ls_ret ((le_if ((lt_tru (le_var 1 rfl (.inl rfl)))) ((le_neg ((le_callTy k_int rfl (n_int t) boot_int (la_cons (le_var 4 rfl (.inl rfl)) la_nil))))) ((le_callTy k_int rfl (n_int t) boot_int (la_cons (le_var 4 rfl (.inl rfl)) la_nil)))))))))))))))
abbrev N_Reading_term : List Str := ["self", "depth", "word"]
abbrev N_Reading_entries : List Str := ["self", "depth", "found"]
def b_Reading_term (F_Reading_term : Nat → DF) (F_Reading_entries : Nat → DF) (n : Nat) : DS := (sSeq (sIf ((dTru ((dMethO "Reading" "is_at" F_Reading_is_at (dVar 0) (dCons (dC (.str "(")) dNil))))) (sSeq (sIf ((dCmpT cEq (dVar 1) (dC (.int 12)))) (sRaise1 "Malformed" "at" ((dFld "Reading" "at" (dVar 0)))) sSkip)
  (sRet ((dMethO "Reading" "entries" (F_Reading_entries n) (dVar 0) (dCons ((dAdd false (dVar 1) (dC (.int 1)))) dNil))))) sSkip)
  (sSeq (sIf ((dTru ((dMethO "Reading" "is_at" F_Reading_is_at (dVar 0) (dCons (dC (.str ".")) dNil))))) (sSeq (sFldA "Reading" "at" fAddI (dVar 0) (dC (.int 1)))
  (sRet (dC (.str "")))) sSkip)
  (sSeq (sIf ((dTru ((dMethO "Reading" "is_at" F_Reading_is_at (dVar 0) (dCons (dC (.str "abcdefghijklmnopqrstuvwxyz")) dNil))))) (sSeq (sSet 2 ((dMethO "Reading" "take" F_Reading_take (dVar 0) (dCons (dC (.str "abcdefghijklmnopqrstuvwxyz")) dNil))))
  (sRet ((dIf ((dCmpT cEq (dVar 2) (dC (.str "none")))) (dC .none) (dVar 2))))) sSkip)
  (sRet ((dMethO "Reading" "integer" F_Reading_integer (dVar 0) dNil))))))
def b_Reading_entries (F_Reading_term : Nat → DF) (F_Reading_entries : Nat → DF) (n : Nat) : DS := (sSeq (sFldA "Reading" "at" fAddI (dVar 0) (dC (.int 1)))
  (sSeq (sSet 2 ((dLst true (dNil))))
  (sSeq (whileN ((dNotT ((dTru ((dMethO "Reading" "is_at" F_Reading_is_at (dVar 0) (dCons (dC (.str ")")) dNil))))))) (sSeq (sIf ((dTru (dVar 2))) (sSeq (sIf ((dNotT ((dTru ((dMethO "Reading" "is_at" F_Reading_is_at (dVar 0) (dCons (dC (.str " ")) dNil))))))) (sRaise1 "Malformed" "at" ((dFld "Reading" "at" (dVar 0)))) sSkip)
  (sFldA "Reading" "at" fAddI (dVar 0) (dC (.int 1)))) sSkip)
  (sExpr ((dMeth isL gAppend (dVar 2) (dCons ((dMethO "Reading" "term" (F_Reading_term n) (dVar 0) (dCons (dVar 1) dNil))) dNil))))) 4000)
  (sSeq (sFldA "Reading" "at" fAddI (dVar 0) (dC (.int 1)))
  (sRet ((dCall (g1 fTuple) (dCons (dVar 2) dNil))))))))
mutual
def F_Reading_term : Nat → DF
  | 0 => fun _ _ => .bad
  | n + 1 => mkF 2 1 false (b_Reading_term (fun _ => F_Reading_term n) (fun _ => F_Reading_entries n) n)
def F_Reading_entries : Nat → DF
  | 0 => fun _ _ => .bad
  | n + 1 => mkF 2 1 false (b_Reading_entries (fun _ => F_Reading_term n) (fun _ => F_Reading_entries n) n)
end
theorem hs_Reading_term (t : T w K mg) (base : Heap) (n : Nat) (ih_Reading_term : FeM P w K mg base (4 + n) "Reading" "term" (F_Reading_term n)) (ih_Reading_entries : FeM P w K mg base (4 + n) "Reading" "entries" (F_Reading_entries n)) : FeM P w K mg base (4 + n + 1) "Reading" "term" (F_Reading_term (n + 1)) := by
  obtain ⟨fd, F⟩ := t.says.d.def_ 21 (d := d_Reading_term) rfl
  have nd : N_Reading_term.Nodup := by decide +kernel
  refine ⟨⟨_, _, fd, ["self", "depth"], g_Reading t, cl_Reading t, me_Reading_term t, (F.bindsN fun _ _ _ _ _ _ us hl => match us, hl with | [_, _], _ => rfl), fnG_fd (N := N_Reading_term) (m := 1) (live := false) F ⟨rfl, rfl, rfl, nd, rfl, by decide +kernel, by decide +kernel⟩ rfl ?_⟩⟩
  intro cdv A outer s H E room gd
  have hu := u64_of room
  have hu1 := u65_of room
  have K_Reading_term : ∀ {j : Nat}, j ≤ 4 → j ≤ 4 + n := fun h => Nat.le_trans h (Nat.le_add_right _ _)
  have Rm_Reading_term : ∀ {j : Nat}, j ≤ 4 → j ≤ 4 + n := fun h => Nat.le_trans h (Nat.le_add_right _ _)
  exact (lss_cons (ls_if ((lt_tru ((le_methO ((h_Reading_is_at t base).mono (K_Reading_term (by decide))) room gd (takes_of rfl rfl rfl rfl) (le_var 0 rfl (.inl rfl)) (la_cons (le_str) la_nil))))) (lss_cons (ls_if ((lt_cmp (c_eq hu) (le_var 1 rfl (.inl rfl)) (le_gint rfl (c_MOST_OPEN t)) (nomark _))) (lss_one (ls_raise1 rfl (takes_of rfl rfl rfl rfl) (x1_Malformed t base) (room.mono (Rm_Reading_term (by decide))) rfl ((le_fld (fld_Reading_at t) (le_var 0 rfl (.inl rfl)))))) lss_nil)
  (lss_one (ls_ret ((le_methO ih_Reading_entries room gd (takes_of rfl rfl rfl rfl) (le_var 0 rfl (.inl rfl)) (la_cons ((le_add false (le_var 1 rfl (.inl rfl)) (le_int))) la_nil)))))) lss_nil)
  (lss_cons (ls_if ((lt_tru ((le_methO ((h_Reading_is_at t base).mono (K_Reading_term (by decide))) room gd (takes_of rfl rfl rfl rfl) (le_var 0 rfl (.inl rfl)) (la_cons (le_gstr rfl (c_NOBODY t)) la_nil))))) (lss_cons (ls_flda (fld_Reading_at t) (le_var 0 rfl (.inl rfl)) (le_int) io_add)
  (lss_one (ls_ret (le_str)))) lss_nil)
  (lss_cons (ls_if ((lt_tru ((le_methO ((h_Reading_is_at t base).mono (K_Reading_term (by decide))) room gd (takes_of rfl rfl rfl rfl) (le_var 0 rfl (.inl rfl)) (la_cons (le_gstr rfl (c_SMALL t)) la_nil))))) (lss_cons (ls_set nd rfl (.inl rfl) ((le_methO ((h_Reading_take t base).mono (K_Reading_term (by decide))) room gd (takes_of rfl rfl rfl rfl) (le_var 0 rfl (.inl rfl)) (la_cons (le_gstr rfl (c_SMALL t)) la_nil))))
  (lss_one (ls_ret ((le_if ((lt_cmp (c_eq hu) (le_var 2 rfl (.inl rfl)) (le_gstr rfl (c_NOTHING t)) (nomark _))) (le_non) (le_var 2 rfl (.inl rfl))))))) lss_nil)
  (lss_one (ls_ret ((le_methO0 ((h_Reading_integer t base).mono (K_Reading_term (by decide))) room gd (takes_of rfl rfl rfl rfl) (le_var 0 rfl (.inl rfl)))))))))
theorem hs_Reading_entries (t : T w K mg) (base : Heap) (n : Nat) (ih_Reading_term : FeM P w K mg base (4 + n) "Reading" "term" (F_Reading_term n)) (ih_Reading_entries : FeM P w K mg base (4 + n) "Reading" "entries" (F_Reading_entries n)) : FeM P w K mg base (4 + n + 1) "Reading" "entries" (F_Reading_entries (n + 1)) := by
  obtain ⟨fd, F⟩ := t.says.d.def_ 22 (d := d_Reading_entries) rfl
  have nd : N_Reading_entries.Nodup := by decide +kernel
  refine ⟨⟨_, _, fd, ["self", "depth"], g_Reading t, cl_Reading t, me_Reading_entries t, (F.bindsN fun _ _ _ _ _ _ us hl => match us, hl with | [_, _], _ => rfl), fnG_fd (N := N_Reading_entries) (m := 1) (live := false) F ⟨rfl, rfl, rfl, nd, rfl, by decide +kernel, by decide +kernel⟩ rfl ?_⟩⟩
  intro cdv A outer s H E room gd
  have hu := u64_of room
  have hu1 := u65_of room
  have K_Reading_entries : ∀ {j : Nat}, j ≤ 4 → j ≤ 4 + n := fun h => Nat.le_trans h (Nat.le_add_right _ _)
  have Rm_Reading_entries : ∀ {j : Nat}, j ≤ 4 → j ≤ 4 + n := fun h => Nat.le_trans h (Nat.le_add_right _ _)
  exact (lss_cons (ls_flda (fld_Reading_at t) (le_var 0 rfl (.inl rfl)) (le_int) io_add)
  (lss_cons (ls_set nd rfl (.inl rfl) ((le_lst true (la_nil))))
  (lss_cons (ls_while 4000 PassesOwn.leaving ((lt_not ((lt_tru ((le_methO ((h_Reading_is_at t base).mono (K_Reading_entries (by decide))) room gd (takes_of rfl rfl rfl rfl) (le_var 0 rfl (.inl rfl)) (la_cons (le_str) la_nil))))))) (lss_cons (ls_if ((lt_tru (le_var 2 rfl (.inl rfl)))) (lss_cons (ls_if ((lt_not ((lt_tru ((le_methO ((h_Reading_is_at t base).mono (K_Reading_entries (by decide))) room gd (takes_of rfl rfl rfl rfl) (le_var 0 rfl (.inl rfl)) (la_cons (le_str) la_nil))))))) (lss_one (ls_raise1 rfl (takes_of rfl rfl rfl rfl) (x1_Malformed t base) (room.mono (Rm_Reading_entries (by decide))) rfl ((le_fld (fld_Reading_at t) (le_var 0 rfl (.inl rfl)))))) lss_nil)
  (lss_one (ls_flda (fld_Reading_at t) (le_var 0 rfl (.inl rfl)) (le_int) io_add))) lss_nil)
  (lss_one (ls_expr ((le_meth PySem.F.plainAttrs_list PySem.F.slot_list_append PySem.F.type_list_append m_append tyC_list (le_var 2 rfl (.inl rfl)) (la_cons ((le_methO ih_Reading_term room gd (takes_of rfl rfl rfl rfl) (le_var 0 rfl (.inl rfl)) (la_cons (le_var 1 rfl (.inl rfl)) la_nil))) la_nil)))))))
  (lss_cons (ls_flda (fld_Reading_at t) (le_var 0 rfl (.inl rfl)) (le_int) io_add)
  (lss_one (ls_ret ((le_callTy k_tuple rfl (n_tuple t) boot_tuple (la_cons (le_var 2 rfl (.inl rfl)) la_nil)))))))))
theorem hg_Reading_term (t : T w K mg) (base : Heap) : ∀ n : Nat, (FeM P w K mg base (4 + n) "Reading" "term" (F_Reading_term n)) ∧ (FeM P w K mg base (4 + n) "Reading" "entries" (F_Reading_entries n))
  | 0 => ⟨(by obtain ⟨fd, F⟩ := t.says.d.def_ 21 (d := d_Reading_term) rfl; exact ⟨⟨_, _, fd, ["self", "depth"], g_Reading t, cl_Reading t, me_Reading_term t, (F.bindsN fun _ _ _ _ _ _ us hl => match us, hl with | [_, _], _ => rfl), fnG_bad⟩⟩), (by obtain ⟨fd, F⟩ := t.says.d.def_ 22 (d := d_Reading_entries) rfl; exact ⟨⟨_, _, fd, ["self", "depth"], g_Reading t, cl_Reading t, me_Reading_entries t, (F.bindsN fun _ _ _ _ _ _ us hl => match us, hl with | [_, _], _ => rfl), fnG_bad⟩⟩)⟩
  | n + 1 => by
    have q := hg_Reading_term t base n
    exact ⟨hs_Reading_term t base n q.1 q.2, hs_Reading_entries t base n q.1 q.2⟩
theorem h_Reading_term (t : T w K mg) (base : Heap) (n : Nat) : FeM P w K mg base (4 + n) "Reading" "term" (F_Reading_term n) := by
  have q := hg_Reading_term (P := P) t base n
  exact q.1
theorem h_Reading_entries (t : T w K mg) (base : Heap) (n : Nat) : FeM P w K mg base (4 + n) "Reading" "entries" (F_Reading_entries n) := by
  have q := hg_Reading_term (P := P) t base n
  exact q.2
abbrev N_read_term : List Str := ["text", "reading", "term"]
def b_read_term : DS := (sSeq (sSet 1 ((dMake "Reading" F_Reading___init__ (dCons (dVar 0) dNil))))
  (sSeq (sSet 2 ((dMethO "Reading" "term" (F_Reading_term 28) (dVar 1) (dCons (dC (.int 0)) dNil))))
  (sSeq (sIf ((dCmpT cLt ((dFld "Reading" "at" (dVar 1))) ((dCall (g1 fLen) (dCons (dVar 0) dNil))))) (sRaise1 "Malformed" "at" ((dFld "Reading" "at" (dVar 1)))) sSkip)
  (sRet (dVar 2)))))
def F_read_term : DF := mkF 1 2 false b_read_term
theorem h_read_term (t : T w K mg) (base : Heap) : Fe P w K mg base 34 "read_term" F_read_term := by
  obtain ⟨fd, F⟩ := t.says.d.def_ 1 (d := d_read_term) rfl
  have nd : N_read_term.Nodup := by decide +kernel
  refine fe_of (N := N_read_term) (ps := ["text"]) (m := 2) (sl := []) (live := false) F (g_read_term t) (F.bindsN fun _ _ _ _ _ _ us hl => match us, hl with | [_], _ => rfl) ⟨rfl, rfl, rfl, nd, rfl, by decide +kernel, by decide +kernel⟩ rfl ?_
  intro cdv A outer s H E room gd
  have hu := u64_of room
  have hu1 := u65_of room
  exact (lss_cons (ls_set nd rfl (.inl rfl) ((le_make (h_Reading___init__ t base) (room.mono (by decide)) gd (takes_of rfl rfl rfl rfl) rfl (la_cons (le_var 0 rfl (.inl rfl)) la_nil))))
  (lss_cons (ls_set nd rfl (.inl rfl) ((le_methO ((h_Reading_term t base 28).mono (by decide)) room gd (takes_of rfl rfl rfl rfl) (le_var 1 rfl (.inl rfl)) (la_cons (le_int) la_nil))))
  (lss_cons (ls_if ((lt_cmp c_lt ((le_fld (fld_Reading_at t) (le_var 1 rfl (.inl rfl)))) ((le_callB k_len rfl (n_len t) boot_len (la_cons (le_var 0 rfl (.inl rfl)) la_nil))) (nomark _))) (lss_one (ls_raise1 rfl (takes_of rfl rfl rfl rfl) (x1_Malformed t base) (room.mono (by decide)) rfl ((le_fld (fld_Reading_at t) (le_var 1 rfl (.inl rfl)))))) lss_nil)
  (lss_one (ls_ret (le_var 2 rfl (.inl rfl)))))))
abbrev N__law_told : List Str := ["text", "error"]
def b__law_told : DS := (sTryF "Malformed" "at" "bad" 1 (sRet ((dLst false ((dCons (dC (.str "term")) (dCons ((dCall F_read_term (dCons (dVar 0) dNil))) dNil)))))))
def F__law_told : DF := mkF 1 1 false b__law_told
theorem h__law_told (t : T w K mg) (base : Heap) : Fe P w K mg base 35 "_law_told" F__law_told := by
  obtain ⟨fd, F⟩ := t.says.d.def_ 13 (d := d__law_told) rfl
  have nd : N__law_told.Nodup := by decide +kernel
  refine fe_of (N := N__law_told) (ps := ["text"]) (m := 1) (sl := []) (live := false) F (g__law_told t) (F.bindsN fun _ _ _ _ _ _ us hl => match us, hl with | [_], _ => rfl) ⟨rfl, rfl, rfl, nd, rfl, by decide +kernel, by decide +kernel⟩ rfl ?_
  intro cdv A outer s H E room gd
  have hu := u64_of room
  have hu1 := u65_of room
  exact (lss_one (ls_tryF rfl rfl nd rfl rfl (takes_of rfl rfl rfl rfl) rfl (g_Malformed t) (ex1_Malformed t).exm (ex1_Malformed t).xf (ex1_Malformed t).no (fun _ _ _ tk po => (lss_one (ls_ret ((le_lst false ((la_cons (le_str) (la_cons ((le_call ((h_read_term t base).mono (by decide)) room gd tk rfl (la_cons (le_var 0 rfl (.inl rfl)) la_nil))) la_nil))))))))))
abbrev N__law_integer : List Str := ["text", "at", "start", "first", "k"]
def b__law_integer : DS := (sSeq (sSet 2 (dVar 1))
  (sSeq (sIf ((dCmpT cEq ((dSl false (dVar 0) (dSomeO (dVar 1)) (dSomeO ((dAdd false (dVar 1) (dC (.int 1))))))) (dC (.str "-")))) (sSeq (sSet 1 ((dAdd false (dVar 1) (dC (.int 1)))))
  (sIf ((dCmpT cEq ((dSl false (dVar 0) (dSomeO (dVar 1)) (dSomeO ((dAdd false (dVar 1) (dC (.int 1))))))) (dC (.str "0")))) (sRet ((dLst false ((dCons (dC (.str "bad")) (dCons (dVar 1) dNil)))))) sSkip)) sSkip)
  (sSeq (sSet 3 (dVar 1))
  (sSeq (sFor (dRange1 ((dCall (g1 fLen) (dCons (dVar 0) dNil)))) (gN 4) (sIf ((dAndT ((dCmpT cLt (dVar 1) ((dCall (g1 fLen) (dCons (dVar 0) dNil))))) ((dCmpT cIn ((dIx (dVar 0) (dVar 1))) (dC (.str "0123456789")))))) (sSet 1 ((dAdd false (dVar 1) (dC (.int 1))))) sSkip))
  (sSeq (sIf ((dCmpT cEq (dVar 1) (dVar 3))) (sRet ((dLst false ((dCons (dC (.str "bad")) (dCons (dVar 1) dNil)))))) sSkip)
  (sSeq (sIf ((dAndT ((dCmpT cEq ((dIx (dVar 0) (dVar 3))) (dC (.str "0")))) ((dCmpT cGt (dVar 1) ((dAdd false (dVar 3) (dC (.int 1)))))))) (sRet ((dLst false ((dCons (dC (.str "bad")) (dCons ((dAdd false (dVar 3) (dC (.int 1)))) dNil)))))) sSkip)
  (sSeq (sIf ((dCmpT cGt ((dBin fSub (dVar 1) (dVar 3))) (dC (.int 20)))) (sRet ((dLst false ((dCons (dC (.str "bad")) (dCons ((dAdd false (dVar 3) (dC (.int 20)))) dNil)))))) sSkip)
  (sRet ((dLst false ((dCons ((dCall (g1 fInt) (dCons ((dSl false (dVar 0) (dSomeO (dVar 2)) (dSomeO (dVar 1)))) dNil))) (dCons (dVar 1) dNil)))))))))))))
def F__law_integer : DF := mkF 2 3 false b__law_integer
theorem h__law_integer (t : T w K mg) (base : Heap) : Fe P w K mg base 1 "_law_integer" F__law_integer := by
  obtain ⟨fd, F⟩ := t.says.d.def_ 9 (d := d__law_integer) rfl
  have nd : N__law_integer.Nodup := by decide +kernel
  refine fe_of (N := N__law_integer) (ps := ["text", "at"]) (m := 3) (sl := []) (live := false) F (g__law_integer t) (F.bindsN fun _ _ _ _ _ _ us hl => match us, hl with | [_, _], _ => rfl) ⟨rfl, rfl, rfl, nd, rfl, by decide +kernel, by decide +kernel⟩ rfl ?_
  intro cdv A outer s H E room gd
  have hu := u64_of room
  have hu1 := u65_of room
  exact (lss_cons (ls_set nd rfl (.inl rfl) (le_var 1 rfl (.inl rfl)))
  (lss_cons (ls_if ((lt_cmp (c_eq hu) ((le_sl false (le_var 0 rfl (.inl rfl)) (lo_some (le_var 1 rfl (.inl rfl))) (lo_some ((le_add false (le_var 1 rfl (.inl rfl)) (le_int)))))) (le_str) (nomark _))) (lss_cons (ls_set nd rfl (.inl rfl) ((le_add false (le_var 1 rfl (.inl rfl)) (le_int))))
  (lss_one (ls_if ((lt_cmp (c_eq hu) ((le_sl false (le_var 0 rfl (.inl rfl)) (lo_some (le_var 1 rfl (.inl rfl))) (lo_some ((le_add false (le_var 1 rfl (.inl rfl)) (le_int)))))) (le_str) (nomark _))) (lss_one (ls_ret ((le_lst false ((la_cons (le_str) (la_cons (le_var 1 rfl (.inl rfl)) la_nil))))))) lss_nil))) lss_nil)
  (lss_cons (ls_set nd rfl (.inl rfl) (le_var 1 rfl (.inl rfl)))
  (lss_cons (ls_for PassesOwn.leaving rfl (li_range1 rfl (n_range t) ((le_callB k_len rfl (n_len t) boot_len (la_cons (le_var 0 rfl (.inl rfl)) la_nil)))) (lg_name 4 nd rfl (.inl rfl)) (lss_one (ls_if ((lt_w (lw_and ((lt_cmp c_lt (le_var 1 rfl (.inl rfl)) ((le_callB k_len rfl (n_len t) boot_len (la_cons (le_var 0 rfl (.inl rfl)) la_nil))) (nomark _))) (lw_and1 ((lt_cmp (c_in hu1) ((le_ix (le_var 0 rfl (.inl rfl)) (le_var 1 rfl (.inl rfl)))) (le_str) (by rfl))))))) (lss_one (ls_set nd rfl (.inl rfl) ((le_add false (le_var 1 rfl (.inl rfl)) (le_int))))) lss_nil)))
  (lss_cons (ls_if ((lt_cmp (c_eq hu) (le_var 1 rfl (.inl rfl)) (le_var 3 rfl (.inl rfl)) (nomark _))) (lss_one (ls_ret ((le_lst false ((la_cons (le_str) (la_cons (le_var 1 rfl (.inl rfl)) la_nil))))))) lss_nil)
  (lss_cons (ls_if ((lt_w (lw_and ((lt_cmp (c_eq hu) ((le_ix (le_var 0 rfl (.inl rfl)) (le_var 3 rfl (.inl rfl)))) (le_str) (nomark _))) (lw_and1 ((lt_cmp c_gt (le_var 1 rfl (.inl rfl)) ((le_add false (le_var 3 rfl (.inl rfl)) (le_int))) (nomark _))))))) (lss_one (ls_ret ((le_lst false ((la_cons (le_str) (la_cons ((le_add false (le_var 3 rfl (.inl rfl)) (le_int))) la_nil))))))) lss_nil)
  (lss_cons (ls_if ((lt_cmp c_gt ((le_bin o_sub (le_var 1 rfl (.inl rfl)) (le_var 3 rfl (.inl rfl)))) (le_int) (nomark _))) (lss_one (ls_ret ((le_lst false ((la_cons (le_str) (la_cons ((le_add false (le_var 3 rfl (.inl rfl)) (le_int))) la_nil))))))) lss_nil)
  (lss_one (ls_ret ((le_lst false ((la_cons ((le_callTy k_int rfl (n_int t) boot_int (la_cons ((le_sl false (le_var 0 rfl (.inl rfl)) (lo_some (le_var 2 rfl (.inl rfl))) (lo_some (le_var 1 rfl (.inl rfl))))) la_nil))) (la_cons (le_var 1 rfl (.inl rfl)) la_nil))))))))))))))
abbrev N__law_read : List Str := ["text", "at", "depth", "sign", "end", "k"]
abbrev N__law_entries : List Str := ["text", "at", "depth", "found", "turn", "term", "end"]
def b__law_read (F__law_read : Nat → DF) (F__law_entries : Nat → DF) (n : Nat) : DS := (sSeq (sSet 3 ((dSl false (dVar 0) (dSomeO (dVar 1)) (dSomeO ((dAdd false (dVar 1) (dC (.int 1))))))))
  (sSeq (sIf ((dCmpT cEq (dVar 3) (dC (.str "(")))) (sSeq (sIf ((dCmpT cEq (dVar 2) (dC (.int 12)))) (sRet ((dLst false ((dCons (dC (.str "bad")) (dCons (dVar 1) dNil)))))) sSkip)
  (sRet ((dCall (F__law_entries n) (dCons (dVar 0) (dCons ((dAdd false (dVar 1) (dC (.int 1)))) (dCons ((dAdd false (dVar 2) (dC (.int 1)))) dNil))))))) sSkip)
  (sSeq (sIf ((dCmpT cEq (dVar 3) (dC (.str ".")))) (sRet ((dLst false ((dCons (dC (.str "")) (dCons ((dAdd false (dVar 1) (dC (.int 1)))) dNil)))))) sSkip)
  (sSeq (sIf ((dAndT ((dCmpT cNe (dVar 3) (dC (.str "")))) ((dCmpT cIn (dVar 3) (dC (.str "abcdefghijklmnopqrstuvwxyz")))))) (sSeq (sSet 4 (dVar 1))
  (sSeq (sFor (dRange1 ((dCall (g1 fLen) (dCons (dVar 0) dNil)))) (gN 5) (sIf ((dAndT ((dCmpT cLt (dVar 4) ((dCall (g1 fLen) (dCons (dVar 0) dNil))))) ((dCmpT cIn ((dIx (dVar 0) (dVar 4))) (dC (.str "abcdefghijklmnopqrstuvwxyz")))))) (sSet 4 ((dAdd false (dVar 4) (dC (.int 1))))) sSkip))
  (sRet ((dLst false ((dCons ((dIf ((dCmpT cEq ((dSl false (dVar 0) (dSomeO (dVar 1)) (dSomeO (dVar 4)))) (dC (.str "none")))) (dC .none) ((dSl false (dVar 0) (dSomeO (dVar 1)) (dSomeO (dVar 4)))))) (dCons (dVar 4) dNil)))))))) sSkip)
  (sRet ((dCall F__law_integer (dCons (dVar 0) (dCons (dVar 1) dNil)))))))))
def b__law_entries (F__law_read : Nat → DF) (F__law_entries : Nat → DF) (n : Nat) : DS := (sSeq (sSet 3 ((dLst true (dNil))))
  (sSeq (sFor (dRange1 ((dAdd false ((dCall (g1 fLen) (dCons (dVar 0) dNil))) (dC (.int 1))))) (gN 4) (sSeq (sIf ((dCmpT cEq ((dSl false (dVar 0) (dSomeO (dVar 1)) (dSomeO ((dAdd false (dVar 1) (dC (.int 1))))))) (dC (.str ")")))) (sRet ((dLst false ((dCons ((dCall (g1 fTuple) (dCons (dVar 3) dNil))) (dCons ((dAdd false (dVar 1) (dC (.int 1)))) dNil)))))) sSkip)
  (sSeq (sIf ((dTru (dVar 3))) (sSeq (sIf ((dCmpT cNe ((dSl false (dVar 0) (dSomeO (dVar 1)) (dSomeO ((dAdd false (dVar 1) (dC (.int 1))))))) (dC (.str " ")))) (sRet ((dLst false ((dCons (dC (.str "bad")) (dCons (dVar 1) dNil)))))) sSkip)
  (sSet 1 ((dAdd false (dVar 1) (dC (.int 1)))))) sSkip)
  (sSeq (sAsg ((dCall (F__law_read n) (dCons (dVar 0) (dCons (dVar 1) (dCons (dVar 2) dNil))))) fun x δ μ => onlyG ((gT [(gN 5), (gN 6)]) x δ μ))
  (sSeq (sIf ((dAndT ((dCmpT cEq (dVar 5) (dC (.str "bad")))) ((dTru ((dCall gIsi (dCons (dVar 5) (dCons (dK (.ty "str")) dNil)))))))) (sRet ((dLst false ((dCons (dVar 5) (dCons (dVar 6) dNil)))))) sSkip)
  (sSeq (sExpr ((dMeth isL gAppend (dVar 3) (dCons (dVar 5) dNil))))
  (sSet 1 (dVar 6))))))))
  (sRet ((dLst false ((dCons (dC (.str "bad")) (dCons (dVar 1) dNil))))))))
mutual
def F__law_read : Nat → DF
  | 0 => fun _ _ => .bad
  | n + 1 => mkF 3 3 false (b__law_read (fun _ => F__law_read n) (fun _ => F__law_entries n) n)
def F__law_entries : Nat → DF
  | 0 => fun _ _ => .bad
  | n + 1 => mkF 3 4 false (b__law_entries (fun _ => F__law_read n) (fun _ => F__law_entries n) n)
end
theorem hs__law_read (t : T w K mg) (base : Heap) (n : Nat) (ih__law_read : Fe P w K mg base (1 + n) "_law_read" (F__law_read n)) (ih__law_entries : Fe P w K mg base (1 + n) "_law_entries" (F__law_entries n)) : Fe P w K mg base (1 + n + 1) "_law_read" (F__law_read (n + 1)) := by
  obtain ⟨fd, F⟩ := t.says.d.def_ 10 (d := d__law_read) rfl
  have nd : N__law_read.Nodup := by decide +kernel
  refine fe_of (N := N__law_read) (ps := ["text", "at", "depth"]) (m := 3) (sl := []) (live := false) F (g__law_read t) (F.bindsN fun _ _ _ _ _ _ us hl => match us, hl with | [_, _, _], _ => rfl) ⟨rfl, rfl, rfl, nd, rfl, by decide +kernel, by decide +kernel⟩ rfl ?_
  intro cdv A outer s H E room gd
  have hu := u64_of room
  have hu1 := u65_of room
  have K__law_read : ∀ {j : Nat}, j ≤ 1 → j ≤ 1 + n := fun h => Nat.le_trans h (Nat.le_add_right _ _)
  have Rm__law_read : ∀ {j : Nat}, j ≤ 1 → j ≤ 1 + n := fun h => Nat.le_trans h (Nat.le_add_right _ _)
  exact (lss_cons (ls_set nd rfl (.inl rfl) ((le_sl false (le_var 0 rfl (.inl rfl)) (lo_some (le_var 1 rfl (.inl rfl))) (lo_some ((le_add false (le_var 1 rfl (.inl rfl)) (le_int)))))))
  (lss_cons (ls_if ((lt_cmp (c_eq hu) (le_var 3 rfl (.inl rfl)) (le_str) (nomark _))) (lss_cons (ls_if ((lt_cmp (c_eq hu) (le_var 2 rfl (.inl rfl)) (le_int) (nomark _))) (lss_one (ls_ret ((le_lst false ((la_cons (le_str) (la_cons (le_var 1 rfl (.inl rfl)) la_nil))))))) lss_nil)
  (lss_one (ls_ret ((le_call ih__law_entries room gd (takes_of rfl rfl rfl rfl) rfl (la_cons (le_var 0 rfl (.inl rfl)) (la_cons ((le_add false (le_var 1 rfl (.inl rfl)) (le_int))) (la_cons ((le_add false (le_var 2 rfl (.inl rfl)) (le_int))) la_nil)))))))) lss_nil)
  (lss_cons (ls_if ((lt_cmp (c_eq hu) (le_var 3 rfl (.inl rfl)) (le_str) (nomark _))) (lss_one (ls_ret ((le_lst false ((la_cons (le_str) (la_cons ((le_add false (le_var 1 rfl (.inl rfl)) (le_int))) la_nil))))))) lss_nil)
  (lss_cons (ls_if ((lt_w (lw_and ((lt_cmp (c_ne hu) (le_var 3 rfl (.inl rfl)) (le_str) (nomark _))) (lw_and1 ((lt_cmp (c_in hu1) (le_var 3 rfl (.inl rfl)) (le_str) (by rfl))))))) (lss_cons (ls_set nd rfl (.inl rfl) (le_var 1 rfl (.inl rfl)))
  (lss_cons (ls_for PassesOwn.leaving rfl (li_range1 rfl (n_range t) ((le_callB k_len rfl (n_len t) boot_len (la_cons (le_var 0 rfl (.inl rfl)) la_nil)))) (lg_name 5 nd rfl (.inl rfl)) (lss_one (ls_if ((lt_w (lw_and ((lt_cmp c_lt (le_var 4 rfl (.inl rfl)) ((le_callB k_len rfl (n_len t) boot_len (la_cons (le_var 0 rfl (.inl rfl)) la_nil))) (nomark _))) (lw_and1 ((lt_cmp (c_in hu1) ((le_ix (le_var 0 rfl (.inl rfl)) (le_var 4 rfl (.inl rfl)))) (le_str) (by rfl))))))) (lss_one (ls_set nd rfl (.inl rfl) ((le_add false (le_var 4 rfl (.inl rfl)) (le_int))))) lss_nil)))
  (lss_one (ls_ret ((le_lst false ((la_cons ((le_if ((lt_cmp (c_eq hu) ((le_sl false (le_var 0 rfl (.inl rfl)) (lo_some (le_var 1 rfl (.inl rfl))) (lo_some (le_var 4 rfl (.inl rfl))))) (le_str) (nomark _))) (le_non) ((le_sl false (le_var 0 rfl (.inl rfl)) (lo_some (le_var 1 rfl (.inl rfl))) (lo_some (le_var 4 rfl (.inl rfl))))))) (la_cons (le_var 4 rfl (.inl rfl)) la_nil))))))))) lss_nil)
  (lss_one (ls_ret ((le_call ((h__law_integer t base).mono (K__law_read (by decide))) room gd (takes_of rfl rfl rfl rfl) rfl (la_cons (le_var 0 rfl (.inl rfl)) (la_cons (le_var 1 rfl (.inl rfl)) la_nil))))))))))
theorem hs__law_entries (t : T w K mg) (base : Heap) (n : Nat) (ih__law_read : Fe P w K mg base (1 + n) "_law_read" (F__law_read n)) (ih__law_entries : Fe P w K mg base (1 + n) "_law_entries" (F__law_entries n)) : Fe P w K mg base (1 + n + 1) "_law_entries" (F__law_entries (n + 1)) := by
  obtain ⟨fd, F⟩ := t.says.d.def_ 11 (d := d__law_entries) rfl
  have nd : N__law_entries.Nodup := by decide +kernel
  refine fe_of (N := N__law_entries) (ps := ["text", "at", "depth"]) (m := 4) (sl := []) (live := false) F (g__law_entries t) (F.bindsN fun _ _ _ _ _ _ us hl => match us, hl with | [_, _, _], _ => rfl) ⟨rfl, rfl, rfl, nd, rfl, by decide +kernel, by decide +kernel⟩ rfl ?_
  intro cdv A outer s H E room gd
  have hu := u64_of room
  have hu1 := u65_of room
  have K__law_entries : ∀ {j : Nat}, j ≤ 1 → j ≤ 1 + n := fun h => Nat.le_trans h (Nat.le_add_right _ _)
  have Rm__law_entries : ∀ {j : Nat}, j ≤ 1 → j ≤ 1 + n := fun h => Nat.le_trans h (Nat.le_add_right _ _)
  exact (lss_cons (ls_set nd rfl (.inl rfl) ((le_lst true (la_nil))))
  (lss_cons (ls_for PassesOwn.leaving rfl (li_range1 rfl (n_range t) ((le_add false ((le_callB k_len rfl (n_len t) boot_len (la_cons (le_var 0 rfl (.inl rfl)) la_nil))) (le_int)))) (lg_name 4 nd rfl (.inl rfl)) (lss_cons (ls_if ((lt_cmp (c_eq hu) ((le_sl false (le_var 0 rfl (.inl rfl)) (lo_some (le_var 1 rfl (.inl rfl))) (lo_some ((le_add false (le_var 1 rfl (.inl rfl)) (le_int)))))) (le_str) (nomark _))) (lss_one (ls_ret ((le_lst false ((la_cons ((le_callTy k_tuple rfl (n_tuple t) boot_tuple (la_cons (le_var 3 rfl (.inl rfl)) la_nil))) (la_cons ((le_add false (le_var 1 rfl (.inl rfl)) (le_int))) la_nil))))))) lss_nil)
  (lss_cons (ls_if ((lt_tru (le_var 3 rfl (.inl rfl)))) (lss_cons (ls_if ((lt_cmp (c_ne hu) ((le_sl false (le_var 0 rfl (.inl rfl)) (lo_some (le_var 1 rfl (.inl rfl))) (lo_some ((le_add false (le_var 1 rfl (.inl rfl)) (le_int)))))) (le_str) (nomark _))) (lss_one (ls_ret ((le_lst false ((la_cons (le_str) (la_cons (le_var 1 rfl (.inl rfl)) la_nil))))))) lss_nil)
  (lss_one (ls_set nd rfl (.inl rfl) ((le_add false (le_var 1 rfl (.inl rfl)) (le_int)))))) lss_nil)
  (lss_cons (ls_asg ((le_call ih__law_read room gd (takes_of rfl rfl rfl rfl) rfl (la_cons (le_var 0 rfl (.inl rfl)) (la_cons (le_var 1 rfl (.inl rfl)) (la_cons (le_var 2 rfl (.inl rfl)) la_nil))))) (lg_tup rfl (lgs_cons (lg_name 5 nd rfl (.inl rfl)) (lgs_cons (lg_name 6 nd rfl (.inl rfl)) lgs_nil))))
  (lss_cons (ls_if ((lt_w (lw_and ((lt_cmp (c_eq hu) (le_var 5 rfl (.inl rfl)) (le_str) (nomark _))) (lw_and1 ((lt_tru ((le_callB k_isi rfl (n_isinstance t) boot_isinstance (la_cons (le_var 5 rfl (.inl rfl)) (la_cons (le_ty rfl (n_str t) boot_str) la_nil)))))))))) (lss_one (ls_ret ((le_lst false ((la_cons (le_var 5 rfl (.inl rfl)) (la_cons (le_var 6 rfl (.inl rfl)) la_nil))))))) lss_nil)
  (lss_cons (ls_expr ((le_meth PySem.F.plainAttrs_list PySem.F.slot_list_append PySem.F.type_list_append m_append tyC_list (le_var 3 rfl (.inl rfl)) (la_cons (le_var 5 rfl (.inl rfl)) la_nil))))
  (lss_one (ls_set nd rfl (.inl rfl) (le_var 6 rfl (.inl rfl))))))))))
  (lss_one (ls_ret ((le_lst false ((la_cons (le_str) (la_cons (le_var 1 rfl (.inl rfl)) la_nil)))))))))
theorem hg__law_read (t : T w K mg) (base : Heap) : ∀ n : Nat, (Fe P w K mg base (1 + n) "_law_read" (F__law_read n)) ∧ (Fe P w K mg base (1 + n) "_law_entries" (F__law_entries n))
  | 0 => ⟨(by obtain ⟨fd, F⟩ := t.says.d.def_ 10 (d := d__law_read) rfl; exact fe_bad F (g__law_read t) (ps := ["text", "at", "depth"]) (F.bindsN fun _ _ _ _ _ _ us hl => match us, hl with | [_, _, _], _ => rfl) _), (by obtain ⟨fd, F⟩ := t.says.d.def_ 11 (d := d__law_entries) rfl; exact fe_bad F (g__law_entries t) (ps := ["text", "at", "depth"]) (F.bindsN fun _ _ _ _ _ _ us hl => match us, hl with | [_, _, _], _ => rfl) _)⟩
  | n + 1 => by
    have q := hg__law_read t base n
    exact ⟨hs__law_read t base n q.1 q.2, hs__law_entries t base n q.1 q.2⟩
theorem h__law_read (t : T w K mg) (base : Heap) (n : Nat) : Fe P w K mg base (1 + n) "_law_read" (F__law_read n) := by
  have q := hg__law_read (P := P) t base n
  exact q.1
theorem h__law_entries (t : T w K mg) (base : Heap) (n : Nat) : Fe P w K mg base (1 + n) "_law_entries" (F__law_entries n) := by
  have q := hg__law_read (P := P) t base n
  exact q.2
abbrev N__law_due : List Str := ["text", "term", "at"]
def b__law_due : DS := (sSeq (sAsg ((dCall (F__law_read 28) (dCons (dVar 0) (dCons (dC (.int 0)) (dCons (dC (.int 0)) dNil))))) fun x δ μ => onlyG ((gT [(gN 1), (gN 2)]) x δ μ))
  (sSeq (sIf ((dAndT ((dTru ((dCall gIsi (dCons (dVar 1) (dCons (dK (.ty "str")) dNil)))))) ((dCmpT cEq (dVar 1) (dC (.str "bad")))))) (sRet ((dLst false ((dCons (dC (.str "bad")) (dCons (dVar 2) dNil)))))) sSkip)
  (sRet ((dIf ((dCmpT cLt (dVar 2) ((dCall (g1 fLen) (dCons (dVar 0) dNil))))) ((dLst false ((dCons (dC (.str "bad")) (dCons (dVar 2) dNil))))) ((dLst false ((dCons (dC (.str "term")) (dCons (dVar 1) dNil))))))))))
def F__law_due : DF := mkF 1 2 false b__law_due
theorem h__law_due (t : T w K mg) (base : Heap) : Fe P w K mg base 31 "_law_due" F__law_due := by
  obtain ⟨fd, F⟩ := t.says.d.def_ 12 (d := d__law_due) rfl
  have nd : N__law_due.Nodup := by decide +kernel
  refine fe_of (N := N__law_due) (ps := ["text"]) (m := 2) (sl := []) (live := false) F (g__law_due t) (F.bindsN fun _ _ _ _ _ _ us hl => match us, hl with | [_], _ => rfl) ⟨rfl, rfl, rfl, nd, rfl, by decide +kernel, by decide +kernel⟩ rfl ?_
  intro cdv A outer s H E room gd
  have hu := u64_of room
  have hu1 := u65_of room
  exact (lss_cons (ls_asg ((le_call ((h__law_read t base 28).mono (by decide)) room gd (takes_of rfl rfl rfl rfl) rfl (la_cons (le_var 0 rfl (.inl rfl)) (la_cons (le_int) (la_cons (le_int) la_nil))))) (lg_tup rfl (lgs_cons (lg_name 1 nd rfl (.inl rfl)) (lgs_cons (lg_name 2 nd rfl (.inl rfl)) lgs_nil))))
  (lss_cons (ls_if ((lt_w (lw_and ((lt_tru ((le_callB k_isi rfl (n_isinstance t) boot_isinstance (la_cons (le_var 1 rfl (.inl rfl)) (la_cons (le_ty rfl (n_str t) boot_str) la_nil)))))) (lw_and1 ((lt_cmp (c_eq hu) (le_var 1 rfl (.inl rfl)) (le_str) (nomark _))))))) (lss_one (ls_ret ((le_lst false ((la_cons (le_str) (la_cons (le_var 2 rfl (.inl rfl)) la_nil))))))) lss_nil)
  (lss_one (ls_ret ((le_if ((lt_cmp c_lt (le_var 2 rfl (.inl rfl)) ((le_callB k_len rfl (n_len t) boot_len (la_cons (le_var 0 rfl (.inl rfl)) la_nil))) (nomark _))) ((le_lst false ((la_cons (le_str) (la_cons (le_var 2 rfl (.inl rfl)) la_nil))))) ((le_lst false ((la_cons (le_str) (la_cons (le_var 1 rfl (.inl rfl)) la_nil)))))))))))
abbrev N_law : List Str := ["script", "draws", "some", "turn", "term", "text", "k", "at", "cut", "sign", "spoilt", "deep", "texts"]
def b_law : DS := (sSeq (sSet 1 ((dCall F__law_draws (dCons (dVar 0) dNil))))
  (sSeq (sSet 1 ((dCall F__law_more (dCons (dVar 1) (dCons (dC (.int 120)) dNil)))))
  (sSeq (sSet 2 ((dTup ((dCons ((dTup ((dCons (dC (.int 1)) (dCons (dC (.int 2)) dNil))))) (dCons ((dTup ((dCons (dC (.int 1)) (dCons (dC (.int 1)) dNil))))) dNil))))))
  (sSeq (sIf ((dOrT ((dCmpT cNe ((dCall (F_term_text 8) (dCons (dVar 2) dNil))) (dC (.str "((1 2) (1 1))")))) ((dCmpT cNe ((dCall (g1 fRepr) (dCons ((dCall F_read_term (dCons (dC (.str "(. none (-5))")) dNil))) dNil))) ((dCall (g1 fRepr) (dCons ((dTup ((dCons (dC (.str "")) (dCons (dC .none) (dCons ((dTup ((dCons ((dUn fNeg (dC (.int 5)))) dNil)))) dNil)))))) dNil))))))) (sRet (dC (.bool false))) sSkip)
  (sSeq (sFor (dRange1 (dC (.int 4))) (gN 3) (sSeq (sSet 4 ((dCall (F__law_term 6) (dCons (dVar 1) (dCons (dC (.int 0)) dNil)))))
  (sSeq (sSet 5 ((dCall (F__law_text 8) (dCons (dVar 4) dNil))))
  (sSeq (sIf ((dOrT ((dCmpT cNe ((dCall (F_term_text 8) (dCons (dVar 4) dNil))) (dVar 5))) ((dCmpT cNe ((dCall (g1 fRepr) (dCons ((dCall F__law_told (dCons (dVar 5) dNil))) dNil))) ((dCall (g1 fRepr) (dCons ((dLst false ((dCons (dC (.str "term")) (dCons (dVar 4) dNil))))) dNil))))))) (sRet (dC (.bool false))) sSkip)
  (sSeq (sIf ((dAndT ((dTru ((dCall gIsi (dCons (dVar 4) (dCons (dK (.ty "tuple")) dNil)))))) ((dCmpT cNe ((dCall (F_term_text 8) (dCons ((dCall (gList false) (dCons (dVar 4) dNil))) dNil))) (dVar 5))))) (sRet (dC (.bool false))) sSkip)
  (sFor (dRange1 (dC (.int 5))) (gN 6) (sSeq (sSet 7 ((dBin fMod ((dCall (g1 fInt) (dCons ((dCall F__law_next (dCons (dVar 1) dNil))) dNil))) ((dAdd false ((dCall (g1 fLen) (dCons (dVar 5) dNil))) (dC (.int 1)))))))
  (sSeq (sSet 8 ((dBin fMod ((dCall (g1 fInt) (dCons ((dCall F__law_next (dCons (dVar 1) dNil))) dNil))) (dC (.int 2)))))
  (sSeq (sSet 9 ((dCall F__law_pick (dCons (dVar 1) (dCons ((dLst false ((dCons (dC (.str "")) (dCons (dC (.str " ")) (dCons (dC (.str "(")) (dCons (dC (.str ")")) (dCons (dC (.str "-")) (dCons (dC (.str "0")) (dCons (dC (.str "7")) (dCons (dC (.str "a")) (dCons (dC (.str ".")) (dCons (dC (.str "A")) (dCons (dC (.str "_")) (dCons (dC (.str "\t")) dNil))))))))))))))) dNil)))))
  (sSeq (sSet 10 ((dAdd false ((dAdd false ((dSl false (dVar 5) dNoO (dSomeO (dVar 7)))) (dVar 9))) ((dSl false (dVar 5) (dSomeO ((dAdd false (dVar 7) (dVar 8)))) dNoO)))))
  (sIf ((dAndT ((dCmpT cNotIn (dC (.str "bad")) (dVar 10))) ((dCmpT cNe ((dCall (g1 fRepr) (dCons ((dCall F__law_told (dCons (dVar 10) dNil))) dNil))) ((dCall (g1 fRepr) (dCons ((dCall F__law_due (dCons (dVar 10) dNil))) dNil))))))) (sRet (dC (.bool false))) sSkip)))))))))))
  (sSeq (sSet 11 ((dAdd false ((dAdd false ((dMul false (dC (.str "(")) (dC (.int 12)))) (dC (.str "5")))) ((dMul false (dC (.str ")")) (dC (.int 12)))))))
  (sSeq (sSet 12 ((dLst false ((dCons (dC (.str "")) (dCons (dC (.str "(")) (dCons (dC (.str "()")) (dCons (dC (.str "( )")) (dCons (dC (.str "(1 )")) (dCons (dC (.str "(1  2)")) (dCons (dC (.str "(1 2")) (dCons (dC (.str "1 2")) (dCons (dC (.str "-0")) (dCons (dC (.str "00")) (dCons (dC (.str "01")) (dCons (dC (.str "-")) (dCons ((dMul false (dC (.str "1")) (dC (.int 20)))) (dCons ((dMul false (dC (.str "1")) (dC (.int 21)))) (dCons ((dAdd false (dC (.str "-")) ((dMul false (dC (.str "9")) (dC (.int 21)))))) (dCons (dVar 11) (dCons ((dAdd false ((dAdd false (dC (.str "(")) (dVar 11))) (dC (.str ")")))) (dCons (dC (.str "()()")) (dCons (dC (.str "(a.)")) (dCons (dC (.str "5a")) (dCons (dC (.str "a5")) dNil)))))))))))))))))))))))))
  (sSeq (sSet 12 ((dAdd false (dVar 12) ((dLst false ((dCons (dC (.str "none")) (dCons (dC (.str "..")) (dCons (dC (.str ")")) dNil)))))))))
  (sSeq (sIf ((dCmpT cNe ((dLc false [5] (dSeqI (dVar 12)) (gN 5) (dYes) ((dCall (g1 fRepr) (dCons ((dCall F__law_told (dCons (dVar 5) dNil))) dNil))))) ((dLc false [5] (dSeqI (dVar 12)) (gN 5) (dYes) ((dCall (g1 fRepr) (dCons ((dCall F__law_due (dCons (dVar 5) dNil))) dNil))))))) (sRet (dC (.bool false))) sSkip)
  (sRet ((dCmp cEq ((dLc false [4] (dSeqI ((dLst false ((dCons (dC (.str "none")) (dCons (dC (.str "A")) (dCons (dC (.str "a b")) (dCons ((dTup ((dCons (dC (.str "ok")) (dCons (dC (.str "x1")) dNil))))) (dCons ((dTup ((dCons ((dTup ((dCons (dC (.str "none")) dNil)))) dNil)))) dNil))))))))) (gN 4) (dYes) ((dCall F__law_refused (dCons (dVar 4) dNil))))) ((dMul false ((dLst false ((dCons (dC (.bool true)) dNil)))) (dC (.int 5))))))))))))))))
def F_law : DF := mkF 1 12 false b_law
theorem h_law (t : T w K mg) (base : Heap) : Fe P w K mg base 36 "law" F_law := by
  obtain ⟨fd, F⟩ := t.says.d.def_ 15 (d := d_law) rfl
  have nd : N_law.Nodup := by decide +kernel
  refine fe_of (N := N_law) (ps := ["script"]) (m := 12) (sl := []) (live := false) F (g_law t) (F.bindsN fun _ _ _ _ _ _ us hl => match us, hl with | [_], _ => rfl) ⟨rfl, rfl, rfl, nd, rfl, by decide +kernel, by decide +kernel⟩ rfl ?_
  intro cdv A outer s H E room gd
  have hu := u64_of room
  have hu1 := u65_of room
  exact (lss_cons (ls_set nd rfl (.inl rfl) ((le_call ((h__law_draws t base).mono (by decide)) room gd (takes_of rfl rfl rfl rfl) rfl (la_cons (le_var 0 rfl (.inl rfl)) la_nil))))
  (lss_cons (ls_set nd rfl (.inl rfl) ((le_call ((h__law_more t base).mono (by decide)) room gd (takes_of rfl rfl rfl rfl) rfl (la_cons (le_var 1 rfl (.inl rfl)) (la_cons (le_int) la_nil)))))
  (lss_cons (ls_set nd rfl (.inl rfl) ((le_tup ((la_cons ((le_tup ((la_cons (le_int) (la_cons (le_int) la_nil))))) (la_cons ((le_tup ((la_cons (le_int) (la_cons (le_int) la_nil))))) la_nil))))))
  (lss_cons (ls_if ((lt_w (lw_or ((lt_cmp (c_ne hu) ((le_call ((h_term_text t base 8).mono (by decide)) room gd (takes_of rfl rfl rfl rfl) rfl (la_cons (le_var 2 rfl (.inl rfl)) la_nil))) (le_str) (nomark _))) (lw_or1 ((lt_cmp (c_ne hu) ((le_callB (k_repr gd hu) rfl (n_repr t) boot_repr (la_cons ((le_call ((h_read_term t base).mono (by decide)) room gd (takes_of rfl rfl rfl rfl) rfl (la_cons (le_str) la_nil))) la_nil))) ((le_callB (k_repr gd hu) rfl (n_repr t) boot_repr (la_cons ((le_tup ((la_cons (le_str) (la_cons (le_non) (la_cons ((le_tup ((la_cons ((le_neg (le_int))) la_nil)))) la_nil)))))) la_nil))) (nomark _))))))) (lss_one (ls_ret (le_bl))) lss_nil)
  (lss_cons (ls_for PassesOwn.leaving rfl (li_range1 rfl (n_range t) (le_int)) (lg_name 3 nd rfl (.inl rfl)) (lss_cons (ls_set nd rfl (.inl rfl) ((le_call ((h__law_term t base 6).mono (by decide)) room gd (takes_of rfl rfl rfl rfl) rfl (la_cons (le_var 1 rfl (.inl rfl)) (la_cons (le_int) la_nil)))))
  (lss_cons (ls_set nd rfl (.inl rfl) ((le_call ((h__law_text t base 8).mono (by decide)) room gd (takes_of rfl rfl rfl rfl) rfl (la_cons (le_var 4 rfl (.inl rfl)) la_nil))))
  (lss_cons (ls_if ((lt_w (lw_or ((lt_cmp (c_ne hu) ((le_call ((h_term_text t base 8).mono (by decide)) room gd (takes_of rfl rfl rfl rfl) rfl (la_cons (le_var 4 rfl (.inl rfl)) la_nil))) (le_var 5 rfl (.inl rfl)) (nomark _))) (lw_or1 ((lt_cmp (c_ne hu) ((le_callB (k_repr gd hu) rfl (n_repr t) boot_repr (la_cons ((le_call ((h__law_told t base).mono (by decide)) room gd (takes_of rfl rfl rfl rfl) rfl (la_cons (le_var 5 rfl (.inl rfl)) la_nil))) la_nil))) ((le_callB (k_repr gd hu) rfl (n_repr t) boot_repr (la_cons ((le_lst false ((la_cons (le_str) (la_cons (le_var 4 rfl (.inl rfl)) la_nil))))) la_nil))) (nomark _))))))) (lss_one (ls_ret (le_bl))) lss_nil)
  (lss_cons (ls_if ((lt_w (lw_and ((lt_tru ((le_callB k_isi rfl (n_isinstance t) boot_isinstance (la_cons (le_var 4 rfl (.inl rfl)) (la_cons (le_ty rfl (n_tuple t) boot_tuple) la_nil)))))) (lw_and1 ((lt_cmp (c_ne hu) ((le_call ((h_term_text t base 8).mono (by decide)) room gd (takes_of rfl rfl rfl rfl) rfl (la_cons ((le_callTy (k_list false) rfl (n_list t) boot_list (la_cons (le_var 4 rfl (.inl rfl)) la_nil))) la_nil))) (le_var 5 rfl (.inl rfl)) (nomark _))))))) (lss_one (ls_ret (le_bl))) lss_nil)
  (lss_one (ls_for PassesOwn.leaving rfl (li_range1 rfl (n_range t) (le_int)) (lg_name 6 nd rfl (.inl rfl)) (lss_cons (ls_set nd rfl (.inl rfl) ((le_bin o_mod ((le_callTy k_int rfl (n_int t) boot_int (la_cons ((le_call ((h__law_next t base).mono (by decide)) room gd (takes_of rfl rfl rfl rfl) rfl (la_cons (le_var 1 rfl (.inl rfl)) la_nil))) la_nil))) ((le_add false ((le_callB k_len rfl (n_len t) boot_len (la_cons (le_var 5 rfl (.inl rfl)) la_nil))) (le_int))))))
  (lss_cons (ls_set nd rfl (.inl rfl) ((le_bin o_mod ((le_callTy k_int rfl (n_int t) boot_int (la_cons ((le_call ((h__law_next t base).mono (by decide)) room gd (takes_of rfl rfl rfl rfl) rfl (la_cons (le_var 1 rfl (.inl rfl)) la_nil))) la_nil))) (le_int))))
  (lss_cons (ls_set nd rfl (.inl rfl) ((le_call ((h__law_pick t base).mono (by decide)) room gd (takes_of rfl rfl rfl rfl) rfl (la_cons (le_var 1 rfl (.inl rfl)) (la_cons ((le_lst false ((la_cons (le_str) (la_cons (le_str) (la_cons (le_str) (la_cons (le_str) (la_cons (le_str) (la_cons (le_str) (la_cons (le_str) (la_cons (le_str) (la_cons (le_str) (la_cons (le_str) (la_cons (le_str) (la_cons (le_str) la_nil))))))))))))))) la_nil)))))
  (lss_cons (ls_set nd rfl (.inl rfl) ((le_add false ((le_add false ((le_sl false (le_var 5 rfl (.inl rfl)) lo_none (lo_some (le_var 7 rfl (.inl rfl))))) (le_var 9 rfl (.inl rfl)))) ((le_sl false (le_var 5 rfl (.inl rfl)) (lo_some ((le_add false (le_var 7 rfl (.inl rfl)) (le_var 8 rfl (.inl rfl))))) lo_none)))))
  (lss_one (ls_if ((lt_w (lw_and ((lt_cmp (c_notIn hu1) (le_str) (le_var 10 rfl (.inl rfl)) (by rfl))) (lw_and1 ((lt_cmp (c_ne hu) ((le_callB (k_repr gd hu) rfl (n_repr t) boot_repr (la_cons ((le_call ((h__law_told t base).mono (by decide)) room gd (takes_of rfl rfl rfl rfl) rfl (la_cons (le_var 10 rfl (.inl rfl)) la_nil))) la_nil))) ((le_callB (k_repr gd hu) rfl (n_repr t) boot_repr (la_cons ((le_call ((h__law_due t base).mono (by decide)) room gd (takes_of rfl rfl rfl rfl) rfl (la_cons (le_var 10 rfl (.inl rfl)) la_nil))) la_nil))) (nomark _))))))) (lss_one (ls_ret (le_bl))) lss_nil)))))))))))))
  (lss_cons (ls_set nd rfl (.inl rfl) ((le_add false ((le_add false ((le_mul false (le_str) (le_int))) (le_str))) ((le_mul false (le_str) (le_int))))))
  (lss_cons (ls_set nd rfl (.inl rfl) ((le_lst false ((la_cons (le_str) (la_cons (le_str) (la_cons (le_str) (la_cons (le_str) (la_cons (le_str) (la_cons (le_str) (la_cons (le_str) (la_cons (le_str) (la_cons (le_str) (la_cons (le_str) (la_cons (le_str) (la_cons (le_str) (la_cons ((le_mul false (le_str) (le_int))) (la_cons ((le_mul false (le_str) (le_int))) (la_cons ((le_add false (le_str) ((le_mul false (le_str) (le_int))))) (la_cons (le_var 11 rfl (.inl rfl)) (la_cons ((le_add false ((le_add false (le_str) (le_var 11 rfl (.inl rfl)))) (le_str))) (la_cons (le_str) (la_cons (le_str) (la_cons (le_str) (la_cons (le_str) la_nil)))))))))))))))))))))))))
  (lss_cons (ls_set nd rfl (.inl rfl) ((le_add false (le_var 12 rfl (.inl rfl)) ((le_lst false ((la_cons (le_str) (la_cons (le_str) (la_cons (le_str) la_nil)))))))))
  (lss_cons (ls_if ((lt_cmp (c_ne hu) ((le_lc false rfl nd (li_seq (le_var 12 rfl (.inl rfl))) (own := [("text", 5)]) (blkOk_by (by kernel_rfl)) (fun _ _ _ _ _ => (lg_name 5 nd rfl (.inl rfl))) (fun _ _ _ _ _ => lts_nil) (fun _ _ _ _ _ => (le_callB (k_repr gd hu) rfl (n_repr t) boot_repr (la_cons ((le_call ((h__law_told t base).mono (by decide)) room gd takes0 rfl (la_cons (le_var 5 rfl (.inl rfl)) la_nil))) la_nil))) (by decide))) ((le_lc false rfl nd (li_seq (le_var 12 rfl (.inl rfl))) (own := [("text", 5)]) (blkOk_by (by kernel_rfl)) (fun _ _ _ _ _ => (lg_name 5 nd rfl (.inl rfl))) (fun _ _ _ _ _ => lts_nil) (fun _ _ _ _ _ => (le_callB (k_repr gd hu) rfl (n_repr t) boot_repr (la_cons ((le_call ((h__law_due t base).mono (by decide)) room gd takes0 rfl (la_cons (le_var 5 rfl (.inl rfl)) la_nil))) la_nil))) (by decide))) (nomark _))) (lss_one (ls_ret (le_bl))) lss_nil)
  (lss_one (ls_ret ((le_cmp (c_eq hu) ((le_lc false rfl nd (li_seq ((le_lst false ((la_cons (le_str) (la_cons (le_str) (la_cons (le_str) (la_cons ((le_tup ((la_cons (le_str) (la_cons (le_str) la_nil))))) (la_cons ((le_tup ((la_cons ((le_tup ((la_cons (le_str) la_nil)))) la_nil)))) la_nil))))))))) (own := [("term", 4)]) (blkOk_by (by kernel_rfl)) (fun _ _ _ _ _ => (lg_name 4 nd rfl (.inl rfl))) (fun _ _ _ _ _ => lts_nil) (fun _ _ _ _ _ => (le_call ((h__law_refused t base).mono (by decide)) room gd takes0 rfl (la_cons (le_var 4 rfl (.inl rfl)) la_nil))) (by decide))) ((le_mul false ((le_lst false ((la_cons (le_bl) la_nil)))) (le_int))) (nomark _))))))))))))))
end
/-! ## the law's own helpers, in plain words -/
theorem number_ok (c : Int) (μ : Mu) : F__law_number [.t (.int c)] μ = .ok (.t (.int (if c < 0 then 0 - c else c))) μ := by
  by_cases h : c < 0 <;> simp [F__law_number, b__law_number, mkF, sSeq, sSet, sIf, sRet, sRetN, sExpr, sSkip, sBreak, dCmpT, dCmp, dVar, dC, dK, dBin, dAdd, dMul, apAdd, apMul, lstOf, dCall, dCons, dNil, dNotT, dAndT, dOrT, dAndV, dOrV, dNotV, dIf, dTru, apT, ap1, ap2, ap2c, bval, rd, g1, dMeth, rdIs, bind_ok, seq_nx, seq_rt, toS_ok, gN, List.map_cons, List.map_nil, List.replicate, List.cons_append, List.nil_append, List.getElem?_cons_zero, List.getElem?_cons_succ, List.set_cons_zero, List.set_cons_succ, List.length_cons, List.length_nil, cLt, fSub, gc, h]
theorem next_at {k : Nat} {μ : Mu} {ds : List Int} (h : μ[k]? = some (.l (ds.map .int))) : F__law_next [.lst k] μ = .ok (.t (.int (ds.getLast?.getD 0))) (μ.set k (.l (ds.dropLast.map .int))) := by
  have hk : k < μ.length := (List.getElem?_eq_some_iff.mp h).1
  rcases List.eq_nil_or_concat ds with rfl | ⟨init, d, rfl⟩
  · have e := set_self' h
    simp only [List.map_nil] at h e
    simp [F__law_next, b__law_next, mkF, sSeq, sSet, sIf, sRet, sRetN, sExpr, sSkip, sBreak, dCmpT, dCmp, dVar, dC, dK, dBin, dAdd, dMul, apAdd, apMul, lstOf, dCall, dCons, dNil, dNotT, dAndT, dOrT, dAndV, dOrV, dNotV, dIf, dTru, apT, ap1, ap2, ap2c, bval, rd, g1, dMeth, rdIs, bind_ok, seq_nx, seq_rt, toS_ok, gN, List.map_cons, List.map_nil, List.replicate, List.cons_append, List.nil_append, List.getElem?_cons_zero, List.getElem?_cons_succ, List.set_cons_zero, List.set_cons_succ, List.length_cons, List.length_nil, truP, h, gc, e]
  · have e1 : ((init.concat d).map PyData.int)[((init.concat d).map PyData.int).length - 1]? = some (.int d) := by simp
    have e2 : ((init.concat d).map PyData.int).dropLast = init.map .int := by simp
    have e3 : ((init.concat d).map PyData.int).isEmpty = false := by simp
    have e4 : (μ.set k (.l (init.map .int))).take μ.length = μ.set k (.l (init.map .int)) := by rw [List.take_of_length_le]; simp
    simp only [F__law_next, b__law_next, mkF, sSeq, sSet, sIf, sRet, sRetN, sExpr, sSkip, sBreak, dCmpT, dCmp, dVar, dC, dK, dBin, dAdd, dMul, apAdd, apMul, lstOf, dCall, dCons, dNil, dNotT, dAndT, dOrT, dAndV, dOrV, dNotV, dIf, dTru, apT, ap1, ap2, ap2c, bval, rd, g1, dMeth, rdIs, bind_ok, seq_nx, seq_rt, toS_ok, gN, List.map_cons, List.map_nil, List.replicate, List.cons_append, List.nil_append, List.getElem?_cons_zero, List.getElem?_cons_succ, List.set_cons_zero, List.set_cons_succ, List.length_cons, List.length_nil, truP, h, gPop, isL, e1, e2, e3, Bool.not_false, if_true, gc, e4]
    simp
theorem next_ok {k : Nat} {μ : Mu} (h : Dr k μ) : ∃ d μ', 0 ≤ d ∧ d < 1000 ∧ F__law_next [.lst k] μ = .ok (.t (.int d)) μ' ∧ Mv k μ μ' := by
  obtain ⟨ds, gd, e⟩ := h
  refine ⟨_, _, ?_, ?_, next_at e, ⟨ds.dropLast, ⟨by rw [List.length_dropLast]; have := gd.1; omega, fun d hd => gd.2 d (List.dropLast_subset _ hd)⟩, rfl⟩⟩
  · cases q : ds.getLast? with
    | none => simp
    | some d => exact (gd.2 d (List.mem_of_getLast? q)).1
  · cases q : ds.getLast? with
    | none => simp
    | some d => exact (gd.2 d (List.mem_of_getLast? q)).2

theorem fMul_r {i j : Int} (h1 : -(2 ^ 64) < j) (h2 : j < 2 ^ 64) : fMul (.int i) (.int j) = some (.int (i * j)) := by
  have e : mulOk i j = true := by unfold mulOk; rw [decide_eq_true h1, decide_eq_true h2]; simp
  simp only [fMul, e, if_true]
theorem fMul_l {i j : Int} (h1 : -(2 ^ 64) < i) (h2 : i < 2 ^ 64) : fMul (.int i) (.int j) = some (.int (i * j)) := by
  have e : mulOk i j = true := by unfold mulOk; rw [decide_eq_true h1, decide_eq_true h2]; simp
  simp only [fMul, e, if_true]
theorem fMod_ok {i j : Int} (h : j ≠ 0) : fMod (.int i) (.int j) = some (.int (i.fmod j)) := by simp only [fMod, h, if_false]
theorem fDiv_ok {i j : Int} (h : j ≠ 0) (h2 : j.natAbs < 1073741824) : fDiv (.int i) (.int j) = some (.int (i.fdiv j)) := by
  have e : divOk j = true := by unfold divOk; rw [decide_eq_true h, decide_eq_true h2]; simp
  simp only [fDiv, e, if_true]
theorem mod1000 (i : Int) : 0 ≤ i.fmod 1000 ∧ i.fmod 1000 < 1000 := ⟨Int.fmod_nonneg_of_pos i (by decide), Int.fmod_lt_of_pos i (by decide)⟩
theorem pick_ok {k : Nat} {μ : Mu} {xs : List PyData} (h : Dr k μ) (hx : xs ≠ []) : ∃ y μ', y ∈ xs ∧ F__law_pick [.lst k, .t (.list xs)] μ = .ok (.t y) μ' ∧ Mv k μ μ' := by
  obtain ⟨d, μ', h0, h1, e, mv⟩ := next_ok h
  have hl : 0 < xs.length := List.length_pos_iff.mpr hx
  have hm : ((xs.length : Nat) : Int) ≠ 0 := by omega
  have b1 : 0 ≤ d.fmod xs.length := Int.fmod_nonneg_of_pos d (by omega)
  have b2 : d.fmod xs.length < xs.length := Int.fmod_lt_of_pos d (by omega)
  have ix : ∃ y, atI xs (d.fmod xs.length) = some y ∧ y ∈ xs := by
    have e : atI xs (d.fmod xs.length) = xs[(d.fmod xs.length).toNat]? := by
      unfold atI ixN
      rw [if_pos b1, if_pos b2]
      rfl
    rw [e, List.getElem?_eq_getElem (by omega)]
    exact ⟨_, rfl, List.getElem_mem _⟩
  obtain ⟨y, e2, hy⟩ := ix
  refine ⟨y, μ', hy, ?_, mv⟩
  have tk : μ'.take μ.length = μ' := by rw [List.take_of_length_le]; rw [mv.len]; exact Nat.le_refl _
  simp only [F__law_pick, b__law_pick, mkF, sSeq, sSet, sIf, sRet, sRetN, sExpr, sSkip, sBreak, dCmpT, dCmp, dVar, dC, dK, dBin, dAdd, dMul, apAdd, apMul, lstOf, dCall, dCons, dNil, dNotT, dAndT, dOrT, dAndV, dOrV, dNotV, dIf, dTru, apT, ap1, ap2, ap2c, bval, rd, g1, dMeth, rdIs, bind_ok, seq_nx, seq_rt, toS_ok, gN, List.map_cons, List.map_nil, List.replicate, List.cons_append, List.nil_append, List.getElem?_cons_zero, List.getElem?_cons_succ, List.set_cons_zero, List.set_cons_succ, List.length_cons, List.length_nil, dIx, apIx, e, fInt, fLen, fMod_ok hm, ixP, e2, gc, tk, if_true, ne_eq, not_false_eq_true]

abbrev moreS : DS := sSeq (sSet 2 ((dBin fMod ((dCall (g1 fInt) (dCons ((dAdd false ((dMul false (dVar 2) (dC (.int 48271)))) (dC (.int 12345)))) dNil))) (dC (.int 2147483647)))))
  (sExpr ((dMeth isL gAppend (dVar 3) (dCons ((dBin fMod ((dCall (g1 fInt) (dCons ((dBin fDiv (dVar 2) (dC (.int 7)))) dNil))) (dC (.int 1000)))) dNil))))
def moreI (k n L : Nat) (μ2 : Mu) (j : Nat) (δ : Sl) (μ : Mu) : Prop := ∃ (s : Int) (x : Option D) (ms : List Int), δ = [some (.lst k), some (.t (.int n)), some (.t (.int s)), some (.lst L), x] ∧ μ = μ2 ++ [.l (ms.map .int)] ∧ ms.length ≤ j ∧ ∀ d ∈ ms, 0 ≤ d ∧ d < 1000
theorem append_ok {μ : Mu} {k : Nat} {xs : List PyData} {y : PyData} (h : μ[k]? = some (.l xs)) (z : xs.length < sizeLine) : gAppend (.lst k) [.t y] μ = .ok (.t .none) (μ.set k (.l (xs ++ [y]))) := by
  simp only [gAppend, h, z, if_true]
theorem more_step {k n L : Nat} {μ2 : Mu} (hL : L = μ2.length) (s : Int) (x : D) (ms : List Int) (few : ms.length < sizeLine) :
    moreS [some (.lst k), some (.t (.int n)), some (.t (.int s)), some (.lst L), some x] (μ2 ++ [.l (ms.map .int)]) = .nx [some (.lst k), some (.t (.int n)), some (.t (.int ((s * 48271 + 12345).fmod 2147483647))), some (.lst L), some x] (μ2 ++ [.l ((ms ++ [(((s * 48271 + 12345).fmod 2147483647).fdiv 7).fmod 1000]).map .int)]) := by
  subst hL
  have at_ : (μ2 ++ [O.l (ms.map PyData.int)])[μ2.length]? = some (.l (ms.map .int)) := by simp
  have few' : (ms.map PyData.int).length < sizeLine := by rw [List.length_map]; exact few
  have ap := fun y => append_ok (y := y) at_ few'
  have st : ∀ q, (μ2 ++ [O.l (ms.map PyData.int)]).set μ2.length q = μ2 ++ [q] := by intro q; simp
  simp only [moreS, mkF, sSeq, sSet, sIf, sRet, sRetN, sExpr, sSkip, sBreak, dCmpT, dCmp, dVar, dC, dK, dBin, dAdd, dMul, apAdd, apMul, lstOf, dCall, dCons, dNil, dNotT, dAndT, dOrT, dAndV, dOrV, dNotV, dIf, dTru, apT, ap1, ap2, ap2c, bval, rd, g1, dMeth, rdIs, bind_ok, seq_nx, seq_rt, toS_ok, gN, List.map_cons, List.map_nil, List.replicate, List.cons_append, List.nil_append, List.getElem?_cons_zero, List.getElem?_cons_succ, List.set_cons_zero, List.set_cons_succ, List.length_cons, List.length_nil, fMul_r (show -(2 ^ 64) < (48271 : Int) by decide) (show (48271 : Int) < 2 ^ 64 by decide), fAdd, fInt, fMod_ok (show (2147483647 : Int) ≠ 0 by decide), fDiv_ok (show (7 : Int) ≠ 0 by decide) (by decide), fMod_ok (show (1000 : Int) ≠ 0 by decide), at_, isL, ap, if_true, st, List.map_append]

theorem range_ok {n : Nat} {μ : Mu} (h : n ≤ 1000000) : apR1D (.t (.int n)) μ = .ok (intsFrom 0 n, none) μ := by
  have e1 : -(2 ^ 62) ≤ (0 : Int) := by decide
  have e2 : (0 : Int) < 2 ^ 62 := by decide
  have e3 : -(2 ^ 62) ≤ ((n : Nat) : Int) := Int.le_trans e1 (Int.natCast_nonneg n)
  have e4 : ((n : Nat) : Int) < 2 ^ 62 := Int.lt_of_le_of_lt (Int.ofNat_le.mpr h) (by decide)
  have e5 : (((n : Nat) : Int) - 0).toNat = n := by omega
  unfold apR1D apR2
  dsimp only
  rw [if_pos ⟨e1, e2, e3, e4, by rw [e5]; exact h⟩, e5]
theorem dRange1_ok {da : DE} {δ : Sl} {n : Nat} {μ μ' : Mu} (h : n ≤ 1000000) (e : da δ μ = .ok (.t (.int n)) μ') : dRange1 da δ μ = .ok (intsFrom 0 n, none) μ' := by
  unfold dRange1
  rw [e, bind_ok]
  exact range_ok h
theorem more_loop {k n : Nat} {μ2 : Mu} (hn : n ≤ 20000) (s0 : Int) : ∃ j δ' μ', j ≤ n ∧ forL (chk (intsFrom 0 n, none)) (gN 4) moreS (intsFrom 0 n) [some (.lst k), some (.t (.int n)), some (.t (.int s0)), some (.lst μ2.length), none] (μ2 ++ [.l []]) = .nx δ' μ' ∧ moreI k n μ2.length μ2 j δ' μ' := by
  refine forL_inv (moreI k n μ2.length μ2) n (fun _ => rfl) (intsFrom 0 n) 0 _ (μ2 ++ [.l []]) ⟨s0, none, [], rfl, rfl, Nat.le_refl _, fun d hd => by cases hd⟩ (by rw [intsFrom_length]; omega) ?_
  rintro y hy i δ μ hi ⟨s, x, ms, rfl, rfl, hm, ha⟩
  refine ⟨_, _, _, _, rfl, ?_, .inl (more_step rfl s (.t y) ms (by rw [sizeLine_eq]; omega))⟩
  refine ⟨_, _, _, rfl, rfl, by rw [List.length_append, List.length_singleton]; omega, ?_⟩
  intro d hd
  rcases List.mem_append.mp hd with hd | hd
  · exact ha d hd
  · rw [List.mem_singleton] at hd
    rw [hd]
    exact mod1000 _
theorem for_run {di : DI} {g : DG} {s : DS} {δ δ' : Sl} {μ μ1 μ' : Mu} {p : It'} (h1 : di δ μ = .ok p μ1) (h2 : forL (chk p) g s p.1 δ μ1 = .nx δ' μ') : sFor di g s δ μ = .nx δ' μ' := by
  unfold sFor
  rw [h1, toS_ok]
  exact h2
theorem newLive_ok {k : Nat} {μ : Mu} {x y : D} {xs ys : List PyData} (h1 : lstOf μ x = some xs) (h2 : lstOf μ y = some ys) (z : xs.length + ys.length ≤ sizeLine) : apAdd true x y μ = .ok (.lst μ.length) (μ ++ [.l (xs ++ ys)]) := by
  simp only [apAdd, h1, h2, z, if_true, newL]
theorem more_body {k n : Nat} {μ μ1 μ2 : Mu} {a b : Int} {δ' : Sl} {xs ys : List PyData} (e1 : F__law_next [.lst k] μ = .ok (.t (.int a)) μ1) (e2 : F__law_next [.lst k] μ1 = .ok (.t (.int b)) μ2)
    (fr : sFor (dRange1 (dVar 1)) (gN 4) moreS [some (.lst k), some (.t (.int n)), some (.t (.int (1000 * a + b + 1))), some (.lst μ2.length), none] (μ2 ++ [.l []]) = .nx δ' (μ2 ++ [.l xs])) (h0 : δ'[0]? = some (some (.lst k))) (h3 : δ'[3]? = some (some (.lst μ2.length)))
    (ad : apAdd true (.lst μ2.length) (.lst k) (μ2 ++ [.l xs]) = .ok (.lst (μ2.length + 1)) (μ2 ++ [.l xs] ++ [.l ys])) :
    b__law_more [some (.lst k), some (.t (.int n)), none, none, none] μ = .rt (.lst (μ2.length + 1)) (μ2 ++ [.l xs] ++ [.l ys]) := by
  have s1 : (dAdd false ((dAdd false ((dMul false (dC (.int 1000)) ((dCall F__law_next (dCons (dVar 0) dNil))))) ((dCall F__law_next (dCons (dVar 0) dNil))))) (dC (.int 1))) [some (.lst k), some (.t (.int n)), none, none, none] μ = .ok (.t (.int (1000 * a + b + 1))) μ2 := by
    simp only [mkF, sSeq, sSet, sIf, sRet, sRetN, sExpr, sSkip, sBreak, dCmpT, dCmp, dVar, dC, dK, dBin, dAdd, dMul, apAdd, apMul, lstOf, dCall, dCons, dNil, dNotT, dAndT, dOrT, dAndV, dOrV, dNotV, dIf, dTru, apT, ap1, ap2, ap2c, bval, rd, g1, dMeth, rdIs, bind_ok, seq_nx, seq_rt, toS_ok, gN, List.map_cons, List.map_nil, List.replicate, List.cons_append, List.nil_append, List.getElem?_cons_zero, List.getElem?_cons_succ, List.set_cons_zero, List.set_cons_succ, List.length_cons, List.length_nil, e1, e2, fMul_l (show -(2 ^ 64) < (1000 : Int) by decide) (show (1000 : Int) < 2 ^ 64 by decide), fAdd]
  have s2 : (dLst true dNil) [some (.lst k), some (.t (.int n)), some (.t (.int (1000 * a + b + 1))), none, none] μ2 = .ok (.lst μ2.length) (μ2 ++ [.l []]) := rfl
  show (sSeq (sSet 2 _) (sSeq (sSet 3 (dLst true dNil)) (sSeq (sFor (dRange1 (dVar 1)) (gN 4) moreS) (sRet (dAdd true (dVar 3) (dVar 0)))))) _ μ = _
  unfold sSeq
  have t1 : sSet 2 (dAdd false ((dAdd false ((dMul false (dC (.int 1000)) ((dCall F__law_next (dCons (dVar 0) dNil))))) ((dCall F__law_next (dCons (dVar 0) dNil))))) (dC (.int 1))) [some (.lst k), some (.t (.int n)), none, none, none] μ = .nx [some (.lst k), some (.t (.int n)), some (.t (.int (1000 * a + b + 1))), none, none] μ2 := by
    unfold sSet; rw [s1]; rfl
  have t2 : sSet 3 (dLst true dNil) [some (.lst k), some (.t (.int n)), some (.t (.int (1000 * a + b + 1))), none, none] μ2 = .nx [some (.lst k), some (.t (.int n)), some (.t (.int (1000 * a + b + 1))), some (.lst μ2.length), none] (μ2 ++ [.l []]) := by
    unfold sSet; rw [s2]; rfl
  rw [t1, seq_nx, t2, seq_nx, fr, seq_nx]
  simp only [sRet, dAdd, dVar, h0, h3, bind_ok, ad, toS_ok]
theorem more_ok {k n : Nat} {μ : Mu} {ds : List Int} (g : ∀ d ∈ ds, 0 ≤ d ∧ d < 1000) (hz : ds.length + n ≤ 20000) (h : μ[k]? = some (.l (ds.map .int))) : ∃ μ' es, Mv k μ μ' ∧ Good es ∧ F__law_more [.lst k, .t (.int n)] μ = .ok (.lst μ.length) (μ' ++ [.l (es.map .int)]) := by
  have dr : Dr k μ := ⟨ds, ⟨by omega, g⟩, h⟩
  have hk : k < μ.length := dr.lt
  have e1 := next_at h
  have h1 : (μ.set k (.l (ds.dropLast.map .int)))[k]? = some (.l (ds.dropLast.map .int)) := List.getElem?_set_self hk
  have e2 := next_at h1
  rw [List.set_set] at e2
  generalize hμ : μ.set k (O.l (ds.dropLast.dropLast.map .int)) = μ2 at e2
  have l2 : μ.length = μ2.length := by rw [← hμ, List.length_set]
  have gd : ∀ d ∈ ds.dropLast.dropLast, 0 ≤ d ∧ d < 1000 := fun d hd => g d (List.dropLast_subset _ (List.dropLast_subset _ hd))
  have h2 : μ2[k]? = some (.l (ds.dropLast.dropLast.map .int)) := by rw [← hμ]; exact List.getElem?_set_self hk
  obtain ⟨j, δ', μ', hj, el, s, x, ms, rfl, rfl, hm, ha⟩ := more_loop (k := k) (n := n) (μ2 := μ2) (by omega) (1000 * (ds.getLast?.getD 0) + (ds.dropLast.getLast?.getD 0) + 1)
  have dl : ds.dropLast.dropLast.length ≤ ds.length := by simp only [List.length_dropLast]; omega
  refine ⟨μ2, ms ++ ds.dropLast.dropLast, ⟨ds.dropLast.dropLast, ⟨by omega, gd⟩, hμ.symm⟩, ⟨by rw [List.length_append]; omega, ?_⟩, ?_⟩
  · intro d hd
    rcases List.mem_append.mp hd with hd | hd
    · exact ha d hd
    · exact gd d hd
  · have at3 : lstOf (μ2 ++ [O.l (ms.map PyData.int)]) (.lst μ2.length) = some (ms.map .int) := by unfold lstOf; simp
    have at0 : lstOf (μ2 ++ [O.l (ms.map PyData.int)]) (.lst k) = some (ds.dropLast.dropLast.map .int) := by
      unfold lstOf
      dsimp only
      rw [List.getElem?_append_left (by omega), h2]
    have zz : (ms.map PyData.int).length + (ds.dropLast.dropLast.map PyData.int).length ≤ sizeLine := by rw [List.length_map, List.length_map, sizeLine_eq]; omega
    have ad := newLive_ok (k := k) at3 at0 zz
    have fr := for_run (di := dRange1 (dVar 1)) (δ := [some (.lst k), some (.t (.int n)), some (.t (.int (1000 * (ds.getLast?.getD 0) + (ds.dropLast.getLast?.getD 0) + 1))), some (.lst μ2.length), none]) (μ := μ2 ++ [.l []]) (p := (intsFrom 0 n, none)) (dRange1_ok (by omega) rfl) el
    have body := more_body (xs := ms.map .int) (ys := ms.map .int ++ ds.dropLast.dropLast.map .int) e1 e2 fr rfl rfl (by rw [ad, List.length_append, List.length_singleton])
    have e3 := mkF_rt (n := 2) (m := 3) (live := true) (args := [.lst k, .t (.int n)]) rfl body
    show mkF 2 3 true b__law_more [.lst k, .t (.int n)] μ = _
    rw [e3, l2]
    unfold gc
    simp

abbrev innerS : DS := sSeq (sIf ((dCmpT cEq (dVar 3) (dC (.int 0)))) sBreak sSkip)
  (sSeq (sExpr ((dMeth isL gAppend (dVar 1) (dCons ((dBin fMod ((dCall (g1 fInt) (dCons (dVar 3) dNil))) (dC (.int 1000)))) dNil))))
  (sSet 3 ((dBin fDiv (dVar 3) (dC (.int 1000))))))
abbrev smallS : DS := sSeq (sSet 5 ((dBin fMod ((dCall (g1 fInt) (dCons ((dAdd false ((dMul false (dVar 3) (dC (.int 48271)))) (dC (.int 11)))) dNil))) (dC (.int 2147483647)))))
  (sSeq (sSet 6 ((dBin fMod ((dCall (g1 fInt) (dCons ((dAdd false ((dMul false (dVar 5) (dC (.int 69621)))) (dVar 3))) dNil))) (dC (.int 2147483629)))))
  (sExpr ((dMeth isL gExtend (dVar 1) (dCons ((dLst false ((dCons ((dBin fMod ((dCall (g1 fInt) (dCons (dVar 3) dNil))) (dC (.int 1000)))) (dCons ((dBin fMod ((dCall (g1 fInt) (dCons (dVar 5) dNil))) (dC (.int 1000)))) (dCons ((dBin fMod ((dCall (g1 fInt) (dCons (dVar 6) dNil))) (dC (.int 1000)))) dNil)))))) dNil)))))
abbrev outerS : DS := sSeq (sSet 3 ((dCall F__law_number (dCons (dVar 2) dNil))))
  (sIf ((dCmpT cGe (dVar 3) (dC (.int 1000000000000000000)))) (sFor (dRange1 (dC (.int 60))) (gN 4) innerS) smallS)
theorem inner_zero {X : D} {a2 a4 a5 a6 : Option D} {ds : List Int} : innerS [some X, some (.lst 0), a2, some (.t (.int 0)), a4, a5, a6] [.l (ds.map .int)] = .bk [some X, some (.lst 0), a2, some (.t (.int 0)), a4, a5, a6] [.l (ds.map .int)] := rfl
theorem inner_more {X : D} {a2 a4 a5 a6 : Option D} {ds : List Int} {r : Int} (h : r ≠ 0) (z : ds.length < sizeLine) : innerS [some X, some (.lst 0), a2, some (.t (.int r)), a4, a5, a6] [.l (ds.map .int)] = .nx [some X, some (.lst 0), a2, some (.t (.int (r.fdiv 1000))), a4, a5, a6] [.l ((ds ++ [r.fmod 1000]).map .int)] := by
  have at_ : ([O.l (ds.map PyData.int)] : Mu)[0]? = some (.l (ds.map .int)) := rfl
  have ap := fun y => append_ok (y := y) at_ (by rw [List.length_map]; exact z)
  have hb : (r == 0) = false := beq_false_of_ne h
  simp only [innerS, mkF, sSeq, sSet, sIf, sRet, sRetN, sExpr, sSkip, sBreak, dCmpT, dCmp, dVar, dC, dK, dBin, dAdd, dMul, apAdd, apMul, lstOf, dCall, dCons, dNil, dNotT, dAndT, dOrT, dAndV, dOrV, dNotV, dIf, dTru, apT, ap1, ap2, ap2c, bval, rd, g1, dMeth, rdIs, bind_ok, seq_nx, seq_rt, toS_ok, gN, List.map_cons, List.map_nil, List.replicate, List.cons_append, List.nil_append, List.getElem?_cons_zero, List.getElem?_cons_succ, List.set_cons_zero, List.set_cons_succ, List.length_cons, List.length_nil, cEq, hb, Bool.false_eq_true, if_false, at_, isL, if_true, fInt, fMod_ok (show (1000 : Int) ≠ 0 by decide), ap, fDiv_ok (show (1000 : Int) ≠ 0 by decide) (by decide), List.map_append]
theorem small_ok {X : D} {a2 a4 a5 a6 : Option D} {ds : List Int} {r : Int} (z : ds.length + 3 ≤ sizeLine) : ∃ es : List Int, es.length = 3 ∧ (∀ d ∈ es, 0 ≤ d ∧ d < 1000) ∧ ∃ b5 b6, smallS [some X, some (.lst 0), a2, some (.t (.int r)), a4, a5, a6] [.l (ds.map .int)] = .nx [some X, some (.lst 0), a2, some (.t (.int r)), a4, b5, b6] [.l ((ds ++ es).map .int)] := by
  refine ⟨[r.fmod 1000, ((r * 48271 + 11).fmod 2147483647).fmod 1000, ((((r * 48271 + 11).fmod 2147483647) * 69621 + r).fmod 2147483629).fmod 1000], rfl, ?_, some (.t (.int ((r * 48271 + 11).fmod 2147483647))), some (.t (.int ((((r * 48271 + 11).fmod 2147483647) * 69621 + r).fmod 2147483629))), ?_⟩
  · intro d hd
    simp only [List.mem_cons, List.not_mem_nil, or_false] at hd
    rcases hd with rfl | rfl | rfl <;> exact mod1000 _
  · have at_ : ([O.l (ds.map PyData.int)] : Mu)[0]? = some (.l (ds.map .int)) := rfl
    have z' : (ds.map PyData.int).length + 3 ≤ sizeLine := by rw [List.length_map]; exact z
    have z3 : 3 ≤ sizeLine := by omega
    simp only [smallS, mkF, sSeq, sSet, sIf, sRet, sRetN, sExpr, sSkip, sBreak, dCmpT, dCmp, dVar, dC, dK, dBin, dAdd, dMul, apAdd, apMul, lstOf, dCall, dCons, dNil, dNotT, dAndT, dOrT, dAndV, dOrV, dNotV, dIf, dTru, apT, ap1, ap2, ap2c, bval, rd, g1, dMeth, rdIs, bind_ok, seq_nx, seq_rt, toS_ok, gN, List.map_cons, List.map_nil, List.replicate, List.cons_append, List.nil_append, List.getElem?_cons_zero, List.getElem?_cons_succ, List.set_cons_zero, List.set_cons_succ, List.length_cons, List.length_nil, fMul_r (show -(2 ^ 64) < (48271 : Int) by decide) (show (48271 : Int) < 2 ^ 64 by decide), fMul_r (show -(2 ^ 64) < (69621 : Int) by decide) (show (69621 : Int) < 2 ^ 64 by decide), fAdd, fInt, fMod_ok (show (2147483647 : Int) ≠ 0 by decide), fMod_ok (show (2147483629 : Int) ≠ 0 by decide), fMod_ok (show (1000 : Int) ≠ 0 by decide), at_, isL, if_true, dLst, mkLst, allT, newL, Nat.zero_add, Nat.reduceAdd, z3, Bool.false_eq_true, if_false, Option.map_some, gExtend, z', List.map_append]
def drI (X : D) (B : Nat) (j : Nat) (δ : Sl) (μ : Mu) : Prop := ∃ (r : Int) (a2 a4 a5 a6 : Option D) (ds : List Int), δ = [some X, some (.lst 0), a2, some (.t (.int r)), a4, a5, a6] ∧ μ = [.l (ds.map .int)] ∧ ds.length ≤ B + j ∧ ∀ d ∈ ds, 0 ≤ d ∧ d < 1000
theorem inner_loop {X : D} {B : Nat} (hB : B ≤ 19000) {δ : Sl} {μ : Mu} (h : drI X B 0 δ μ) : ∃ j δ' μ', j ≤ 60 ∧ forL (chk (intsFrom 0 60, none)) (gN 4) innerS (intsFrom 0 60) δ μ = .nx δ' μ' ∧ drI X B j δ' μ' := by
  refine forL_inv (drI X B) 60 (fun _ => rfl) (intsFrom 0 60) 0 δ μ h (by rw [intsFrom_length]; decide) ?_
  rintro y hy i δ μ hi ⟨r, a2, a4, a5, a6, ds, rfl, rfl, hl, hd⟩
  by_cases hr : r = 0
  · subst hr
    exact ⟨_, _, _, _, rfl, ⟨0, a2, some (.t y), a5, a6, ds, rfl, rfl, by omega, hd⟩, .inr (.inr inner_zero)⟩
  · refine ⟨_, _, _, _, rfl, ⟨r.fdiv 1000, a2, some (.t y), a5, a6, ds ++ [r.fmod 1000], rfl, rfl, by rw [List.length_append, List.length_singleton]; omega, ?_⟩, .inl (inner_more hr (by rw [sizeLine_eq]; omega))⟩
    intro d hd'
    rcases List.mem_append.mp hd' with hd' | hd'
    · exact hd d hd'
    · rw [List.mem_singleton] at hd'
      rw [hd']
      exact mod1000 _
def oI (X : D) (j : Nat) (δ : Sl) (μ : Mu) : Prop := ∃ (a2 a3 a4 a5 a6 : Option D) (ds : List Int), δ = [some X, some (.lst 0), a2, a3, a4, a5, a6] ∧ μ = [.l (ds.map .int)] ∧ ds.length ≤ 60 * j ∧ ∀ d ∈ ds, 0 ≤ d ∧ d < 1000
theorem outer_step {X : D} {i : Nat} (hi : i < 63) (c : Int) {δ : Sl} {μ : Mu} (h : oI X i δ μ) : ∃ δ1 μ1 δ2 μ2, gN 2 (.t (.int c)) δ μ = .nx δ1 μ1 ∧ oI X (i + 1) δ2 μ2 ∧ (outerS δ1 μ1 = .nx δ2 μ2 ∨ outerS δ1 μ1 = .ct δ2 μ2 ∨ outerS δ1 μ1 = .bk δ2 μ2) := by
  obtain ⟨a2, a3, a4, a5, a6, ds, rfl, rfl, hl, hd⟩ := h
  generalize hr : (if c < 0 then 0 - c else c) = r
  have s1 : sSet 3 (dCall F__law_number (dCons (dVar 2) dNil)) [some X, some (.lst 0), some (.t (.int c)), a3, a4, a5, a6] [.l (ds.map .int)] = .nx [some X, some (.lst 0), some (.t (.int c)), some (.t (.int r)), a4, a5, a6] [.l (ds.map .int)] := by
    simp only [mkF, sSeq, sSet, sIf, sRet, sRetN, sExpr, sSkip, sBreak, dCmpT, dCmp, dVar, dC, dK, dBin, dAdd, dMul, apAdd, apMul, lstOf, dCall, dCons, dNil, dNotT, dAndT, dOrT, dAndV, dOrV, dNotV, dIf, dTru, apT, ap1, ap2, ap2c, bval, rd, g1, dMeth, rdIs, bind_ok, seq_nx, seq_rt, toS_ok, gN, List.map_cons, List.map_nil, List.replicate, List.cons_append, List.nil_append, List.getElem?_cons_zero, List.getElem?_cons_succ, List.set_cons_zero, List.set_cons_succ, List.length_cons, List.length_nil, number_ok, hr]
  by_cases big : r ≥ 1000000000000000000
  · obtain ⟨j, δ', μ', hj, e, r', b2, b4, b5, b6, es, rfl, rfl, hl', hd'⟩ := inner_loop (X := X) (B := 60 * i) (by omega) (δ := [some X, some (.lst 0), some (.t (.int c)), some (.t (.int r)), a4, a5, a6]) (μ := [.l (ds.map .int)]) ⟨r, _, _, _, _, ds, rfl, rfl, by omega, hd⟩
    refine ⟨_, _, _, _, rfl, ⟨b2, some (.t (.int r')), b4, b5, b6, es, rfl, rfl, by omega, hd'⟩, .inl ?_⟩
    show (sSeq (sSet 3 _) (sIf _ _ _)) _ _ = _
    unfold sSeq
    rw [List.set_cons_succ, List.set_cons_succ, List.set_cons_zero, s1, seq_nx]
    have tst : (dCmpT cGe (dVar 3) (dC (.int 1000000000000000000))) [some X, some (.lst 0), some (.t (.int c)), some (.t (.int r)), a4, a5, a6] [.l (ds.map .int)] = .ok true [.l (ds.map .int)] := by
      simp only [mkF, sSeq, sSet, sIf, sRet, sRetN, sExpr, sSkip, sBreak, dCmpT, dCmp, dVar, dC, dK, dBin, dAdd, dMul, apAdd, apMul, lstOf, dCall, dCons, dNil, dNotT, dAndT, dOrT, dAndV, dOrV, dNotV, dIf, dTru, apT, ap1, ap2, ap2c, bval, rd, g1, dMeth, rdIs, bind_ok, seq_nx, seq_rt, toS_ok, gN, List.map_cons, List.map_nil, List.replicate, List.cons_append, List.nil_append, List.getElem?_cons_zero, List.getElem?_cons_succ, List.set_cons_zero, List.set_cons_succ, List.length_cons, List.length_nil, cGe, decide_eq_true big]
    unfold sIf
    rw [tst, toS_ok, if_pos rfl]
    exact for_run (dRange1_ok (n := 60) (by decide) rfl) e
  · obtain ⟨es, h3, hes, b5, b6, e⟩ := small_ok (X := X) (a2 := some (.t (.int c))) (a4 := a4) (a5 := a5) (a6 := a6) (ds := ds) (r := r) (by rw [sizeLine_eq]; omega)
    refine ⟨_, _, _, _, rfl, ⟨some (.t (.int c)), some (.t (.int r)), a4, b5, b6, ds ++ es, rfl, rfl, by rw [List.length_append]; omega, ?_⟩, .inl ?_⟩
    · intro d hd'
      rcases List.mem_append.mp hd' with hd' | hd'
      · exact hd d hd'
      · exact hes d hd'
    · show (sSeq (sSet 3 _) (sIf _ _ _)) _ _ = _
      unfold sSeq
      rw [List.set_cons_succ, List.set_cons_succ, List.set_cons_zero, s1, seq_nx]
      have tst : (dCmpT cGe (dVar 3) (dC (.int 1000000000000000000))) [some X, some (.lst 0), some (.t (.int c)), some (.t (.int r)), a4, a5, a6] [.l (ds.map .int)] = .ok false [.l (ds.map .int)] := by
        simp only [mkF, sSeq, sSet, sIf, sRet, sRetN, sExpr, sSkip, sBreak, dCmpT, dCmp, dVar, dC, dK, dBin, dAdd, dMul, apAdd, apMul, lstOf, dCall, dCons, dNil, dNotT, dAndT, dOrT, dAndV, dOrV, dNotV, dIf, dTru, apT, ap1, ap2, ap2c, bval, rd, g1, dMeth, rdIs, bind_ok, seq_nx, seq_rt, toS_ok, gN, List.map_cons, List.map_nil, List.replicate, List.cons_append, List.nil_append, List.getElem?_cons_zero, List.getElem?_cons_succ, List.set_cons_zero, List.set_cons_succ, List.length_cons, List.length_nil, cGe, decide_eq_false big]
      unfold sIf
      rw [tst, toS_ok, if_neg Bool.false_ne_true]
      exact e
theorem draws_ok (ns : List Int) (h : ns.length ≤ 63) : ∃ ds : List Int, ds.length ≤ 3780 ∧ (∀ d ∈ ds, 0 ≤ d ∧ d < 1000) ∧ F__law_draws [.fz (ns.map .int)] [] = .ok (.lst 0) [.l (ds.map .int)] := by
  have lp := forL_inv (ok := chk (ns.map PyData.int, none)) (g := gN 2) (s := outerS) (oI (.fz (ns.map .int))) 63 (fun _ => rfl) (ns.map .int) 0 [some (.fz (ns.map .int)), some (.lst 0), none, none, none, none, none] [.l []] ⟨none, none, none, none, none, [], rfl, rfl, by decide, fun d hd => by cases hd⟩ (by rw [List.length_map]; omega) ?_
  · obtain ⟨j, δ', μ', hj, e, a2, a3, a4, a5, a6, ds, rfl, rfl, hl, hd⟩ := lp
    refine ⟨ds.reverse, by rw [List.length_reverse]; omega, fun d hd' => hd d (List.mem_reverse.mp hd'), ?_⟩
    have fr : sFor (dSeqI (dVar 0)) (gN 2) outerS [some (.fz (ns.map .int)), some (.lst 0), none, none, none, none, none] [.l []] = .nx [some (.fz (ns.map .int)), some (.lst 0), a2, a3, a4, a5, a6] [.l (ds.map .int)] := for_run (p := (ns.map .int, none)) rfl e
    have rv : sExpr (dMeth isL gReverse (dVar 1) dNil) [some (.fz (ns.map .int)), some (.lst 0), a2, a3, a4, a5, a6] [.l (ds.map .int)] = .nx [some (.fz (ns.map .int)), some (.lst 0), a2, a3, a4, a5, a6] [.l (ds.reverse.map .int)] := by
      simp only [mkF, sSeq, sSet, sIf, sRet, sRetN, sExpr, sSkip, sBreak, dCmpT, dCmp, dVar, dC, dK, dBin, dAdd, dMul, apAdd, apMul, lstOf, dCall, dCons, dNil, dNotT, dAndT, dOrT, dAndV, dOrV, dNotV, dIf, dTru, apT, ap1, ap2, ap2c, bval, rd, g1, dMeth, rdIs, bind_ok, seq_nx, seq_rt, toS_ok, gN, List.map_cons, List.map_nil, List.replicate, List.cons_append, List.nil_append, List.getElem?_cons_zero, List.getElem?_cons_succ, List.set_cons_zero, List.set_cons_succ, List.length_cons, List.length_nil, isL, gReverse, if_true, List.map_reverse]
    have body : b__law_draws [some (.fz (ns.map .int)), none, none, none, none, none, none] [] = .rt (.lst 0) [.l (ds.reverse.map .int)] := by
      show (sSeq (sSet 1 (dLst true dNil)) (sSeq (sFor (dSeqI (dVar 0)) (gN 2) outerS) (sSeq (sExpr (dMeth isL gReverse (dVar 1) dNil)) (sRet (dVar 1))))) _ _ = _
      have t1 : sSet 1 (dLst true dNil) [some (.fz (ns.map .int)), none, none, none, none, none, none] [] = .nx [some (.fz (ns.map .int)), some (.lst 0), none, none, none, none, none] [.l []] := rfl
      unfold sSeq
      rw [t1, seq_nx, fr, seq_nx, rv, seq_nx]
      rfl
    have e3 := mkF_rt (n := 1) (m := 6) (live := true) (args := [.fz (ns.map .int)]) rfl body
    show mkF 1 6 true b__law_draws [.fz (ns.map .int)] [] = _
    rw [e3]
    rfl
  · intro x hx i δ μ hi hI
    obtain ⟨c, _, rfl⟩ := List.mem_map.mp hx
    exact outer_step hi c hI

theorem blsOf_map (p : PyData → Bool) : ∀ xs : List PyData, blsOf (xs.map fun x => .bool (p x)) = some (xs.map p)
  | [] => rfl
  | x :: xs => by rw [List.map_cons, blsOf, blsOf_map p xs]; rfl
theorem all_ok {a : DE} {δ : Sl} {μ μ' : Mu} {xs : List PyData} (p : PyData → Bool) (h : a δ μ = .ok (.t (.list (xs.map fun x => .bool (p x)))) μ') : dCall (g1 fAll) (dCons a dNil) δ μ = .ok (.t (.bool (xs.all p))) μ' := by
  refine call1_ok h ?_
  unfold g1 ap1 rd
  dsimp only
  unfold fAll
  dsimp only
  rw [blsOf_map]
  simp only [Option.map_some, List.all_map]
  rfl
theorem isi_ok {a : DE} {δ : Sl} {μ μ' : Mu} {d : PyData} {n : String} {b : Bool} (h : a δ μ = .ok (.t d) μ') (e : isB n d = some b) : dCall gIsi (dCons a (dCons (dK (.ty n)) dNil)) δ μ = .ok (.t (.bool b)) μ' := by
  refine call2_ok h rfl ?_
  unfold gIsi rd
  dsimp only
  rw [e]
theorem and_t {a b : DE} {δ : Sl} {μ μ1 : Mu} {r : R D} (h : a δ μ = .ok (.t (.bool true)) μ1) (h2 : b δ μ1 = r) : dAndV a b δ μ = r := by
  unfold dAndV
  rw [h, bind_ok]
  exact h2
theorem and_f {a b : DE} {δ : Sl} {μ μ1 : Mu} (h : a δ μ = .ok (.t (.bool false)) μ1) : dAndV a b δ μ = .ok (.t (.bool false)) μ1 := by
  unfold dAndV
  rw [h, bind_ok]
  rfl
theorem and_b {a b : DE} {δ : Sl} {μ μ1 : Mu} {x y : Bool} (h : a δ μ = .ok (.t (.bool x)) μ1) (h2 : x = true → b δ μ1 = .ok (.t (.bool y)) μ1) : dAndV a b δ μ = .ok (.t (.bool (x && y))) μ1 := by
  cases x with
  | true => exact and_t h (by rw [Bool.true_and]; exact h2 rfl)
  | false => exact and_f h
theorem eqs_ok {v : Nat} {δ : Sl} {μ : Mu} {z c : Str} (h : dVar v δ μ = .ok (.t (.str z)) μ) : dCmpT cEq (dVar v) (dC (.str c)) δ μ = .ok (z == c) μ := by
  unfold dCmpT
  rw [h, bind_ok]
  rfl
theorem eqsV_ok {v : Nat} {δ : Sl} {μ : Mu} {z c : Str} (h : dVar v δ μ = .ok (.t (.str z)) μ) : dCmp cEq (dVar v) (dC (.str c)) δ μ = .ok (.t (.bool (z == c))) μ := by
  unfold dCmp
  rw [h, bind_ok]
  rfl
theorem if_te {c : DT} {a b : DS} {δ : Sl} {μ μ' : Mu} {x : Bool} (h : c δ μ = .ok x μ') (e : x = true) : sIf c a b δ μ = a δ μ' := if_t (h.trans (by rw [e]))
theorem if_fe {c : DT} {a b : DS} {δ : Sl} {μ μ' : Mu} {x : Bool} (h : c δ μ = .ok x μ') (e : x = false) : sIf c a b δ μ = b δ μ' := if_f (h.trans (by rw [e]))
def inB (t : Str) (s : Str) : Bool := s.cps.toList.all fun c => decide (c ∈ t.cps.toList)
theorem signs_form {v w : Nat} {δ : Sl} {μ : Mu} {s t : Str} (hv : dVar v δ μ = .ok (.t (.str s)) μ) (hw : w < δ.length) (z : s.length ≤ 1000) :
    (dCall (g1 fAll) (dCons ((dLc false [w] (dSeqI (dVar v)) (gN w) (dYes) ((dCmp cIn (dVar w) (dC (.str t)))))) dNil)) δ μ = .ok (.t (.bool (inB t s))) μ := by
  have inner : dLc false [w] (dSeqI (dVar v)) (gN w) dYes (dCmp cIn (dVar w) (dC (.str t))) δ μ = .ok (.t (.list ((signsOf s).map fun x => .bool ((cIn x (.str t)).getD false)))) μ := by
    refine dLc_all (fun x => .bool ((cIn x (.str t)).getD false)) (xs := signsOf s) ?_ ?_ ?_
    · unfold dSeqI
      rw [hv, bind_ok]
      rfl
    · rw [signsOf_length]
      exact Nat.le_trans z (by rw [sizeLine_eq]; decide)
    · intro x hx μ' _
      refine ⟨δ.set w (some (.t x)), ?_, ?_⟩
      · unfold gN wipeD wipeD
        rw [List.set_set]
      · unfold signsOf at hx
        obtain ⟨c, _, rfl⟩ := List.mem_map.mp hx
        have e : dVar w (δ.set w (some (.t (.str ⟨#[c]⟩)))) μ' = .ok (.t (.str ⟨#[c]⟩)) μ' := by
          unfold dVar
          rw [List.getElem?_set_self hw]
        unfold dCmp
        rw [e, bind_ok]
        rfl
  refine (all_ok (xs := signsOf s) (fun x => (cIn x (.str t)).getD false) inner).trans ?_
  unfold signsOf inB
  rw [List.all_map]
  rfl
theorem len_ok {a : DE} {δ : Sl} {μ μ' : Mu} {s : Str} (h : a δ μ = .ok (.t (.str s)) μ') : dCall (g1 fLen) (dCons a dNil) δ μ = .ok (.t (.int (s.length : Nat))) μ' := call1_ok h rfl
theorem or_t {a b : DT} {δ : Sl} {μ μ1 : Mu} (h : a δ μ = .ok true μ1) : dOrT a b δ μ = .ok true μ1 := by
  unfold dOrT
  rw [h, bind_ok, if_pos rfl]
theorem or_f {a b : DT} {δ : Sl} {μ μ1 : Mu} {r : R Bool} (h : a δ μ = .ok false μ1) (h2 : b δ μ1 = r) : dOrT a b δ μ = r := by
  unfold dOrT
  rw [h, bind_ok, if_neg Bool.false_ne_true, h2]
theorem not_ok {a : DT} {δ : Sl} {μ μ1 : Mu} {x : Bool} (h : a δ μ = .ok x μ1) : dNotT a δ μ = .ok (!x) μ1 := by
  unfold dNotT
  rw [h, bind_ok]
theorem tru_ok {a : DE} {δ : Sl} {μ μ1 : Mu} {x : Bool} (h : a δ μ = .ok (.t (.bool x)) μ1) : dTru a δ μ = .ok x μ1 := by
  unfold dTru
  rw [h, bind_ok]
  rfl
theorem andT_f {a b : DT} {δ : Sl} {μ μ1 : Mu} (h : a δ μ = .ok false μ1) : dAndT a b δ μ = .ok false μ1 := by
  unfold dAndT
  rw [h, bind_ok, if_neg Bool.false_ne_true]
theorem andT_t {a b : DT} {δ : Sl} {μ μ1 : Mu} {r : R Bool} (h : a δ μ = .ok true μ1) (h2 : b δ μ1 = r) : dAndT a b δ μ = r := by
  unfold dAndT
  rw [h, bind_ok, if_pos rfl, h2]
theorem atI_zero {α : Type} (c : α) (r : List α) : atI (c :: r) 0 = some c := by
  unfold atI ixN
  rw [if_pos (by decide), if_pos (by rw [List.length_cons]; omega)]
  rfl
theorem glued_list : ∀ (ps : List Str) (acc : Array Nat), (ps.foldl (fun acc p => acc ++ (Str.empty).cps ++ p.cps) acc).toList = acc.toList ++ (ps.map fun p => p.cps.toList).flatten
  | [], acc => by simp
  | p :: ps, acc => by
    rw [List.foldl_cons, glued_list ps]
    simp [Str.empty]
theorem join_list (ps : List Str) : (Txt.join "" ps).cps.toList = (ps.map fun p => p.cps.toList).flatten := by
  have e : ("" : Str) = Str.empty := rfl
  rw [e]
  show ((ps.drop 1).foldl (fun acc p => acc ++ (Str.empty).cps ++ p.cps) (ps.headD Str.empty).cps).toList = _
  rw [glued_list]
  cases ps with
  | nil => rfl
  | cons p ps => simp
theorem sum_le {ps : List Str} {m : Nat} (h : ∀ p ∈ ps, p.length ≤ m) : (ps.map (·.length)).sum ≤ m * ps.length := by
  induction ps with
  | nil => simp
  | cons p ps ih =>
    have h1 := h p (by simp)
    have h2 := ih fun q hq => h q (by simp [hq])
    rw [List.map_cons, List.sum_cons, List.length_cons, Nat.mul_succ]
    omega
theorem join_len (ps : List Str) : (Txt.join "" ps).length = (ps.map (·.length)).sum := by
  have e : (Txt.join "" ps).length = (Txt.join "" ps).cps.toList.length := Array.length_toList.symm
  rw [e, join_list, List.length_flatten, List.map_map]
  congr 1
theorem strsOf_map : ∀ ps : List Str, strsOf (ps.map .str) = some ps
  | [] => rfl
  | p :: ps => by rw [List.map_cons, strsOf, strsOf_map ps]; rfl
theorem some_ok {a : DE} {δ : Sl} {μ μ' : Mu} {i : Int} (h : a δ μ = .ok (.t (.int i)) μ') : dSomeO a δ μ = .ok (some i) μ' := by
  unfold dSomeO
  rw [h, bind_ok]
theorem add_int {a b : DE} {δ : Sl} {μ μ1 μ2 : Mu} {x y : Int} (ha : a δ μ = .ok (.t (.int x)) μ1) (hb : b δ μ1 = .ok (.t (.int y)) μ2) : dAdd false a b δ μ = .ok (.t (.int (x + y))) μ2 := by
  unfold dAdd
  rw [ha, bind_ok, hb, bind_ok]
  rfl
theorem int_ok {a : DE} {δ : Sl} {μ μ' : Mu} {i : Int} (h : a δ μ = .ok (.t (.int i)) μ') : dCall (g1 fInt) (dCons a dNil) δ μ = .ok (.t (.int i)) μ' := call1_ok h rfl
theorem mod_ok {a b : DE} {δ : Sl} {μ μ1 μ2 : Mu} {x y : Int} (ha : a δ μ = .ok (.t (.int x)) μ1) (hb : b δ μ1 = .ok (.t (.int y)) μ2) (hy : y ≠ 0) : dBin fMod a b δ μ = .ok (.t (.int (x.fmod y))) μ2 := by
  unfold dBin
  rw [ha, bind_ok, hb, bind_ok]
  unfold ap2 rd
  dsimp only
  rw [fMod_ok hy]
theorem drawn {v k : Nat} {δ : Sl} {μ : Mu} {b : DE} {n : Int} (hv : ∀ μ', dVar v δ μ' = .ok (.lst k) μ') (dr : Dr k μ) (hb : ∀ μ', Mv k μ μ' → b δ μ' = .ok (.t (.int n)) μ') (hn : 0 < n) :
    ∃ i μ', 0 ≤ i ∧ i < n ∧ Mv k μ μ' ∧ dBin fMod (dCall (g1 fInt) (dCons (dCall F__law_next (dCons (dVar v) dNil)) dNil)) b δ μ = .ok (.t (.int i)) μ' := by
  obtain ⟨d, μ', _, _, e, mv⟩ := next_ok dr
  exact ⟨d.fmod n, μ', Int.fmod_nonneg_of_pos d hn, Int.fmod_lt_of_pos d hn, mv, mod_ok (int_ok (call1_ok (hv μ) e)) (hb μ' mv) (by omega)⟩
theorem eqi_ok {a : DE} {δ : Sl} {μ μ' : Mu} {i c : Int} (h : a δ μ = .ok (.t (.int i)) μ') : dCmpT cEq a (dC (.int c)) δ μ = .ok (i == c) μ' := by
  unfold dCmpT
  rw [h, bind_ok]
  rfl
theorem isB_tup {d : PyData} : isB "tuple" d = some (isT d) := rfl
def Gives (k : Nat) (μ : Mu) (P : PyData → Prop) (r : R D) : Prop := ∃ y μ', r = .ok (.t y) μ' ∧ P y ∧ Mv k μ μ'
theorem pick_gives {v k : Nat} {δ : Sl} {μ : Mu} {as : DE} {xs : List PyData} {P : PyData → Prop} (hv : dVar v δ μ = .ok (.lst k) μ) (dr : Dr k μ) (h : as δ μ = .ok (.t (.list xs)) μ) (hx : xs ≠ []) (hP : ∀ x ∈ xs, P x) : Gives k μ P (dCall F__law_pick (dCons (dVar v) (dCons as dNil)) δ μ) := by
  obtain ⟨y, μ', hy, e, mv⟩ := pick_ok dr hx
  exact ⟨y, μ', call2_ok hv h e, hP y hy, mv⟩
theorem for_eq {di : DI} {g : DG} {s : DS} {δ : Sl} {μ μ1 : Mu} {p : It'} (h1 : di δ μ = .ok p μ1) : sFor di g s δ μ = forL (chk p) g s p.1 δ μ1 := by
  unfold sFor
  rw [h1, toS_ok]
theorem repr_ok {a : DE} {δ : Sl} {μ μ' : Mu} {d : PyData} (h : a δ μ = .ok (.t d) μ') (ok : repOk d = true) : dCall (g1 fRepr) (dCons a dNil) δ μ = .ok (.t (.str d.shown)) μ' := by
  refine call1_ok h ?_
  unfold g1 ap1 rd
  dsimp only
  unfold fRepr
  rw [ok]
  rfl
theorem ne_same {a b : DE} {δ : Sl} {μ μ1 μ2 : Mu} {x : Str} (h : a δ μ = .ok (.t (.str x)) μ1) (h2 : b δ μ1 = .ok (.t (.str x)) μ2) : dCmpT cNe a b δ μ = .ok false μ2 := by
  unfold dCmpT
  rw [h, bind_ok, h2, bind_ok]
  show R.ok (!(x == x)) μ2 = _
  rw [beq_self_eq_true]
  rfl
theorem var_set {δ : Sl} {i : Nat} {x : D} (h : i < δ.length) (μ : Mu) : dVar i (δ.set i (some x)) μ = .ok x μ := by unfold dVar; rw [List.getElem?_set_self h]
theorem var_keep {δ : Sl} {i j : Nat} {x : Option D} (h : i ≠ j) (μ : Mu) : dVar i (δ.set j x) μ = dVar i δ μ := by unfold dVar; rw [List.getElem?_set_ne (Ne.symm h)]
theorem lc_set (δ : Sl) (w : Nat) (x : PyData) (μ : Mu) : gN w (.t x) (wipeD δ [w]) μ = .nx (δ.set w (some (.t x))) μ := by
  unfold gN wipeD wipeD
  rw [List.set_set]
theorem cmp_ok {f : Cm} {a b : DE} {δ : Sl} {μ μ1 μ2 : Mu} {p q : PyData} {r : Bool} (ha : a δ μ = .ok (.t p) μ1) (hb : b δ μ1 = .ok (.t q) μ2) (e : f p q = some r) : dCmpT f a b δ μ = .ok r μ2 := by
  unfold dCmpT
  rw [ha, bind_ok, hb, bind_ok]
  unfold ap2c rd
  dsimp only
  rw [e]
theorem seqI_ok {a : DE} {δ : Sl} {μ μ' : Mu} {xs : List PyData} (h : a δ μ = .ok (.t (.list xs)) μ') : dSeqI a δ μ = .ok (xs, none) μ' := by
  unfold dSeqI
  rw [h, bind_ok]
  rfl
theorem addL_ok {a b : DE} {δ : Sl} {μ μ1 μ2 : Mu} {xs ys : List PyData} (ha : a δ μ = .ok (.t (.list xs)) μ1) (hb : b δ μ1 = .ok (.t (.list ys)) μ2) (z : xs.length + ys.length ≤ 10000) : dAdd false a b δ μ = .ok (.t (.list (xs ++ ys))) μ2 := by
  unfold dAdd
  rw [ha, bind_ok, hb, bind_ok]
  unfold apAdd lstOf
  dsimp only
  rw [if_pos (Nat.le_trans z (by rw [sizeLine_eq]; decide))]
  rfl

/-! ## a plain reading of a text -/
abbrev Cs := List Nat
inductive Pr where
  | ok (d : PyData) (n : Nat)
  | bad (n : Nat)
def Pr.by (k : Nat) : Pr → Pr
  | .ok d n => .ok d (k + n)
  | .bad n => .bad (k + n)
abbrev St (a : Cs) : Str := ⟨a.toArray⟩
abbrev LOW : Str := "abcdefghijklmnopqrstuvwxyz"
abbrev FIG : Str := "0123456789"
def inZ (z : Str) (c : Nat) : Bool := decide (c ∈ z.cps.toList)
def run (p : Nat → Bool) (cs : Cs) : Nat := (cs.takeWhile p).length
abbrev dv : Cs → Nat := NumText.digitsVal
def pInt (cs : Cs) : Pr :=
  let m := if cs.head? = some 45 then 1 else 0
  let ds := cs.drop m
  let n := run (inZ FIG) ds
  if m = 1 ∧ ds.head? = some 48 then .bad 1
  else if n = 0 then .bad m
  else if ds.head? = some 48 ∧ 1 < n then .bad (m + 1)
  else if 20 < n then .bad (m + 20)
  else .ok (.int (if m = 1 then -((dv (ds.take n) : Nat) : Int) else ((dv (ds.take n) : Nat) : Int))) (m + n)
def wordOf (a : Cs) : PyData := if St a = ("none" : Str) then .none else .str (St a)
def pEnts (rd : Cs → Pr) : Nat → List PyData → Cs → Pr
  | 0, _, _ => .bad 0
  | t + 1, found, cs =>
    if cs.head? = some 41 then .ok (.tuple found) 1
    else if found ≠ [] ∧ cs.head? ≠ some 32 then .bad 0
    else
      let k := if found = [] then 0 else 1
      match rd (cs.drop k) with
      | .bad n => .bad (k + n)
      | .ok d n => (pEnts rd t (found ++ [d]) (cs.drop (k + n))).by (k + n)
def pT : Nat → Nat → Cs → Pr
  | 0, _, _ => .bad 0
  | f + 1, depth, cs =>
    if cs.head? = some 40 then (if depth = 12 then .bad 0 else (pEnts (pT f (depth + 1)) cs.length [] (cs.drop 1)).by 1)
    else if cs.head? = some 46 then .ok (.str "") 1
    else if (cs.head?.elim false (inZ LOW)) then .ok (wordOf (cs.take (run (inZ LOW) cs))) (run (inZ LOW) cs)
    else pInt cs
/-- what is read is some signs, not more than there are -/
def Eats (r : Pr) (cs : Cs) : Prop := ∀ d n, r = .ok d n → 1 ≤ n ∧ n ≤ cs.length
theorem run_le (p : Nat → Bool) (cs : Cs) : run p cs ≤ cs.length := by
  unfold run
  exact (List.takeWhile_sublist p).length_le
theorem eats_int (cs : Cs) : Eats (pInt cs) cs := by
  intro d n h
  unfold pInt at h
  dsimp only at h
  have hr := run_le (inZ FIG) (cs.drop (if cs.head? = some 45 then 1 else 0))
  rw [List.length_drop] at hr
  generalize (if cs.head? = some 45 then 1 else 0) = m at h hr
  split at h
  · cases h
  · split at h
    · cases h
    · split at h
      · cases h
      · split at h
        · cases h
        · cases h
          omega
theorem eats_ents {rd : Cs → Pr} (hr : ∀ cs, Eats (rd cs) cs) : ∀ (t : Nat) (found : List PyData) (cs : Cs), Eats (pEnts rd t found cs) cs
  | 0, found, cs, d, n, h => by simp [pEnts] at h
  | t + 1, found, cs, d, n, h => by
    rw [pEnts] at h
    split at h
    · rename_i e
      cases h
      cases cs with
      | nil => simp at e
      | cons c r => simp
    · split at h
      · cases h
      · dsimp only at h
        generalize ek : (if found = [] then 0 else 1) = k at h
        split at h
        · cases h
        · rename_i d1 n1 e1
          obtain ⟨a, b⟩ := hr _ _ _ e1
          rw [List.length_drop] at b
          cases e2 : pEnts rd t (found ++ [d1]) (cs.drop (k + n1)) with
          | bad m => rw [e2] at h; cases h
          | ok d2 n2 =>
            rw [e2] at h
            obtain ⟨a2, b2⟩ := eats_ents hr t _ _ _ _ e2
            rw [List.length_drop] at b2
            cases h
            omega
theorem eats_T : ∀ (f depth : Nat) (cs : Cs), Eats (pT f depth cs) cs
  | 0, _, _, d, n, h => by simp [pT] at h
  | f + 1, depth, cs, d, n, h => by
    rw [pT] at h
    split at h
    · rename_i e
      split at h
      · cases h
      · cases e2 : pEnts (pT f (depth + 1)) cs.length [] (cs.drop 1) with
        | bad m => rw [e2] at h; cases h
        | ok d2 n2 =>
          rw [e2] at h
          obtain ⟨a2, b2⟩ := eats_ents (eats_T f (depth + 1)) _ _ _ _ _ e2
          rw [List.length_drop] at b2
          cases h
          cases cs with
          | nil => simp at e
          | cons c r => rw [List.length_cons] at b2 ⊢; omega
    · split at h
      · rename_i e
        cases h
        cases cs with
        | nil => simp at e
        | cons c r => simp
      · split at h
        · rename_i e
          cases h
          refine ⟨?_, run_le _ _⟩
          cases cs with
          | nil => simp at e
          | cons c r =>
            have e : inZ LOW c = true := e
            unfold run
            rw [List.takeWhile_cons_of_pos e]
            simp
        · exact eats_int cs d n h
/-- the number of turns does not matter -/
theorem ents_turns {rd : Cs → Pr} (hr : ∀ cs, Eats (rd cs) cs) : ∀ (t t' : Nat) (found : List PyData) (cs : Cs), cs.length < t → cs.length < t' → pEnts rd t found cs = pEnts rd t' found cs
  | 0, _, _, _, h, _ => by omega
  | _, 0, _, _, _, h => by omega
  | t + 1, t' + 1, found, cs, h, h' => by
    rw [pEnts, pEnts]
    split
    · rfl
    · split
      · rfl
      · dsimp only
        generalize ek : (if found = [] then 0 else 1) = k
        split
        · rfl
        · rename_i d n e
          obtain ⟨a, b⟩ := hr _ _ _ e
          rw [List.length_drop] at b
          rw [ents_turns hr t t' (found ++ [d]) (cs.drop (k + n)) (by rw [List.length_drop]; omega) (by rw [List.length_drop]; omega)]

/-! ## small steps over texts -/
theorem var_of {δ : Sl} {i : Nat} {x : D} (h : δ[i]? = some (some x)) (μ : Mu) : dVar i δ μ = .ok x μ := by unfold dVar; rw [h]
theorem const_ok {p : PyData} {δ : Sl} {μ : Mu} : dC p δ μ = .ok (.t p) μ := rfl
theorem cut_nat (s : Str) (i j : Nat) : cutS s (some (i : Int)) (some (j : Int)) = St ((s.cps.toList.drop i).take (j - i)) := by
  unfold cutS
  rw [HT.sIx_nat, HT.sIx_nat]
  have hl : s.length = s.cps.toList.length := by simp [Str.length]
  rw [hl]
  generalize s.cps.toList = l
  have e : (l.drop (min i l.length)).take (min j l.length - min i l.length) = (l.drop i).take (j - i) := by
    by_cases hi : i ≤ l.length
    · rw [Nat.min_eq_left hi]
      by_cases hj : j ≤ l.length
      · rw [Nat.min_eq_left hj]
      · rw [Nat.min_eq_right (by omega), List.take_of_length_le (by rw [List.length_drop]; omega), List.take_of_length_le (by rw [List.length_drop]; omega)]
    · rw [Nat.min_eq_right (a := i) (by omega), List.drop_of_length_le (Nat.le_refl _), List.drop_of_length_le (by omega)]
      simp
  rw [e]
theorem sl_str {x a b : DE} {δ : Sl} {μ : Mu} {s : Str} {i j : Nat} (hx : x δ μ = .ok (.t (.str s)) μ) (ha : a δ μ = .ok (.t (.int (i : Nat))) μ) (hb : b δ μ = .ok (.t (.int (j : Nat))) μ) :
    dSl false x (dSomeO a) (dSomeO b) δ μ = .ok (.t (.str (St ((s.cps.toList.drop i).take (j - i))))) μ := by
  unfold dSl
  rw [hx, bind_ok, some_ok ha, bind_ok, some_ok hb, bind_ok]
  show R.ok _ _ = _
  rw [cut_nat]
theorem add_nat {a b : DE} {δ : Sl} {μ μ1 μ2 : Mu} {x y : Nat} (ha : a δ μ = .ok (.t (.int (x : Nat))) μ1) (hb : b δ μ1 = .ok (.t (.int (y : Nat))) μ2) : dAdd false a b δ μ = .ok (.t (.int ((x + y : Nat) : Int))) μ2 := by
  rw [add_int ha hb]
  simp
theorem one_ok {δ : Sl} {μ : Mu} : dC (.int 1) δ μ = .ok (.t (.int ((1 : Nat) : Int))) μ := rfl
/-- text[at:at + 1] -/
theorem sign_at {x a : DE} {δ : Sl} {μ : Mu} {s : Str} {i : Nat} (hx : x δ μ = .ok (.t (.str s)) μ) (ha : a δ μ = .ok (.t (.int (i : Nat))) μ) :
    dSl false x (dSomeO a) (dSomeO (dAdd false a (dC (.int 1)))) δ μ = .ok (.t (.str (St ((s.cps.toList.drop i).take 1)))) μ := by
  rw [sl_str hx ha (add_nat ha one_ok)]
  simp
theorem St_inj {a b : Cs} (h : St a = St b) : a = b := by
  have := congrArg (fun z : Str => z.cps.toList) h
  simpa using this
theorem sign_is (cs : Cs) (c : Nat) : (St (cs.take 1) == (⟨#[c]⟩ : Str)) = decide (cs.head? = some c) := by
  cases cs with
  | nil =>
    rw [decide_eq_false (by simp)]
    refine beq_eq_false_iff_ne.mpr fun h => ?_
    have := St_inj (a := []) (b := [c]) h
    simp at this
  | cons d r =>
    by_cases h : d = c
    · subst h
      rw [decide_eq_true (by simp)]
      exact beq_iff_eq.mpr rfl
    · rw [decide_eq_false (by simpa using h)]
      refine beq_eq_false_iff_ne.mpr fun h2 => ?_
      have := St_inj (a := [d]) (b := [c]) h2
      simp at this
      exact h this
theorem sign_none (cs : Cs) : (St (cs.take 1) == ("" : Str)) = decide (cs = []) := by
  cases cs with
  | nil => rfl
  | cons d r =>
    rw [decide_eq_false (by simp)]
    refine beq_eq_false_iff_ne.mpr fun h2 => ?_
    have := St_inj (a := [d]) (b := []) h2
    simp at this
theorem sign_eq {a : DE} {δ : Sl} {μ μ' : Mu} {cs : Cs} {z : Str} (c : Nat) (hz : z = ⟨#[c]⟩) (h : a δ μ = .ok (.t (.str (St (cs.take 1)))) μ') : dCmpT cEq a (dC (.str z)) δ μ = .ok (decide (cs.head? = some c)) μ' := by
  subst hz
  exact cmp_ok h const_ok (by show some _ = some _; rw [sign_is])
theorem sign_ne {a : DE} {δ : Sl} {μ μ' : Mu} {cs : Cs} {z : Str} (c : Nat) (hz : z = ⟨#[c]⟩) (h : a δ μ = .ok (.t (.str (St (cs.take 1)))) μ') : dCmpT cNe a (dC (.str z)) δ μ = .ok (!decide (cs.head? = some c)) μ' := by
  subst hz
  exact cmp_ok h const_ok (by show some (!_) = some _; rw [sign_is])
theorem atI_nat {α : Type} (xs : List α) {i : Nat} (h : i < xs.length) : atI xs (i : Int) = xs[i]? := by
  unfold atI ixN
  rw [if_pos (by omega), if_pos (by omega)]
  simp
theorem len_nat {a : DE} {δ : Sl} {μ μ' : Mu} {s : Str} (h : a δ μ = .ok (.t (.str s)) μ') : dCall (g1 fLen) (dCons a dNil) δ μ = .ok (.t (.int ((s.cps.toList.length : Nat) : Int))) μ' := by
  rw [len_ok h]
  simp [Str.length]
theorem lt_nat {a b : DE} {δ : Sl} {μ μ1 μ2 : Mu} {x y : Nat} (ha : a δ μ = .ok (.t (.int (x : Nat))) μ1) (hb : b δ μ1 = .ok (.t (.int (y : Nat))) μ2) : dCmpT cLt a b δ μ = .ok (decide (x < y)) μ2 :=
  cmp_ok ha hb (by show some (decide ((x : Int) < y)) = _; simp)
theorem gt_nat {a b : DE} {δ : Sl} {μ μ1 μ2 : Mu} {x y : Nat} (ha : a δ μ = .ok (.t (.int (x : Nat))) μ1) (hb : b δ μ1 = .ok (.t (.int (y : Nat))) μ2) : dCmpT cGt a b δ μ = .ok (decide (y < x)) μ2 :=
  cmp_ok ha hb (by show some (decide ((y : Int) < x)) = _; simp)
theorem eq_nat {a b : DE} {δ : Sl} {μ μ1 μ2 : Mu} {x y : Nat} (ha : a δ μ = .ok (.t (.int (x : Nat))) μ1) (hb : b δ μ1 = .ok (.t (.int (y : Nat))) μ2) : dCmpT cEq a b δ μ = .ok (decide (x = y)) μ2 :=
  cmp_ok ha hb (by
    show some ((x : Int) == y) = _
    by_cases h : x = y
    · subst h; simp
    · rw [decide_eq_false h, beq_eq_false_iff_ne.mpr (by omega)])
theorem ix_str {x a : DE} {δ : Sl} {μ : Mu} {s : Str} {i c : Nat} (hx : x δ μ = .ok (.t (.str s)) μ) (ha : a δ μ = .ok (.t (.int (i : Nat))) μ) (e : s.cps.toList[i]? = some c) : dIx x a δ μ = .ok (.t (.str ⟨#[c]⟩)) μ := by
  have hl : i < s.cps.toList.length := (List.getElem?_eq_some_iff.mp e).1
  unfold dIx
  rw [hx, bind_ok, ha, bind_ok]
  unfold apIx ap2 rd
  dsimp only
  unfold ixP
  dsimp only
  rw [atI_nat _ hl, e]
  rfl
theorem in_sign {a : DE} {δ : Sl} {μ μ' : Mu} {c : Nat} {z : Str} (h : a δ μ = .ok (.t (.str ⟨#[c]⟩)) μ') : dCmpT cIn a (dC (.str z)) δ μ = .ok (inZ z c) μ' := cmp_ok h const_ok rfl
/-- for k in range(n): if at < len(text) and text[at] in z: at = at + 1 -/
abbrev scanS (v : Nat) (z : Str) : DS := sIf (dAndT (dCmpT cLt (dVar v) (dCall (g1 fLen) (dCons (dVar 0) dNil))) (dCmpT cIn (dIx (dVar 0) (dVar v)) (dC (.str z)))) (sSet v (dAdd false (dVar v) (dC (.int 1)))) sSkip
theorem run_cons {p : Nat → Bool} {c : Nat} {r : Cs} : run p (c :: r) = if p c then run p r + 1 else 0 := by
  unfold run
  rw [List.takeWhile_cons]
  split <;> simp
theorem scan_ok {v w : Nat} {z : Str} {s : Str} {μ : Mu} {o : It'} (ho : chk o μ = true) (hv0 : v ≠ 0) (hw0 : w ≠ 0) (hvw : v ≠ w) : ∀ (xs : List PyData) (δ : Sl) (a : Nat), v < δ.length → δ[0]? = some (some (.t (.str s))) → δ[v]? = some (some (.t (.int (a : Nat)))) →
    ∃ δ', forL (chk o) (gN w) (scanS v z) xs δ μ = .nx δ' μ ∧ δ'[v]? = some (some (.t (.int ((a + min xs.length (run (inZ z) (s.cps.toList.drop a)) : Nat) : Int)))) ∧ δ'.length = δ.length ∧ ∀ i, i ≠ v → i ≠ w → δ'[i]? = δ[i]?
  | [], δ, a, _, _, hv => ⟨δ, by rw [forL, ho]; rfl, by simpa using hv, rfl, fun _ _ _ => rfl⟩
  | x :: xs, δ, a, hl, h0, hv => by
    have e0 : ∀ μ, dVar 0 (δ.set w (some (.t x))) μ = .ok (.t (.str s)) μ := fun μ => by rw [var_keep hw0.symm]; exact var_of h0 μ
    have ev : ∀ μ, dVar v (δ.set w (some (.t x))) μ = .ok (.t (.int (a : Nat))) μ := fun μ => by rw [var_keep hvw]; exact var_of hv μ
    have el := lt_nat (ev μ) (len_nat (e0 μ))
    rw [forL, ho, if_pos rfl]
    show ∃ δ', (match scanS v z (δ.set w (some (.t x))) μ with | .nx δ2 μ2 => forL (chk o) (gN w) (scanS v z) xs δ2 μ2 | .ct δ2 μ2 => forL (chk o) (gN w) (scanS v z) xs δ2 μ2 | .bk δ2 μ2 => .nx δ2 μ2 | r => r) = _ ∧ _
    have stop : run (inZ z) (s.cps.toList.drop a) = 0 → scanS v z (δ.set w (some (.t x))) μ = .nx (δ.set w (some (.t x))) μ → ∃ δ', (match scanS v z (δ.set w (some (.t x))) μ with | .nx δ2 μ2 => forL (chk o) (gN w) (scanS v z) xs δ2 μ2 | .ct δ2 μ2 => forL (chk o) (gN w) (scanS v z) xs δ2 μ2 | .bk δ2 μ2 => .nx δ2 μ2 | r => r) = .nx δ' μ ∧ δ'[v]? = some (some (.t (.int ((a + min (x :: xs).length (run (inZ z) (s.cps.toList.drop a)) : Nat) : Int)))) ∧ δ'.length = δ.length ∧ ∀ i, i ≠ v → i ≠ w → δ'[i]? = δ[i]? := by
      intro hr hs
      rw [hs]
      obtain ⟨δ', e, a1, a2, a3⟩ := scan_ok ho hv0 hw0 hvw xs (δ.set w (some (.t x))) a (by rw [List.length_set]; exact hl) (by rw [List.getElem?_set_ne hw0]; exact h0) (by rw [List.getElem?_set_ne hvw.symm]; exact hv)
      rw [hr, Nat.min_zero] at a1
      rw [hr, Nat.min_zero]
      exact ⟨δ', e, a1, by rw [a2, List.length_set], fun i h1 h2 => by rw [a3 i h1 h2, List.getElem?_set_ne (Ne.symm h2)]⟩
    by_cases ha : a < s.cps.toList.length
    · have ec : s.cps.toList[a]? = some s.cps.toList[a] := List.getElem?_eq_getElem ha
      have ed : s.cps.toList.drop a = s.cps.toList[a] :: s.cps.toList.drop (a + 1) := List.drop_eq_getElem_cons ha
      have ei := andT_t (el.trans (by rw [decide_eq_true ha])) (in_sign (z := z) (ix_str (e0 μ) (ev μ) ec))
      cases hz : inZ z s.cps.toList[a] with
      | false => exact stop (by rw [ed, run_cons, hz]; rfl) ((if_fe ei hz).trans rfl)
      | true =>
        have hs : scanS v z (δ.set w (some (.t x))) μ = .nx ((δ.set w (some (.t x))).set v (some (.t (.int ((a + 1 : Nat) : Int))))) μ := (if_te ei hz).trans (set_ok' (add_nat (ev μ) one_ok))
        rw [hs]
        obtain ⟨δ', e, a1, a2, a3⟩ := scan_ok ho hv0 hw0 hvw xs ((δ.set w (some (.t x))).set v (some (.t (.int ((a + 1 : Nat) : Int))))) (a + 1) (by simpa using hl) (by rw [List.getElem?_set_ne hv0, List.getElem?_set_ne hw0]; exact h0) (by rw [List.getElem?_set_self (by simpa using hl)])
        refine ⟨δ', e, ?_, by rw [a2]; simp, fun i h1 h2 => by rw [a3 i h1 h2, List.getElem?_set_ne (Ne.symm h1), List.getElem?_set_ne (Ne.symm h2)]⟩
        rw [a1, ed, run_cons, hz, if_pos rfl, List.length_cons, Nat.add_min_add_right]
        congr 5
        omega
    · have hr : run (inZ z) (s.cps.toList.drop a) = 0 := by rw [List.drop_of_length_le (by omega)]; rfl
      exact stop hr ((if_fe (andT_f (el.trans (by rw [decide_eq_false ha]))) rfl).trans rfl)
/-- .. over the length of the text -/
theorem scan_all {v w : Nat} {z : Str} {s : Str} {μ : Mu} {δ : Sl} {a : Nat} (hv0 : v ≠ 0) (hw0 : w ≠ 0) (hvw : v ≠ w) (hl : v < δ.length) (h0 : δ[0]? = some (some (.t (.str s)))) (hv : δ[v]? = some (some (.t (.int (a : Nat))))) (hs : s.cps.toList.length ≤ 10000) :
    ∃ δ', sFor (dRange1 (dCall (g1 fLen) (dCons (dVar 0) dNil))) (gN w) (scanS v z) δ μ = .nx δ' μ ∧ δ'[v]? = some (some (.t (.int ((a + run (inZ z) (s.cps.toList.drop a) : Nat) : Int)))) ∧ δ'.length = δ.length ∧ ∀ i, i ≠ v → i ≠ w → δ'[i]? = δ[i]? := by
  have hi : ∀ (n : Nat) (lo : Int), (TV.intsFrom lo n).length = n := fun n => by
    induction n with
    | zero => intro lo; rfl
    | succ n ih => intro lo; rw [TV.intsFrom, List.length_cons, ih]
  obtain ⟨δ', e, a1, a2, a3⟩ := scan_ok (z := z) (o := (TV.intsFrom 0 s.cps.toList.length, none)) (μ := μ) rfl hv0 hw0 hvw (TV.intsFrom 0 s.cps.toList.length) δ a hl h0 hv
  refine ⟨δ', ?_, ?_, a2, a3⟩
  · rw [for_eq (dRange1_ok (by omega) (len_nat (var_of h0 μ)))]
    exact e
  · rw [a1, hi, Nat.min_eq_right (Nat.le_trans (run_le _ _) (by rw [List.length_drop]; omega))]

/-! ## the law's own reading: whole numbers -/
def lawR (a : Nat) : Pr → PyData
  | .ok d n => .list [d, .int ((a + n : Nat) : Int)]
  | .bad n => .list [.str "bad", .int ((a + n : Nat) : Int)]
theorem lawR_by {a k : Nat} {r : Pr} : lawR a (r.by k) = lawR (a + k) r := by
  cases r <;> simp [lawR, Pr.by, Nat.add_assoc]
theorem take_run {p : Nat → Bool} : ∀ cs : Cs, cs.take (run p cs) = cs.takeWhile p
  | [] => rfl
  | c :: r => by
    rw [run_cons, List.takeWhile_cons]
    split
    · rw [List.take_succ_cons, take_run r]
    · rfl
theorem run_all {p : Nat → Bool} {cs : Cs} : ∀ c ∈ cs.take (run p cs), p c = true := by
  intro c h
  rw [take_run] at h
  induction cs with
  | nil => simp at h
  | cons d r ih =>
    rw [List.takeWhile_cons] at h
    split at h
    · rcases List.mem_cons.mp h with rfl | h
      · assumption
      · exact ih h
    · simp at h
theorem fig_of {c : Nat} (h : inZ FIG c = true) : 48 ≤ c ∧ c ≤ 57 := by
  unfold inZ at h
  rw [decide_eq_true_eq] at h
  have e : FIG.cps.toList = [48, 49, 50, 51, 52, 53, 54, 55, 56, 57] := by decide +kernel
  rw [e] at h
  simp only [List.mem_cons, List.not_mem_nil, or_false] at h
  omega
theorem fig_to {c : Nat} (h : 48 ≤ c ∧ c ≤ 57) : inZ FIG c = true := by
  unfold inZ
  rw [decide_eq_true_eq]
  have e : FIG.cps.toList = [48, 49, 50, 51, 52, 53, 54, 55, 56, 57] := by decide +kernel
  rw [e]
  simp only [List.mem_cons, List.not_mem_nil, or_false]
  omega
theorem St_len (a : Cs) : (St a).length = a.length := by simp [Str.length]
theorem St_list (a : Cs) : (St a).cps.toList = a := rfl
theorem int_pos {l : Cs} (h : ∀ c ∈ l, inZ FIG c = true) (h1 : l ≠ []) (h2 : l.length ≤ 640) : fInt (.str (St l)) = some (.int ((dv l : Nat) : Int)) := by
  unfold fInt
  dsimp only
  rw [if_pos (by rw [St_len]; exact h2), intText_digits (x := St l) (fun c hc => fig_of (h c hc)) h1 (by rw [St_len]; omega)]
  rfl
theorem int_neg {l : Cs} (h : ∀ c ∈ l, inZ FIG c = true) (h1 : l ≠ []) (h2 : l.length ≤ 600) : fInt (.str (St (45 :: l))) = some (.int (-((dv l : Nat) : Int))) := by
  unfold fInt
  dsimp only
  rw [if_pos (by rw [St_len, List.length_cons]; omega), intText_neg (x := St (45 :: l)) rfl (fun c hc => fig_of (h c hc)) h1 (by rw [St_len, List.length_cons]; omega)]
  rfl
theorem pInt_eq {cs : Cs} {m : Nat} (hm : (if cs.head? = some 45 then 1 else 0) = m) : pInt cs =
    if m = 1 ∧ (cs.drop m).head? = some 48 then .bad 1
    else if run (inZ FIG) (cs.drop m) = 0 then .bad m
    else if (cs.drop m).head? = some 48 ∧ 1 < run (inZ FIG) (cs.drop m) then .bad (m + 1)
    else if 20 < run (inZ FIG) (cs.drop m) then .bad (m + 20)
    else .ok (.int (if m = 1 then -((dv ((cs.drop m).take (run (inZ FIG) (cs.drop m))) : Nat) : Int) else ((dv ((cs.drop m).take (run (inZ FIG) (cs.drop m))) : Nat) : Int))) (m + run (inZ FIG) (cs.drop m)) := by
  unfold pInt
  dsimp only
  rw [hm]
theorem ix_sign {x a : DE} {δ : Sl} {μ : Mu} {s : Str} {i : Nat} (hx : x δ μ = .ok (.t (.str s)) μ) (ha : a δ μ = .ok (.t (.int (i : Nat))) μ) (hi : i < s.cps.toList.length) : dIx x a δ μ = .ok (.t (.str (St ((s.cps.toList.drop i).take 1)))) μ := by
  rw [ix_str hx ha (List.getElem?_eq_getElem hi), List.drop_eq_getElem_cons hi]
  rfl
theorem bad_ret {a : DE} {δ : Sl} {μ : Mu} {n : Int} (h : a δ μ = .ok (.t (.int n)) μ) : sRet (dLst false (dCons (dC (.str "bad")) (dCons a dNil))) δ μ = .rt (.t (.list [.str "bad", .int n])) μ :=
  ret_ok (dLst_ok (cons_ok const_ok (cons_ok h rfl)) rfl (by simp))
theorem lowZ : (48 : Nat) = 48 := rfl
abbrev lintA : DS := (sIf ((dCmpT cEq ((dSl false (dVar 0) (dSomeO (dVar 1)) (dSomeO ((dAdd false (dVar 1) (dC (.int 1))))))) (dC (.str "-")))) (sSeq (sSet 1 ((dAdd false (dVar 1) (dC (.int 1)))))
  (sIf ((dCmpT cEq ((dSl false (dVar 0) (dSomeO (dVar 1)) (dSomeO ((dAdd false (dVar 1) (dC (.int 1))))))) (dC (.str "0")))) (sRet ((dLst false ((dCons (dC (.str "bad")) (dCons (dVar 1) dNil)))))) sSkip)) sSkip)
abbrev lintB : DS := (sSeq (sSet 3 (dVar 1))
  (sSeq (sFor (dRange1 ((dCall (g1 fLen) (dCons (dVar 0) dNil)))) (gN 4) (sIf ((dAndT ((dCmpT cLt (dVar 1) ((dCall (g1 fLen) (dCons (dVar 0) dNil))))) ((dCmpT cIn ((dIx (dVar 0) (dVar 1))) (dC (.str "0123456789")))))) (sSet 1 ((dAdd false (dVar 1) (dC (.int 1))))) sSkip))
  (sSeq (sIf ((dCmpT cEq (dVar 1) (dVar 3))) (sRet ((dLst false ((dCons (dC (.str "bad")) (dCons (dVar 1) dNil)))))) sSkip)
  (sSeq (sIf ((dAndT ((dCmpT cEq ((dIx (dVar 0) (dVar 3))) (dC (.str "0")))) ((dCmpT cGt (dVar 1) ((dAdd false (dVar 3) (dC (.int 1)))))))) (sRet ((dLst false ((dCons (dC (.str "bad")) (dCons ((dAdd false (dVar 3) (dC (.int 1)))) dNil)))))) sSkip)
  (sSeq (sIf ((dCmpT cGt ((dBin fSub (dVar 1) (dVar 3))) (dC (.int 20)))) (sRet ((dLst false ((dCons (dC (.str "bad")) (dCons ((dAdd false (dVar 3) (dC (.int 20)))) dNil)))))) sSkip)
  (sRet ((dLst false ((dCons ((dCall (g1 fInt) (dCons ((dSl false (dVar 0) (dSomeO (dVar 2)) (dSomeO (dVar 1)))) dNil))) (dCons (dVar 1) dNil)))))))))))
theorem sub_ok {a b : DE} {δ : Sl} {μ μ1 μ2 : Mu} {x y : Int} (ha : a δ μ = .ok (.t (.int x)) μ1) (hb : b δ μ1 = .ok (.t (.int y)) μ2) : dBin fSub a b δ μ = .ok (.t (.int (x - y))) μ2 := by
  unfold dBin
  rw [ha, bind_ok, hb, bind_ok]
  rfl
theorem seq_skip {c : DT} {a : DS} {b : DS} {δ : Sl} {μ : Mu} (h : c δ μ = .ok false μ) : sSeq (sIf c a sSkip) b δ μ = b δ μ := seq_ok ((if_f h).trans rfl)
theorem seq_hit {c : DT} {a : DS} {b : DS} {δ : Sl} {μ : Mu} {x : D} {μ' : Mu} (h : c δ μ = .ok true μ) (e : a δ μ = .rt x μ') : sSeq (sIf c a sSkip) b δ μ = .rt x μ' := seq_out ((if_t h).trans e)
theorem lint_rest {s : Str} {a m : Nat} (hs : s.cps.toList.length ≤ 10000) (hm : (if (s.cps.toList.drop a).head? = some 45 then 1 else 0) = m) (hz : ¬ (m = 1 ∧ ((s.cps.toList.drop a).drop m).head? = some 48)) {x3 x4 : Option D} (μ : Mu) :
    lintB [some (.t (.str s)), some (.t (.int ((a + m : Nat) : Int))), some (.t (.int (a : Nat))), x3, x4] μ = .rt (.t (lawR a (pInt (s.cps.toList.drop a)))) μ := by
  rw [pInt_eq hm, if_neg hz]
  have em : (s.cps.toList.drop a).drop m = s.cps.toList.drop (a + m) := by rw [List.drop_drop]
  rw [em]
  have hrl := run_le (inZ FIG) (s.cps.toList.drop (a + m))
  rw [List.length_drop] at hrl
  refine (seq_ok (set_ok' (var_of rfl μ))).trans ?_
  obtain ⟨δ', ef, e1, el, eo⟩ := scan_all (v := 1) (w := 4) (z := FIG) (s := s) (μ := μ) (δ := [some (.t (.str s)), some (.t (.int ((a + m : Nat) : Int))), some (.t (.int (a : Nat))), some (.t (.int ((a + m : Nat) : Int))), x4]) (a := a + m) (by decide) (by decide) (by decide) (by simp) rfl rfl hs
  refine (seq_ok ef).trans ?_
  have e0 := (eo 0 (by decide) (by decide)).trans rfl
  have e2 := (eo 2 (by decide) (by decide)).trans rfl
  have e3 := (eo 3 (by decide) (by decide)).trans rfl
  generalize hr : run (inZ FIG) (s.cps.toList.drop (a + m)) = n at e1 hrl ⊢
  have t1 := eq_nat (var_of e1 μ) (var_of e3 μ)
  by_cases hn : n = 0
  · rw [if_pos hn]
    refine (seq_hit (t1.trans (by rw [decide_eq_true (by omega)])) (bad_ret (var_of e1 μ))).trans ?_
    rw [hn]
    rfl
  · rw [if_neg hn]
    refine (seq_skip (t1.trans (by rw [decide_eq_false (by omega)]))).trans ?_
    have t2 := sign_eq 48 (z := "0") (by rfl) (ix_sign (var_of e0 μ) (var_of e3 μ) (by omega))
    have t3 := gt_nat (var_of e1 μ) (add_nat (var_of e3 μ) one_ok)
    by_cases h0 : (s.cps.toList.drop (a + m)).head? = some 48 ∧ 1 < n
    · rw [if_pos h0]
      refine (seq_hit (andT_t (t2.trans (by rw [decide_eq_true h0.1])) (t3.trans (by rw [decide_eq_true (by omega)]))) (bad_ret (add_nat (var_of e3 μ) one_ok))).trans ?_
      rw [lawR, Nat.add_assoc]
    · rw [if_neg h0]
      have tt : dAndT (dCmpT cEq (dIx (dVar 0) (dVar 3)) (dC (.str "0"))) (dCmpT cGt (dVar 1) (dAdd false (dVar 3) (dC (.int 1)))) δ' μ = .ok false μ := by
        by_cases h4 : (s.cps.toList.drop (a + m)).head? = some 48
        · have h5 : ¬ 1 < n := fun q => h0 ⟨h4, q⟩
          exact andT_t (t2.trans (by rw [decide_eq_true h4])) (t3.trans (by rw [decide_eq_false (by omega)]))
        · exact andT_f (t2.trans (by rw [decide_eq_false h4]))
      refine (seq_skip tt).trans ?_
      have t5 : dCmpT cGt (dBin fSub (dVar 1) (dVar 3)) (dC (.int 20)) δ' μ = .ok (decide (20 < n)) μ := cmp_ok (sub_ok (var_of e1 μ) (var_of e3 μ)) const_ok (by
        show some (decide ((20 : Int) < _)) = _
        exact congrArg some (decide_eq_decide.mpr (by omega)))
      by_cases h20 : 20 < n
      · rw [if_pos h20]
        refine (seq_hit (t5.trans (by rw [decide_eq_true h20])) (bad_ret (add_nat (y := 20) (var_of e3 μ) rfl))).trans ?_
        rw [lawR, Nat.add_assoc]
      · rw [if_neg h20]
        refine (seq_skip (t5.trans (by rw [decide_eq_false h20]))).trans ?_
        have tsl := sl_str (var_of e0 μ) (var_of e2 μ) (var_of e1 μ)
        have ed : a + m + n - a = m + n := by omega
        rw [ed] at tsl
        have hd : ∀ c ∈ (s.cps.toList.drop (a + m)).take n, inZ FIG c = true := by
          rw [← hr]; exact run_all
        have hl : ((s.cps.toList.drop (a + m)).take n).length = n := by rw [List.length_take, List.length_drop]; omega
        have hne : (s.cps.toList.drop (a + m)).take n ≠ [] := fun z => by rw [z] at hl; simp at hl; omega
        have ti : fInt (.str (St ((s.cps.toList.drop a).take (m + n)))) = some (.int (if m = 1 then -((dv ((s.cps.toList.drop (a + m)).take n) : Nat) : Int) else ((dv ((s.cps.toList.drop (a + m)).take n) : Nat) : Int))) := by
          split at hm
          · rename_i h45
            subst hm
            rw [if_pos rfl]
            have e5 : (s.cps.toList.drop a).take (1 + n) = 45 :: (s.cps.toList.drop (a + 1)).take n := by
              rw [← em]
              cases hc : s.cps.toList.drop a with
              | nil => rw [hc] at h45; cases h45
              | cons c r =>
                rw [hc] at h45
                cases h45
                rw [Nat.add_comm, List.take_succ_cons]
                rfl
            rw [e5]
            exact int_neg hd hne (by omega)
          · subst hm
            rw [if_neg (by decide), Nat.zero_add]
            exact int_pos (l := (s.cps.toList.drop (a + 0)).take n) hd hne (by omega)
        refine (ret_ok (dLst_ok (cons_ok (call1_ok tsl (show g1 fInt [_] μ = .ok (.t _) μ from by
          unfold g1 ap1 rd
          dsimp only
          rw [ti])) (cons_ok (var_of e1 μ) rfl)) rfl (by simp))).trans ?_
        rw [lawR, Nat.add_assoc]
theorem lint_ok (s : Str) (a : Nat) (hs : s.cps.toList.length ≤ 10000) (μ : Mu) : F__law_integer [.t (.str s), .t (.int (a : Nat))] μ = .ok (.t (lawR a (pInt (s.cps.toList.drop a)))) μ := by
  refine mkF_t rfl ?_ rfl
  refine (seq_ok (set_ok' (var_of rfl μ))).trans ?_
  show sSeq lintA lintB [some (.t (.str s)), some (.t (.int (a : Nat))), some (.t (.int (a : Nat))), none, none] μ = _
  have t1 := sign_eq 45 (z := "-") (by rfl) (sign_at (x := dVar 0) (a := dVar 1) (δ := [some (.t (.str s)), some (.t (.int (a : Nat))), some (.t (.int (a : Nat))), none, none]) (s := s) (i := a) (μ := μ) rfl rfl)
  by_cases h45 : (s.cps.toList.drop a).head? = some 45
  · have hm : (if (s.cps.toList.drop a).head? = some 45 then 1 else 0) = 1 := if_pos h45
    have t2 := sign_eq 48 (z := "0") (by rfl) (sign_at (x := dVar 0) (a := dVar 1) (δ := [some (.t (.str s)), some (.t (.int ((a + 1 : Nat) : Int))), some (.t (.int (a : Nat))), none, none]) (s := s) (i := a + 1) (μ := μ) rfl rfl)
    have e0 : lintA [some (.t (.str s)), some (.t (.int (a : Nat))), some (.t (.int (a : Nat))), none, none] μ = _ := (if_te t1 (decide_eq_true h45)).trans (seq_ok (set_ok' (add_nat (var_of rfl μ) one_ok)))
    by_cases h0 : (s.cps.toList.drop (a + 1)).head? = some 48
    · refine (seq_out (e0.trans ((if_te t2 (decide_eq_true h0)).trans (bad_ret (var_of rfl μ))))).trans ?_
      rw [pInt_eq hm, if_pos ⟨rfl, by rw [List.drop_drop]; exact h0⟩]
      rfl
    · refine (seq_ok (e0.trans ((if_fe t2 (decide_eq_false h0)).trans rfl))).trans ?_
      exact lint_rest hs hm (fun z => h0 (by have := z.2; rw [List.drop_drop] at this; exact this)) μ
  · have hm : (if (s.cps.toList.drop a).head? = some 45 then 1 else 0) = 0 := if_neg h45
    refine (seq_ok ((if_fe t1 (decide_eq_false h45)).trans rfl)).trans ?_
    exact lint_rest (m := 0) hs hm (by simp) μ

/-! ## what is read is plain data -/
structure Tm (n b : Nat) (d : PyData) : Prop where
  s : shp n d = true
  w : d.showable = true
  l : d.leavesShort 2000 = true
  k : d.bulk ≤ b
structure TmL (n b : Nat) (ds : List PyData) : Prop where
  s : shpL n ds = true
  w : PyData.showableAll ds = true
  l : PyData.leavesShortAll 2000 ds = true
  k : PyData.bulkAll ds ≤ b
theorem TmL.nil {n b : Nat} : TmL n b [] := ⟨rfl, rfl, rfl, Nat.zero_le _⟩
theorem TmL.cons {n b c : Nat} {d : PyData} {ds : List PyData} (h : Tm n b d) (k : TmL n c ds) : TmL n (b + 1 + c) (d :: ds) :=
  ⟨by rw [shpL, h.s, k.s]; rfl, by rw [PyData.showableAll, h.w, k.w]; rfl, by rw [PyData.leavesShortAll, h.l, k.l]; rfl, by rw [PyData.bulkAll]; have := h.k; have := k.k; omega⟩
theorem TmL.le {n b c : Nat} {ds : List PyData} (h : TmL n b ds) (q : b ≤ c) : TmL n c ds := ⟨h.s, h.w, h.l, Nat.le_trans h.k q⟩
theorem Tm.le {n b c : Nat} {d : PyData} (h : Tm n b d) (q : b ≤ c) : Tm n c d := ⟨h.s, h.w, h.l, Nat.le_trans h.k q⟩
theorem TmL.snoc {n c : Nat} {d : PyData} (k : Tm n c d) : ∀ {b : Nat} {ds : List PyData}, TmL n b ds → TmL n (b + (c + 1)) (ds ++ [d])
  | b, [], h => (TmL.cons k TmL.nil : TmL n (c + 1 + 0) [d]).le (by omega)
  | b, e :: ds, h => by
    have a1 := h.s
    have a2 := h.w
    have a3 := h.l
    have a4 := h.k
    rw [shpL, Bool.and_eq_true] at a1
    rw [PyData.showableAll, Bool.and_eq_true] at a2
    rw [PyData.leavesShortAll, Bool.and_eq_true] at a3
    rw [PyData.bulkAll] at a4
    have t : TmL n (PyData.bulkAll ds) ds := ⟨a1.2, a2.2, a3.2, Nat.le_refl _⟩
    have := TmL.cons (⟨a1.1, a2.1, a3.1, Nat.le_refl _⟩ : Tm n e.bulk e) (TmL.snoc k t)
    exact this.le (by omega)
theorem TmL.tup {n b : Nat} {ds : List PyData} (h : TmL n b ds) : Tm (n + 1) b (.tuple ds) := ⟨by rw [shp]; exact h.s, by rw [PyData.showable]; exact h.w, by rw [PyData.leavesShort]; exact h.l, by rw [PyData.bulk]; exact h.k⟩
theorem Tm.none {n : Nat} : Tm n 0 .none := ⟨by rw [shp], by rw [PyData.showable], by rw [PyData.leavesShort], by rw [PyData.bulk]; exact Nat.le_refl _⟩
theorem low_of {c : Nat} (h : inZ LOW c = true) : 97 ≤ c ∧ c ≤ 122 := by
  unfold inZ at h
  rw [decide_eq_true_eq] at h
  have e : LOW.cps.toList = [97, 98, 99, 100, 101, 102, 103, 104, 105, 106, 107, 108, 109, 110, 111, 112, 113, 114, 115, 116, 117, 118, 119, 120, 121, 122] := by decide +kernel
  rw [e] at h
  simp only [List.mem_cons, List.not_mem_nil, or_false] at h
  omega
theorem low_to {c : Nat} (h : 97 ≤ c ∧ c ≤ 122) : inZ LOW c = true := by
  unfold inZ
  rw [decide_eq_true_eq]
  have e : LOW.cps.toList = [97, 98, 99, 100, 101, 102, 103, 104, 105, 106, 107, 108, 109, 110, 111, 112, 113, 114, 115, 116, 117, 118, 119, 120, 121, 122] := by decide +kernel
  rw [e]
  simp only [List.mem_cons, List.not_mem_nil, or_false]
  omega
theorem Tm.str {n : Nat} {a : Cs} (h : ∀ c ∈ a, c < 1000) : Tm n a.length (.str (St a)) := by
  refine ⟨?_, by rw [PyData.showable], ?_, ?_⟩
  · rw [shp, PyData.canLay0, show PyData.strOk (St a) = (St a).cps.all (· < 0x110000) from rfl]
    rw [← Array.all_toList, List.all_eq_true]
    intro c hc
    have := h c hc
    exact decide_eq_true (by omega)
  · rw [PyData.leavesShort, List.all_eq_true]
    intro c hc
    have := h c hc
    exact decide_eq_true (by omega)
  · rw [PyData.bulk]
    exact Nat.le_of_eq (by simp)
theorem Tm.word {n : Nat} {a : Cs} (h : ∀ c ∈ a, inZ LOW c = true) : Tm n a.length (wordOf a) := by
  unfold wordOf
  split
  · exact Tm.none.le (Nat.zero_le _)
  · exact Tm.str fun c hc => by have := low_of (h c hc); omega
theorem Tm.int {n : Nat} {i : Int} (h : i.natAbs < 10 ^ 20) : Tm n 0 (.int i) := by
  have hl : (toString i).length ≤ 21 := int_text_length_le10 (by decide) h
  refine ⟨by rw [shp], ?_, ?_, by rw [PyData.bulk]; exact Nat.le_refl _⟩
  · rw [PyData.showable]
    refine decide_eq_true ?_
    have : i.natAbs.log2 ≤ i.natAbs := Nat.log2_le_self _
    by_cases hz : i.natAbs = 0
    · rw [hz]; decide
    · rw [Nat.log2_lt hz]
      exact Nat.lt_of_lt_of_le h (by decide +kernel)
  · rw [PyData.leavesShort, PyData.shown]
    refine decide_eq_true ?_
    show (Str.ofString (toString i)).length ≤ 2000
    rw [PySem.ofString_length]
    omega
theorem dv_lt : ∀ (k : Nat) (l : Cs), l.length = k → (∀ c ∈ l, inZ FIG c = true) → dv l < 10 ^ k
  | 0, l, h, _ => by
    have : l = [] := List.eq_nil_of_length_eq_zero h
    subst this
    decide
  | k + 1, l, h, hd => by
    have ne : l ≠ [] := fun z => by rw [z] at h; simp at h
    rw [← List.dropLast_concat_getLast ne]
    show NumText.digitsVal _ < _
    rw [NumText.digitsVal_snoc]
    have q := dv_lt k l.dropLast (by simp [h]) fun c hc => hd c ((List.dropLast_sublist _).subset hc)
    have r := fig_of (hd _ (List.getLast_mem ne))
    have : 10 ^ (k + 1) = 10 ^ k * 10 := Nat.pow_succ ..
    have q : NumText.digitsVal l.dropLast < 10 ^ k := q
    omega
theorem tm_int {n : Nat} {cs : Cs} {d : PyData} {m : Nat} (h : pInt cs = .ok d m) : Tm n m d := by
  rw [pInt_eq rfl] at h
  generalize hm : (if cs.head? = some 45 then 1 else 0) = k at h
  split at h
  · cases h
  · split at h
    · cases h
    · split at h
      · cases h
      · split at h
        · cases h
        · cases h
          rename_i h1 h2 h3 h4
          have hr := run_le (inZ FIG) (cs.drop k)
          have q := dv_lt (run (inZ FIG) (cs.drop k)) ((cs.drop k).take (run (inZ FIG) (cs.drop k))) (by rw [List.length_take]; omega) run_all
          have p : 10 ^ run (inZ FIG) (cs.drop k) ≤ 10 ^ 20 := Nat.pow_le_pow_right (by decide) (by omega)
          refine (Tm.int ?_).le (Nat.zero_le _)
          split <;> omega
theorem tm_ents {n : Nat} {rd : Cs → Pr} (hr : ∀ cs d m, rd cs = .ok d m → Tm n m d) : ∀ (t : Nat) (found : List PyData) (b : Nat) (cs : Cs), TmL n b found → ∀ d m, pEnts rd t found cs = .ok d m → Tm (n + 1) (b + m - (if found = [] then 0 else 1)) d
  | 0, _, _, _, _, d, m, h => by simp [pEnts] at h
  | t + 1, found, b, cs, hf, d, m, h => by
    rw [pEnts] at h
    split at h
    · cases h
      exact hf.tup.le (by split <;> omega)
    · split at h
      · cases h
      · dsimp only at h
        generalize ek : (if found = [] then 0 else 1) = k at h
        split at h
        · cases h
        · rename_i d1 n1 e1
          cases e2 : pEnts rd t (found ++ [d1]) (cs.drop (k + n1)) with
          | bad m => rw [e2] at h; cases h
          | ok d2 n2 =>
            rw [e2] at h
            have q := tm_ents hr t (found ++ [d1]) (b + (n1 + 1)) _ (TmL.snoc (hr _ _ _ e1) hf) d2 n2 e2
            rw [if_neg (by simp)] at q
            cases h
            refine q.le ?_
            subst ek
            split <;> omega
theorem tm_T : ∀ (f depth : Nat) (cs : Cs) (d : PyData) (m : Nat), pT f depth cs = .ok d m → Tm f m d
  | 0, _, _, d, m, h => by simp [pT] at h
  | f + 1, depth, cs, d, m, h => by
    rw [pT] at h
    split at h
    · split at h
      · cases h
      · cases e2 : pEnts (pT f (depth + 1)) cs.length [] (cs.drop 1) with
        | bad m => rw [e2] at h; cases h
        | ok d2 n2 =>
          rw [e2] at h
          cases h
          have := tm_ents (tm_T f (depth + 1)) _ [] 0 _ TmL.nil d n2 e2
          rw [if_pos rfl] at this
          exact this.le (by omega)
    · split at h
      · cases h
        exact (Tm.str (a := []) (by simp)).le (by simp)
      · split at h
        · cases h
          have := Tm.word (n := f + 1) (a := cs.take (run (inZ LOW) cs)) run_all
          exact this.le (List.length_take_le _ _)
        · exact tm_int h
theorem Tm.rep {n b : Nat} {d : PyData} (h : Tm n b d) (hn : n ≤ 50) (hb : b ≤ 8000) : repOk d = true := by
  unfold repOk
  have := (shp_ok n d h.s).2
  rw [h.w, h.l, decide_eq_true (by have := h.k; omega), decide_eq_true (by omega)]
  rfl

/-! ## the law's own reading: terms -/
/-- no "bad" in it -/
def NB (s : Str) : Prop := ∀ i m, (s.cps.toList.drop i).take m ≠ [98, 97, 100]
theorem call3_ok {F : DF} {a b c : DE} {δ : Sl} {μ μ1 μ2 μ3 : Mu} {x y z : D} {r : R D} (h : a δ μ = .ok x μ1) (h2 : b δ μ1 = .ok y μ2) (h3 : c δ μ2 = .ok z μ3) (e : F [x, y, z] μ3 = r) : dCall F (dCons a (dCons b (dCons c dNil))) δ μ = r := by
  unfold dCall
  rw [cons_ok h (cons_ok h2 (cons_ok h3 rfl)), bind_ok, e]
theorem ifv_t {c : DT} {a b : DE} {δ : Sl} {μ μ' : Mu} {r : R D} (h : c δ μ = .ok true μ') (e : a δ μ' = r) : dIf c a b δ μ = r := by
  unfold dIf
  rw [h, bind_ok, if_pos rfl, e]
theorem ifv_f {c : DT} {a b : DE} {δ : Sl} {μ μ' : Mu} {r : R D} (h : c δ μ = .ok false μ') (e : b δ μ' = r) : dIf c a b δ μ = r := by
  unfold dIf
  rw [h, bind_ok, if_neg Bool.false_ne_true, e]
theorem in_low {a : DE} {δ : Sl} {μ μ' : Mu} {cs : Cs} {z : Str} (hc : cs ≠ []) (h : a δ μ = .ok (.t (.str (St (cs.take 1)))) μ') : dCmpT cIn a (dC (.str z)) δ μ = .ok (cs.head?.elim false (inZ z)) μ' := by
  cases cs with
  | nil => exact absurd rfl hc
  | cons c r => exact in_sign (c := c) h
theorem lread_body {RD : Nat → DF} {EN : DF} {n : Nat} {s : Str} {a d k : Nat} {μ : Mu} (hs : s.cps.toList.length ≤ 3900)
    (he : (s.cps.toList.drop a).head? = some 40 → d ≠ 12 → EN [.t (.str s), .t (.int ((a + 1 : Nat) : Int)), .t (.int ((d + 1 : Nat) : Int))] μ = .ok (.t (lawR (a + 1) (pEnts (pT k (d + 1)) (s.cps.toList.drop a).length [] ((s.cps.toList.drop a).drop 1)))) μ) :
    mkF 3 3 false (b__law_read RD (fun _ => EN) n) [.t (.str s), .t (.int (a : Nat)), .t (.int (d : Nat))] μ = .ok (.t (lawR a (pT (k + 1) d (s.cps.toList.drop a)))) μ := by
  refine mkF_t rfl ?_ rfl
  rw [pT]
  generalize hcs : s.cps.toList.drop a = cs at he ⊢
  have hsg := sign_at (x := dVar 0) (a := dVar 1) (δ := [some (.t (.str s)), some (.t (.int (a : Nat))), some (.t (.int (d : Nat))), none, none, none]) (s := s) (i := a) (μ := μ) rfl rfl
  rw [hcs] at hsg
  refine (seq_ok (set_ok' hsg)).trans ?_
  generalize hδ : ([some (.t (.str s)), some (.t (.int (a : Nat))), some (.t (.int (d : Nat))), none, none, none] : Sl).set 3 (some (.t (.str (St (cs.take 1))))) = δ
  have v0 : dVar 0 δ μ = .ok (.t (.str s)) μ := by rw [← hδ]; rfl
  have v1 : dVar 1 δ μ = .ok (.t (.int (a : Nat))) μ := by rw [← hδ]; rfl
  have v2 : dVar 2 δ μ = .ok (.t (.int (d : Nat))) μ := by rw [← hδ]; rfl
  have v3 : dVar 3 δ μ = .ok (.t (.str (St (cs.take 1)))) μ := by rw [← hδ]; rfl
  have t1 := sign_eq 40 (z := "(") (by rfl) v3
  by_cases h1 : cs.head? = some 40
  · rw [if_pos h1]
    refine seq_out ((if_te t1 (decide_eq_true h1)).trans ?_)
    have t2 := eq_nat (y := 12) v2 (show dC (.int 12) δ μ = .ok (.t (.int ((12 : Nat) : Int))) μ from rfl)
    by_cases h2 : d = 12
    · rw [if_pos h2]
      exact seq_hit (t2.trans (by rw [decide_eq_true h2])) ((bad_ret v1).trans rfl)
    · rw [if_neg h2, lawR_by]
      exact (seq_skip (t2.trans (by rw [decide_eq_false h2]))).trans (ret_ok (call3_ok v0 (add_nat v1 one_ok) (add_nat v2 one_ok) (he h1 h2)))
  · rw [if_neg h1]
    refine (seq_skip (t1.trans (by rw [decide_eq_false h1]))).trans ?_
    have t3 := sign_eq 46 (z := ".") (by rfl) v3
    by_cases h3 : cs.head? = some 46
    · rw [if_pos h3]
      exact seq_hit (t3.trans (by rw [decide_eq_true h3])) (ret_ok (dLst_ok (cons_ok const_ok (cons_ok (add_nat v1 one_ok) rfl)) rfl (by simp)))
    · rw [if_neg h3]
      refine (seq_skip (t3.trans (by rw [decide_eq_false h3]))).trans ?_
      have t4 : dCmpT cNe (dVar 3) (dC (.str "")) δ μ = .ok (!decide (cs = [])) μ := cmp_ok v3 const_ok (by show some (!_) = some _; rw [sign_none])
      have t5 : dAndT (dCmpT cNe (dVar 3) (dC (.str ""))) (dCmpT cIn (dVar 3) (dC (.str LOW))) δ μ = .ok (cs.head?.elim false (inZ LOW)) μ := by
        by_cases hc : cs = []
        · rw [andT_f (t4.trans (by rw [decide_eq_true hc]; rfl)), hc]
          rfl
        · exact andT_t (t4.trans (by rw [decide_eq_false hc]; rfl)) (in_low hc v3)
      by_cases h5 : cs.head?.elim false (inZ LOW) = true
      · rw [if_pos h5]
        refine seq_hit (t5.trans (by rw [h5])) ?_
        refine (seq_ok (set_ok' v1)).trans ?_
        have hl : δ.length = 6 := by rw [← hδ]; rfl
        obtain ⟨δ', ef, e1, el, eo⟩ := scan_all (v := 4) (w := 5) (z := LOW) (s := s) (μ := μ) (δ := δ.set 4 (some (.t (.int (a : Nat))))) (a := a) (by decide) (by decide) (by decide) (by rw [List.length_set, hl]; decide) (by rw [← hδ]; rfl) (by rw [← hδ]; rfl) (by omega)
        refine (seq_ok ef).trans ?_
        have e0 := (eo 0 (by decide) (by decide)).trans (show (δ.set 4 (some (.t (.int (a : Nat)))))[0]? = some (some (.t (.str s))) by rw [← hδ]; rfl)
        have e2 := (eo 1 (by decide) (by decide)).trans (show (δ.set 4 (some (.t (.int (a : Nat)))))[1]? = some (some (.t (.int (a : Nat)))) by rw [← hδ]; rfl)
        rw [hcs] at e1
        have sl := sl_str (var_of e0 μ) (var_of e2 μ) (var_of e1 μ)
        rw [hcs, Nat.add_sub_cancel_left] at sl
        have tw : dCmpT cEq (dSl false (dVar 0) (dSomeO (dVar 1)) (dSomeO (dVar 4))) (dC (.str "none")) δ' μ = .ok (St (cs.take (run (inZ LOW) cs)) == ("none" : Str)) μ := cmp_ok sl const_ok rfl
        refine ret_ok (dLst_ok (ps := [wordOf (cs.take (run (inZ LOW) cs)), .int ((a + run (inZ LOW) cs : Nat) : Int)]) (cons_ok (x := .t (wordOf (cs.take (run (inZ LOW) cs)))) (μ1 := μ) ?_ (cons_ok (var_of e1 μ) rfl)) rfl (by simp))
        unfold wordOf
        by_cases hw : St (cs.take (run (inZ LOW) cs)) = ("none" : Str)
        · rw [if_pos hw]
          exact ifv_t (tw.trans (by rw [beq_iff_eq.mpr hw])) rfl
        · rw [if_neg hw]
          exact ifv_f (tw.trans (by rw [beq_eq_false_iff_ne.mpr hw])) sl
      · rw [if_neg h5]
        refine (seq_skip (t5.trans (by rw [Bool.eq_false_iff.mpr h5]))).trans ?_
        refine ret_ok (call2_ok v0 v1 ?_)
        rw [lint_ok s a (by omega) μ, hcs]

/-! ## the law's own reading: tuples -/
abbrev lentS (RD : DF) : DS := (sSeq (sIf ((dCmpT cEq ((dSl false (dVar 0) (dSomeO (dVar 1)) (dSomeO ((dAdd false (dVar 1) (dC (.int 1))))))) (dC (.str ")")))) (sRet ((dLst false ((dCons ((dCall (g1 fTuple) (dCons (dVar 3) dNil))) (dCons ((dAdd false (dVar 1) (dC (.int 1)))) dNil)))))) sSkip)
  (sSeq (sIf ((dTru (dVar 3))) (sSeq (sIf ((dCmpT cNe ((dSl false (dVar 0) (dSomeO (dVar 1)) (dSomeO ((dAdd false (dVar 1) (dC (.int 1))))))) (dC (.str " ")))) (sRet ((dLst false ((dCons (dC (.str "bad")) (dCons (dVar 1) dNil)))))) sSkip)
  (sSet 1 ((dAdd false (dVar 1) (dC (.int 1)))))) sSkip)
  (sSeq (sAsg ((dCall RD (dCons (dVar 0) (dCons (dVar 1) (dCons (dVar 2) dNil))))) fun x δ μ => onlyG ((gT [(gN 5), (gN 6)]) x δ μ))
  (sSeq (sIf ((dAndT ((dCmpT cEq (dVar 5) (dC (.str "bad")))) ((dTru ((dCall gIsi (dCons (dVar 5) (dCons (dK (.ty "str")) dNil)))))))) (sRet ((dLst false ((dCons (dVar 5) (dCons (dVar 6) dNil)))))) sSkip)
  (sSeq (sExpr ((dMeth isL gAppend (dVar 3) (dCons (dVar 5) dNil))))
  (sSet 1 (dVar 6)))))))
theorem rd_end {μ : Mu} {xs : List PyData} : rd (μ ++ [.l xs]) (.lst μ.length) = some (.list xs) := by
  unfold rd
  simp
theorem push_end {μ : Mu} {xs : List PyData} {y : PyData} (z : xs.length < 10000) {a b : DE} {δ : Sl} (ha : ∀ μ', a δ μ' = .ok (.lst μ.length) μ') (hb : ∀ μ', b δ μ' = .ok (.t y) μ') : sExpr (dMeth isL gAppend a (dCons b dNil)) δ (μ ++ [.l xs]) = .nx δ (μ ++ [.l (xs ++ [y])]) := by
  have e : dMeth isL gAppend a (dCons b dNil) δ (μ ++ [.l xs]) = .ok (.t .none) (μ ++ [.l (xs ++ [y])]) := by
    unfold dMeth
    rw [ha, bind_ok]
    have r : rdIs isL (μ ++ [.l xs]) (.lst μ.length) = true := by
      unfold rdIs
      rw [rd_end]
      rfl
    rw [if_pos r, cons_ok (hb _) rfl, bind_ok, append_ok (xs := xs) (by simp) (Nat.lt_of_lt_of_le z (by rw [sizeLine_eq]; decide))]
    simp
  unfold sExpr
  rw [e, toS_ok]
/-- what is read is not the text "bad" -/
def Fine (d : PyData) : Prop := shp 16 d = true ∧ d ≠ .str "bad"
theorem isB_str {d : PyData} : isB "str" d = some (isS d) := rfl
theorem fine_test {d : PyData} (h : Fine d) {v : Nat} {δ : Sl} {μ : Mu} (hv : dVar v δ μ = .ok (.t d) μ) : dAndT (dCmpT cEq (dVar v) (dC (.str "bad"))) (dTru (dCall gIsi (dCons (dVar v) (dCons (dK (.ty "str")) dNil)))) δ μ = .ok false μ := by
  by_cases hs : isS d = true
  · cases d with
    | str x =>
      have hx : x ≠ "bad" := fun z => h.2 (by rw [z])
      exact andT_f (cmp_ok hv const_ok (by show some (x == _) = _; rw [beq_eq_false_iff_ne.mpr hx]))
    | _ => cases hs
  · have hs : isS d = false := Bool.eq_false_iff.mpr hs
    have e : ∃ b, cEq d (.str "bad") = some b := by
      have hb : shp 16 (.str "bad") = true := by decide +kernel
      cases d with
      | str x => cases hs
      | dict _ => exact absurd h.1 (by simp [shp])
      | _ => exact ⟨_, if_pos (by rw [h.1, hb]; rfl)⟩
    obtain ⟨b, e⟩ := e
    have t := cmp_ok (f := cEq) (δ := δ) hv (const_ok (p := .str "bad") (μ := μ)) e
    cases b with
    | false => exact andT_f t
    | true => exact andT_t t (tru_ok (isi_ok hv (isB_str.trans (by rw [hs]))))
theorem bad_test {v : Nat} {δ : Sl} {μ : Mu} (hv : dVar v δ μ = .ok (.t (.str "bad")) μ) : dAndT (dCmpT cEq (dVar v) (dC (.str "bad"))) (dTru (dCall gIsi (dCons (dVar v) (dCons (dK (.ty "str")) dNil)))) δ μ = .ok true μ :=
  andT_t (cmp_ok hv const_ok (by show some (("bad" : Str) == _) = _; rw [beq_iff_eq.mpr rfl])) (tru_ok (isi_ok hv isB_str))
theorem lent_loop {RD : DF} {s : Str} {d : Nat} {μ : Mu} {rd' : Cs → Pr} (hs : s.cps.toList.length ≤ 3900) (hf : ∀ a e n, rd' (s.cps.toList.drop a) = .ok e n → Fine e) (hr : ∀ cs, Eats (rd' cs) cs)
    (hrd : ∀ a μ, RD [.t (.str s), .t (.int (a : Nat)), .t (.int (d : Nat))] μ = .ok (.t (lawR a (rd' (s.cps.toList.drop a)))) μ) {ok : Mu → Bool} (hok : ∀ μ, ok μ = true) :
    ∀ (xs : List PyData) (found : List PyData) (a : Nat) (x4 x5 x6 : Option D), (s.cps.toList.drop a).length < xs.length → found.length + xs.length ≤ 4000 →
    ∃ found', forL ok (gN 4) (lentS RD) xs [some (.t (.str s)), some (.t (.int (a : Nat))), some (.t (.int (d : Nat))), some (.lst μ.length), x4, x5, x6] (μ ++ [.l found]) = .rt (.t (lawR a (pEnts rd' xs.length found (s.cps.toList.drop a)))) (μ ++ [.l found'])
  | [], _, _, _, _, _, h, _ => by simp at h
  | x :: xs, found, a, x4, x5, x6, hx, hl => by
    rw [List.length_cons] at hx hl
    have e : forL ok (gN 4) (lentS RD) (x :: xs) [some (.t (.str s)), some (.t (.int (a : Nat))), some (.t (.int (d : Nat))), some (.lst μ.length), x4, x5, x6] (μ ++ [.l found]) = (match lentS RD [some (.t (.str s)), some (.t (.int (a : Nat))), some (.t (.int (d : Nat))), some (.lst μ.length), some (.t x), x5, x6] (μ ++ [.l found]) with
      | .nx δ2 μ2 => forL ok (gN 4) (lentS RD) xs δ2 μ2
      | .ct δ2 μ2 => forL ok (gN 4) (lentS RD) xs δ2 μ2
      | .bk δ2 μ2 => .nx δ2 μ2
      | r => r) := by
      rw [forL, hok, if_pos rfl]
      rfl
    rw [e]
    clear e
    have hend : ∀ (v : PyData) (fd : List PyData), lentS RD [some (.t (.str s)), some (.t (.int (a : Nat))), some (.t (.int (d : Nat))), some (.lst μ.length), some (.t x), x5, x6] (μ ++ [.l found]) = .rt (.t v) (μ ++ [.l fd]) → v = lawR a (pEnts rd' (xs.length + 1) found (s.cps.toList.drop a)) → ∃ found', (match lentS RD [some (.t (.str s)), some (.t (.int (a : Nat))), some (.t (.int (d : Nat))), some (.lst μ.length), some (.t x), x5, x6] (μ ++ [.l found]) with
      | .nx δ2 μ2 => forL ok (gN 4) (lentS RD) xs δ2 μ2
      | .ct δ2 μ2 => forL ok (gN 4) (lentS RD) xs δ2 μ2
      | .bk δ2 μ2 => .nx δ2 μ2
      | r => r) = .rt (.t (lawR a (pEnts rd' (x :: xs).length found (s.cps.toList.drop a)))) (μ ++ [.l found']) := by
      intro v fd h1 h2
      rw [h1, h2]
      exact ⟨fd, rfl⟩
    have hsg := sign_at (x := dVar 0) (a := dVar 1) (δ := [some (.t (.str s)), some (.t (.int (a : Nat))), some (.t (.int (d : Nat))), some (.lst μ.length), some (.t x), x5, x6]) (s := s) (i := a) (μ := μ ++ [.l found]) rfl rfl
    have t1 := sign_eq 41 (z := ")") (by rfl) hsg
    by_cases h1 : (s.cps.toList.drop a).head? = some 41
    · refine hend (.list [.tuple found, .int ((a + 1 : Nat) : Int)]) found ?_ ?_
      · refine seq_hit (t1.trans (by rw [decide_eq_true h1])) (ret_ok (dLst_ok (cons_ok (x := .t (.tuple found)) (μ1 := μ ++ [.l found]) (call1_ok (x := .lst μ.length) (μ1 := μ ++ [.l found]) rfl ?_) (cons_ok (add_nat (x := a) rfl one_ok) rfl)) rfl (by simp)))
        unfold g1 ap1
        dsimp only
        rw [rd_end]
        rfl
      · rw [pEnts, if_pos h1, lawR]
    · have go : ∀ (b k : Nat), (b = a + k) → (∀ {n}, rd' (s.cps.toList.drop b) = .bad n → pEnts rd' (xs.length + 1) found (s.cps.toList.drop a) = .bad (k + n)) → (∀ {e n}, rd' (s.cps.toList.drop b) = .ok e n → pEnts rd' (xs.length + 1) found (s.cps.toList.drop a) = (pEnts rd' xs.length (found ++ [e]) ((s.cps.toList.drop b).drop n)).by (k + n)) →
        lentS RD [some (.t (.str s)), some (.t (.int (a : Nat))), some (.t (.int (d : Nat))), some (.lst μ.length), some (.t x), x5, x6] (μ ++ [.l found]) = (sSeq (sAsg ((dCall RD (dCons (dVar 0) (dCons (dVar 1) (dCons (dVar 2) dNil))))) fun x δ μ => onlyG ((gT [(gN 5), (gN 6)]) x δ μ))
          (sSeq (sIf ((dAndT ((dCmpT cEq (dVar 5) (dC (.str "bad")))) ((dTru ((dCall gIsi (dCons (dVar 5) (dCons (dK (.ty "str")) dNil)))))))) (sRet ((dLst false ((dCons (dVar 5) (dCons (dVar 6) dNil)))))) sSkip)
          (sSeq (sExpr ((dMeth isL gAppend (dVar 3) (dCons (dVar 5) dNil))))
          (sSet 1 (dVar 6))))) [some (.t (.str s)), some (.t (.int (b : Nat))), some (.t (.int (d : Nat))), some (.lst μ.length), some (.t x), x5, x6] (μ ++ [.l found]) →
        ∃ found', (match lentS RD [some (.t (.str s)), some (.t (.int (a : Nat))), some (.t (.int (d : Nat))), some (.lst μ.length), some (.t x), x5, x6] (μ ++ [.l found]) with
          | .nx δ2 μ2 => forL ok (gN 4) (lentS RD) xs δ2 μ2
          | .ct δ2 μ2 => forL ok (gN 4) (lentS RD) xs δ2 μ2
          | .bk δ2 μ2 => .nx δ2 μ2
          | r => r) = .rt (.t (lawR a (pEnts rd' (x :: xs).length found (s.cps.toList.drop a)))) (μ ++ [.l found']) := by
        intro b k hb q1 q2 hS
        have ea : sAsg ((dCall RD (dCons (dVar 0) (dCons (dVar 1) (dCons (dVar 2) dNil))))) (fun x δ μ => onlyG ((gT [(gN 5), (gN 6)]) x δ μ)) [some (.t (.str s)), some (.t (.int (b : Nat))), some (.t (.int (d : Nat))), some (.lst μ.length), some (.t x), x5, x6] (μ ++ [.l found]) = onlyG ((gT [(gN 5), (gN 6)]) (.t (lawR b (rd' (s.cps.toList.drop b)))) [some (.t (.str s)), some (.t (.int (b : Nat))), some (.t (.int (d : Nat))), some (.lst μ.length), some (.t x), x5, x6] (μ ++ [.l found])) := by
          unfold sAsg
          rw [call3_ok (x := .t (.str s)) (y := .t (.int (b : Nat))) (z := .t (.int (d : Nat))) (μ1 := μ ++ [.l found]) (μ2 := μ ++ [.l found]) (μ3 := μ ++ [.l found]) rfl rfl rfl (hrd b _), toS_ok]
        cases hp : rd' (s.cps.toList.drop b) with
        | bad n =>
          rw [hp] at ea
          refine hend (.list [.str "bad", .int ((b + n : Nat) : Int)]) found ?_ ?_
          · rw [hS]
            refine (seq_ok (ea.trans rfl)).trans ?_
            exact seq_hit (bad_test rfl) (ret_ok (dLst_ok (cons_ok (x := .t (.str "bad")) (μ1 := μ ++ [.l found]) rfl (cons_ok (x := .t (.int ((b + n : Nat) : Int))) (μ1 := μ ++ [.l found]) rfl rfl)) rfl (by simp)))
          · rw [q1 hp, lawR, hb, Nat.add_assoc]
        | ok e n =>
          rw [hp] at ea
          have hS2 : lentS RD [some (.t (.str s)), some (.t (.int (a : Nat))), some (.t (.int (d : Nat))), some (.lst μ.length), some (.t x), x5, x6] (μ ++ [.l found]) = .nx [some (.t (.str s)), some (.t (.int ((b + n : Nat) : Int))), some (.t (.int (d : Nat))), some (.lst μ.length), some (.t x), some (.t e), some (.t (.int ((b + n : Nat) : Int)))] (μ ++ [.l (found ++ [e])]) := by
            rw [hS]
            refine (seq_ok (ea.trans rfl)).trans ?_
            refine (seq_skip (fine_test (hf b e n hp) rfl)).trans ?_
            exact (seq_ok (push_end (by omega) (fun _ => rfl) (fun _ => rfl))).trans (set_ok' rfl)
          rw [hS2]
          dsimp only
          have hea := hr _ _ _ hp
          rw [List.length_drop] at hea
          rw [List.length_drop] at hx
          obtain ⟨f', e'⟩ := lent_loop hs hf hr hrd hok xs (found ++ [e]) (b + n) (some (.t x)) (some (.t e)) (some (.t (.int ((b + n : Nat) : Int)))) (by rw [List.length_drop]; omega) (by rw [List.length_append, List.length_singleton]; omega)
          refine ⟨f', e'.trans ?_⟩
          rw [List.length_cons, q2 hp, lawR_by, List.drop_drop, hb, Nat.add_assoc]
      have body0 := seq_skip (b := (sSeq (sIf ((dTru (dVar 3))) (sSeq (sIf ((dCmpT cNe ((dSl false (dVar 0) (dSomeO (dVar 1)) (dSomeO ((dAdd false (dVar 1) (dC (.int 1))))))) (dC (.str " ")))) (sRet ((dLst false ((dCons (dC (.str "bad")) (dCons (dVar 1) dNil)))))) sSkip)
          (sSet 1 ((dAdd false (dVar 1) (dC (.int 1)))))) sSkip)
          (sSeq (sAsg ((dCall RD (dCons (dVar 0) (dCons (dVar 1) (dCons (dVar 2) dNil))))) fun x δ μ => onlyG ((gT [(gN 5), (gN 6)]) x δ μ))
          (sSeq (sIf ((dAndT ((dCmpT cEq (dVar 5) (dC (.str "bad")))) ((dTru ((dCall gIsi (dCons (dVar 5) (dCons (dK (.ty "str")) dNil)))))))) (sRet ((dLst false ((dCons (dVar 5) (dCons (dVar 6) dNil)))))) sSkip)
          (sSeq (sExpr ((dMeth isL gAppend (dVar 3) (dCons (dVar 5) dNil))))
          (sSet 1 (dVar 6))))))) (a := sRet ((dLst false ((dCons ((dCall (g1 fTuple) (dCons (dVar 3) dNil))) (dCons ((dAdd false (dVar 1) (dC (.int 1)))) dNil)))))) (t1.trans (by rw [decide_eq_false h1]))
      have tt : dTru (dVar 3) [some (.t (.str s)), some (.t (.int (a : Nat))), some (.t (.int (d : Nat))), some (.lst μ.length), some (.t x), x5, x6] (μ ++ [.l found]) = .ok (!found.isEmpty) (μ ++ [.l found]) := by
        show apT (.lst μ.length) (μ ++ [.l found]) = _
        unfold apT
        rw [rd_end]
        rfl
      by_cases h2 : found = []
      · subst h2
        refine go a 0 rfl ?_ ?_ (body0.trans (seq_skip (tt.trans rfl)))
        · intro n hp
          rw [pEnts, if_neg h1, if_neg (by simp), if_pos rfl]
          dsimp only
          rw [List.drop_zero, hp]
        · intro e n hp
          rw [pEnts, if_neg h1, if_neg (by simp), if_pos rfl]
          dsimp only
          rw [List.drop_zero, hp]
          dsimp only
          rw [Nat.zero_add]
      · have tt2 : (!found.isEmpty) = true := by cases found with | nil => exact absurd rfl h2 | cons _ _ => rfl
        rw [tt2] at tt
        have t3 := sign_ne 32 (z := " ") (by rfl) hsg
        by_cases h3 : (s.cps.toList.drop a).head? = some 32
        · refine go (a + 1) 1 rfl ?_ ?_ (body0.trans (seq_ok ((if_t tt).trans ((seq_skip (t3.trans (by rw [decide_eq_true h3]; rfl))).trans (set_ok' (add_nat (x := a) rfl one_ok))))))
          · intro n hp
            rw [pEnts, if_neg h1, if_neg (by simp [h3]), if_neg h2]
            dsimp only
            rw [List.drop_drop, hp]
          · intro e n hp
            rw [pEnts, if_neg h1, if_neg (by simp [h3]), if_neg h2]
            dsimp only
            rw [List.drop_drop, hp]
            dsimp only
            simp only [List.drop_drop, Nat.add_assoc]
        · refine hend (.list [.str "bad", .int (a : Nat)]) found ?_ ?_
          · exact body0.trans (seq_out ((if_t tt).trans (seq_hit (t3.trans (by rw [decide_eq_false h3]; rfl)) (bad_ret rfl))))
          · rw [pEnts, if_neg h1, if_pos ⟨h2, h3⟩, lawR, Nat.add_zero]

theorem shp_le : ∀ {m n : Nat} {d : PyData}, m ≤ n → shp m d = true → shp n d = true
  | m, n, .none, _, _ => by simp [shp]
  | m, n, .bool _, _, _ => by simp [shp]
  | m, n, .int _, _, _ => by simp [shp]
  | m, n, .str x, _, h => by rw [shp] at h ⊢; exact h
  | 0, n, .tuple xs, _, h => by simp [shp] at h
  | m + 1, n + 1, .tuple xs, hm, h => by
    rw [shp, shpL_all] at h ⊢
    exact List.all_eq_true.mpr fun x hx => shp_le (Nat.le_of_succ_le_succ hm) (List.all_eq_true.mp h x hx)
  | 0, n, .list xs, _, h => by simp [shp] at h
  | m + 1, n + 1, .list xs, hm, h => by
    rw [shp, shpL_all] at h ⊢
    exact List.all_eq_true.mpr fun x hx => shp_le (Nat.le_of_succ_le_succ hm) (List.all_eq_true.mp h x hx)
  | 0, n, .dict _, _, h => by simp [shp] at h
  | m + 1, n, .dict _, _, h => by simp [shp] at h
theorem ents_tup {rd : Cs → Pr} : ∀ {t : Nat} {found : List PyData} {cs : Cs} {d : PyData} {n : Nat}, pEnts rd t found cs = .ok d n → ∃ ds, d = .tuple ds
  | 0, _, _, d, n, h => by simp [pEnts] at h
  | t + 1, found, cs, d, n, h => by
    rw [pEnts] at h
    split at h
    · cases h
      exact ⟨_, rfl⟩
    · split at h
      · cases h
      · dsimp only at h
        split at h
        · cases h
        · rename_i d1 n1 e1
          cases e2 : pEnts rd t (found ++ [d1]) (cs.drop ((if found = [] then 0 else 1) + n1)) with
          | bad m => rw [e2] at h; cases h
          | ok d2 n2 =>
            rw [e2] at h
            cases h
            exact ents_tup e2
theorem int_not {cs : Cs} {x : Str} {n : Nat} : pInt cs ≠ .ok (.str x) n := fun h => by
  rw [pInt_eq rfl] at h
  generalize hm : (if cs.head? = some 45 then 1 else 0) = k at h
  split at h
  · cases h
  · split at h
    · cases h
    · split at h
      · cases h
      · split at h
        · cases h
        · cases h
theorem fine_of {f depth : Nat} {s : Str} {a : Nat} {d : PyData} {n : Nat} (hf : f ≤ 16) (nb : NB s) (h : pT f depth (s.cps.toList.drop a) = .ok d n) : Fine d := by
  have q := (tm_T _ _ _ _ _ h).s
  refine ⟨shp_le hf q, fun z => ?_⟩
  subst z
  cases f with
  | zero => simp [pT] at h
  | succ f =>
    rw [pT] at h
    split at h
    · split at h
      · cases h
      · cases e2 : pEnts (pT f (depth + 1)) (s.cps.toList.drop a).length [] ((s.cps.toList.drop a).drop 1) with
        | bad m => rw [e2] at h; cases h
        | ok d2 n2 =>
          rw [e2] at h
          have := ents_tup e2
          cases h
          obtain ⟨ds, hd⟩ := this
          cases hd
    · split at h
      · cases h
      · split at h
        · have e1 := congrArg (fun z : Pr => match z with | .ok d _ => d | .bad _ => .none) h
          dsimp only at e1
          unfold wordOf at e1
          split at e1
          · cases e1
          · have e3 := PyData.str.inj e1
            have e4 : (s.cps.toList.drop a).take (run (inZ LOW) (s.cps.toList.drop a)) = [98, 97, 100] := St_inj (e3.trans rfl)
            exact nb _ _ e4
        · exact int_not h
/-- a def that leaves live things of its own behind -/
theorem mkF_tk {n m : Nat} {live : Bool} {b : DS} {args : List D} {μ r : Mu} {x : PyData} (hn : args.length = n) (e : b (args.map some ++ List.replicate m none) μ = .rt (.t x) (μ ++ r)) : mkF n m live b args μ = .ok (.t x) μ := by
  rw [mkF_rt hn e]
  unfold gc
  dsimp only
  rw [List.take_left]
theorem mkF_exk {n m : Nat} {live : Bool} {b : DS} {args : List D} {μ μ' : Mu} {δ : Sl} {c : Str} {p : Option (List (Str × PyData))} (hn : args.length = n) (e : b (args.map some ++ List.replicate m none) μ = .ex c p δ μ') : mkF n m live b args μ = .ex c p (μ'.take μ.length) := by
  unfold mkF
  rw [if_pos hn, e]
theorem lread_ok {s : Str} (hs : s.cps.toList.length ≤ 3900) (nb : NB s) : ∀ (k d n : Nat), d + k = 12 → 2 * k + 1 ≤ n → ∀ a μ, F__law_read n [.t (.str s), .t (.int (a : Nat)), .t (.int (d : Nat))] μ = .ok (.t (lawR a (pT (k + 1) d (s.cps.toList.drop a)))) μ
  | _, _, 0, _, h, _, _ => by omega
  | 0, d, n + 1, hd, hn, a, μ => by
    rw [F__law_read]
    exact lread_body hs fun _ h => absurd (by omega) h
  | k + 1, d, 1, hd, hn, a, μ => by omega
  | k + 1, d, n + 2, hd, hn, a, μ => by
    rw [F__law_read]
    refine lread_body hs fun h40 _ => ?_
    rw [F__law_entries]
    have ih := lread_ok hs nb k (d + 1) n (by omega) (by omega)
    have turn := ents_turns (eats_T (k + 1) (d + 1)) (s.cps.toList.drop a).length (s.cps.toList.length + 1) [] ((s.cps.toList.drop a).drop 1)
    obtain ⟨f', el⟩ := lent_loop (s := s) (d := d + 1) (μ := μ) (rd' := pT (k + 1) (d + 1)) hs (fun a e n h => fine_of (by omega) nb h) (eats_T _ _) ih (ok := chk (TV.intsFrom 0 (s.cps.toList.length + 1), none)) (fun _ => rfl) (TV.intsFrom 0 (s.cps.toList.length + 1)) [] (a + 1) none none none (by rw [intsFrom_length, List.length_drop]; omega) (by rw [intsFrom_length, List.length_nil]; omega)
    refine mkF_tk (r := [.l f']) rfl ?_
    refine (seq_ok (set_ok' (x := .lst μ.length) (μ' := μ ++ [.l []]) rfl)).trans (seq_out ?_)
    refine (for_eq (dRange1_ok (n := s.cps.toList.length + 1) (μ' := μ ++ [.l []]) (by omega) (add_nat (len_nat rfl) one_ok))).trans ?_
    refine el.trans ?_
    rw [intsFrom_length]
    have hz : 0 < (s.cps.toList.drop a).length := by
      cases hc : s.cps.toList.drop a with
      | nil => rw [hc] at h40; cases h40
      | cons _ _ => simp
    have h3 := List.length_drop (i := a) (l := s.cps.toList)
    rw [turn (by rw [List.length_drop]; omega) (by rw [List.length_drop]; omega), List.drop_drop]
theorem due_ok {s : Str} (hs : s.cps.toList.length ≤ 3900) (nb : NB s) (μ : Mu) : F__law_due [.t (.str s)] μ = .ok (.t (match pT 13 0 s.cps.toList with
    | .bad n => .list [.str "bad", .int (n : Nat)]
    | .ok d n => if n < s.cps.toList.length then .list [.str "bad", .int (n : Nat)] else .list [.str "term", d])) μ := by
  have e := lread_ok hs nb 12 0 28 rfl (by decide) 0 μ
  refine mkF_t rfl ?_ rfl
  rw [List.drop_zero] at e
  have ea : sAsg ((dCall (F__law_read 28) (dCons (dVar 0) (dCons (dC (.int 0)) (dCons (dC (.int 0)) dNil))))) (fun x δ μ => onlyG ((gT [(gN 1), (gN 2)]) x δ μ)) [some (.t (.str s)), none, none] μ = onlyG ((gT [(gN 1), (gN 2)]) (.t (lawR 0 (pT 13 0 s.cps.toList))) [some (.t (.str s)), none, none] μ) := by
    unfold sAsg
    rw [call3_ok (x := .t (.str s)) (y := .t (.int 0)) (z := .t (.int 0)) (μ1 := μ) (μ2 := μ) (μ3 := μ) rfl rfl rfl e, toS_ok]
  have tb : ∀ {d : PyData} {x2 : Option D}, Fine d → dAndT ((dTru ((dCall gIsi (dCons (dVar 1) (dCons (dK (.ty "str")) dNil)))))) ((dCmpT cEq (dVar 1) (dC (.str "bad")))) [some (.t (.str s)), some (.t d), x2] μ = .ok false μ := by
    intro d x2 h
    by_cases hs : isS d = true
    · cases d with
      | str x =>
        have hx : x ≠ "bad" := fun z => h.2 (by rw [z])
        exact andT_t (tru_ok (isi_ok (d := .str x) (μ' := μ) rfl (isB_str.trans rfl))) (cmp_ok (p := .str x) (μ1 := μ) rfl const_ok (by show some (x == _) = _; rw [beq_eq_false_iff_ne.mpr hx]))
      | _ => cases hs
    · exact andT_f (tru_ok (isi_ok (d := d) (μ' := μ) rfl (isB_str.trans (by rw [Bool.eq_false_iff.mpr hs]))))
  cases hp : pT 13 0 s.cps.toList with
  | bad n =>
    rw [hp] at ea
    refine (seq_ok (ea.trans rfl)).trans ?_
    refine seq_hit (andT_t (tru_ok (isi_ok (d := .str "bad") (μ' := μ) rfl isB_str)) (cmp_ok (p := .str "bad") (μ1 := μ) rfl const_ok (by show some (("bad" : Str) == _) = _; rw [beq_iff_eq.mpr rfl]))) ?_
    refine (bad_ret (n := ((0 + n : Nat) : Int)) rfl).trans ?_
    rw [Nat.zero_add]
  | ok d n =>
    rw [hp] at ea
    have hf : Fine d := fine_of (f := 13) (depth := 0) (a := 0) (s := s) (by decide) nb (by rw [List.drop_zero]; exact hp)
    refine (seq_ok (ea.trans rfl)).trans ?_
    refine (seq_skip (tb hf)).trans ?_
    have tl : dCmpT cLt (dVar 2) (dCall (g1 fLen) (dCons (dVar 0) dNil)) [some (.t (.str s)), some (.t d), some (.t (.int ((0 + n : Nat) : Int)))] μ = .ok (decide (n < s.cps.toList.length)) μ := by
      rw [lt_nat (x := 0 + n) (μ1 := μ) rfl (len_nat (s := s) (μ' := μ) rfl), Nat.zero_add]
    refine ret_ok (x := .t _) ?_
    dsimp only
    split
    · rename_i hl
      refine ifv_t (tl.trans (by rw [decide_eq_true hl])) ?_
      refine (dLst_ok (cons_ok const_ok (cons_ok (x := .t (.int ((0 + n : Nat) : Int))) (μ1 := μ) rfl rfl)) rfl (by simp)).trans ?_
      rw [Nat.zero_add]
    · rename_i hl
      exact ifv_f (tl.trans (by rw [decide_eq_false hl])) (dLst_ok (cons_ok const_ok (cons_ok (x := .t d) (μ1 := μ) rfl rfl)) rfl (by simp))

/-! ## the program's reading -/
abbrev rdF (s : Str) (a : Nat) : Fs := [("text", .str s), ("at", .int ((a : Nat) : Int))]
abbrev rdO (s : Str) (a : Nat) : O := .ins "Reading" (rdF s a)
def atZ (z : Str) (cs : Cs) : Bool := cs.head?.elim false (inZ z)
section
variable {s : Str} {r a : Nat} {μ : Mu} {δ : Sl} {o : DE}
theorem ins_rd (h : μ[r]? = some (rdO s a)) : insOf μ (.lst r) = some (("Reading" : Str), rdF s a) := by
  unfold insOf
  dsimp only
  rw [h]
theorem fld_text (ho : o δ μ = .ok (.lst r) μ) (h : μ[r]? = some (rdO s a)) : dFld "Reading" "text" o δ μ = .ok (.t (.str s)) μ := by
  unfold dFld
  rw [ho, bind_ok, ins_rd h]
  rfl
theorem fld_at (ho : o δ μ = .ok (.lst r) μ) (h : μ[r]? = some (rdO s a)) : dFld "Reading" "at" o δ μ = .ok (.t (.int (a : Nat))) μ := by
  unfold dFld
  rw [ho, bind_ok, ins_rd h]
  rfl
theorem meth_rd {m : Str} {F : DF} {as : DA} {xs : List D} {μ1 : Mu} {res : R D} (hm : (rdF s a).lookup m = none) (ho : o δ μ = .ok (.lst r) μ) (h : μ[r]? = some (rdO s a)) (ha : as δ μ = .ok xs μ1) (e : F (.lst r :: xs) μ1 = res) : dMethO "Reading" m F o as δ μ = res := by
  unfold dMethO
  rw [ho, bind_ok, ins_rd h]
  dsimp only
  rw [if_pos ⟨rfl, hm⟩, ha, bind_ok, e]
theorem step_rd (ho : o δ μ = .ok (.lst r) μ) (h : μ[r]? = some (rdO s a)) : sFldA "Reading" "at" fAddI o (dC (.int 1)) δ μ = .nx δ (μ.set r (rdO s (a + 1))) := by
  unfold sFldA
  rw [ho, toS_ok, ins_rd h]
  dsimp only
  rw [if_pos rfl, show (rdF s a).lookup ("at" : Str) = some (.int ((a : Nat) : Int)) from rfl]
  dsimp only
  rw [const_ok, toS_ok, ins_rd h]
  rfl
theorem rsign_ok (h : μ[r]? = some (rdO s a)) : F_Reading_sign [.lst r] μ = .ok (.t (.str (St ((s.cps.toList.drop a).take 1)))) μ :=
  mkF_t rfl (ret_ok (sign_at (fld_text (a := a) rfl h) (fld_at (s := s) rfl h))) rfl
theorem isat_ok {z : Str} (h : μ[r]? = some (rdO s a)) : F_Reading_is_at [.lst r, .t (.str z)] μ = .ok (.t (.bool (atZ z (s.cps.toList.drop a)))) μ := by
  refine mkF_t rfl (ret_ok ?_) rfl
  show dAndV _ _ [some (.lst r), some (.t (.str z))] μ = _
  have e := meth_rd (o := dVar 0) (δ := [some (.lst r), some (.t (.str z))]) (m := "sign") (F := F_Reading_sign) (as := dNil) rfl rfl h rfl (rsign_ok h)
  have t1 : dCmp cNe (dMethO "Reading" "sign" F_Reading_sign (dVar 0) dNil) (dC (.str "")) [some (.lst r), some (.t (.str z))] μ = .ok (.t (.bool (!decide (s.cps.toList.drop a = [])))) μ := by
    unfold dCmp
    rw [e, bind_ok, const_ok, bind_ok]
    show bval (ap2c cNe _ _ μ) = _
    unfold ap2c rd
    dsimp only
    show bval (match (some (!(St ((s.cps.toList.drop a).take 1) == ("" : Str)))) with | some b => R.ok b μ | none => R.bad) = _
    rw [sign_none]
    rfl
  by_cases hc : s.cps.toList.drop a = []
  · rw [hc] at t1
    refine (and_f (t1.trans rfl)).trans ?_
    rw [hc]
    rfl
  · refine and_t (t1.trans (by rw [decide_eq_false hc]; rfl)) ?_
    unfold dCmp
    rw [e, bind_ok]
    cases hd : s.cps.toList.drop a with
    | nil => exact absurd hd hc
    | cons c l => rfl
theorem wtake_ok {z : Str} (hr : r < μ.length) : ∀ (N a : Nat) (δ : Sl), (s.cps.toList.drop a).length < N → (∀ μ, dVar 0 δ μ = .ok (.lst r) μ) → (∀ μ, dVar 1 δ μ = .ok (.t (.str z)) μ) →
    whileN (dTru (dMethO "Reading" "is_at" F_Reading_is_at (dVar 0) (dCons (dVar 1) dNil))) (sFldA "Reading" "at" fAddI (dVar 0) (dC (.int 1))) N δ (μ.set r (rdO s a)) = .nx δ (μ.set r (rdO s (a + run (inZ z) (s.cps.toList.drop a))))
  | 0, _, _, h, _, _ => by omega
  | N + 1, a, δ, h, v0, v1 => by
    have hg : (μ.set r (rdO s a))[r]? = some (rdO s a) := List.getElem?_set_self hr
    have t : dTru (dMethO "Reading" "is_at" F_Reading_is_at (dVar 0) (dCons (dVar 1) dNil)) δ (μ.set r (rdO s a)) = .ok (atZ z (s.cps.toList.drop a)) (μ.set r (rdO s a)) :=
      tru_ok (meth_rd rfl (v0 _) hg (cons_ok (v1 _) rfl) (isat_ok hg))
    rw [whileN, t, toS_ok]
    cases hd : s.cps.toList.drop a with
    | nil =>
      rw [show atZ z [] = false from rfl, if_neg Bool.false_ne_true]
      rfl
    | cons c l =>
      have hl : s.cps.toList.drop (a + 1) = l := by rw [← List.drop_drop, hd]; rfl
      rw [run_cons]
      cases hz : inZ z c with
      | false =>
        rw [show atZ z (c :: l) = false from hz, if_neg Bool.false_ne_true]
        rfl
      | true =>
        rw [show atZ z (c :: l) = true from hz, if_pos rfl, step_rd (v0 _) hg, if_pos rfl]
        dsimp only
        rw [List.set_set, wtake_ok hr N (a + 1) δ (by rw [hl]; rw [hd, List.length_cons] at h; omega) v0 v1, hl, Nat.add_assoc, Nat.add_comm 1]
theorem set_same (h : μ[r]? = some (rdO s a)) : μ.set r (rdO s a) = μ := set_self' h
theorem rtake_ok {z : Str} (hs : s.cps.toList.length ≤ 3900) (h : μ[r]? = some (rdO s a)) : F_Reading_take [.lst r, .t (.str z)] μ = .ok (.t (.str (St ((s.cps.toList.drop a).take (run (inZ z) (s.cps.toList.drop a)))))) (μ.set r (rdO s (a + run (inZ z) (s.cps.toList.drop a)))) := by
  have hr : r < μ.length := (List.getElem?_eq_some_iff.mp h).1
  refine mkF_t rfl ?_ (by rw [List.length_set])
  refine (seq_ok (set_ok' (fld_at (s := s) rfl h))).trans ?_
  have hw := wtake_ok (s := s) (z := z) hr 4000 a [some (.lst r), some (.t (.str z)), some (.t (.int (a : Nat)))] (by rw [List.length_drop]; omega) (fun _ => rfl) (fun _ => rfl)
  rw [set_same h] at hw
  refine (seq_ok hw).trans (ret_ok ?_)
  have hg : (μ.set r (rdO s (a + run (inZ z) (s.cps.toList.drop a))))[r]? = some (rdO s (a + run (inZ z) (s.cps.toList.drop a))) := List.getElem?_set_self hr
  refine (sl_str (fld_text rfl hg) (var_of (i := 2) rfl _) (fld_at (s := s) rfl hg)).trans ?_
  rw [Nat.add_sub_cancel_left]
/-- what a reading method answers -/
def Says (r : Nat) (s : Str) (a : Nat) (μ : Mu) (p : Pr) (res : R D) : Prop := match p with
  | .ok d n => res = .ok (.t d) (μ.set r (rdO s (a + n)))
  | .bad n => ∃ x, res = .ex "Malformed" (some [("at", .int ((a + n : Nat) : Int))]) (μ.set r (rdO s x))
theorem raise_at {d : DE} {n : Int} (h : d δ μ = .ok (.t (.int n)) μ) : sRaise1 "Malformed" "at" d δ μ = .ex "Malformed" (some [("at", .int n)]) δ μ := by
  unfold sRaise1
  rw [h, toS_ok]
theorem seq_exc {A B : DS} {δ' : Sl} {μ' : Mu} {c : Str} {p : Option (List (Str × PyData))} (h : A δ μ = .ex c p δ' μ') : sSeq A B δ μ = .ex c p δ' μ' := by
  unfold sSeq
  rw [h, seq_ex]
theorem neg_ok {e : DE} {n : Int} {μ' : Mu} (h : e δ μ = .ok (.t (.int n)) μ') : dUn fNeg e δ μ = .ok (.t (.int (-n))) μ' := by
  unfold dUn
  rw [h, bind_ok]
  rfl
end

/-! ## the program's reading: whole numbers -/
section
variable {s : Str} {r a : Nat} {μ : Mu}
abbrev Mr (μ : Mu) (r : Nat) (s : Str) (a : Nat) : Mu := μ.set r (rdO s a)
theorem Mr_get (h : μ[r]? = some (rdO s a)) (b : Nat) : (Mr μ r s b)[r]? = some (rdO s b) := List.getElem?_set_self (List.getElem?_eq_some_iff.mp h).1
theorem Mr_Mr (b c : Nat) : Mr (Mr μ r s b) r s c = Mr μ r s c := List.set_set ..
theorem Mr_len (b : Nat) : (Mr μ r s b).length = μ.length := List.length_set ..
theorem isat_here {z : Str} {b : Nat} (h : μ[r]? = some (rdO s a)) {δ : Sl} {o c : DE} (ho : ∀ μ, o δ μ = .ok (.lst r) μ) (hc : ∀ μ, c δ μ = .ok (.t (.str z)) μ) : dMethO "Reading" "is_at" F_Reading_is_at o (dCons c dNil) δ (Mr μ r s b) = .ok (.t (.bool (atZ z (s.cps.toList.drop b)))) (Mr μ r s b) :=
  meth_rd rfl (ho _) (Mr_get h b) (cons_ok (hc _) rfl) (isat_ok (Mr_get h b))
theorem at_sign (c : Nat) (z : Str) (hz : z = ⟨#[c]⟩) (cs : Cs) : atZ z cs = decide (cs.head? = some c) := by
  subst hz
  cases cs with
  | nil => rfl
  | cons d l =>
    unfold atZ inZ
    show decide (d ∈ [c]) = _
    by_cases h : d = c
    · rw [decide_eq_true (by simp [h]), decide_eq_true (by simp [h])]
    · rw [decide_eq_false (by simp [h]), decide_eq_false (by simp [h])]
theorem run_zero {z : Str} (cs : Cs) : (run (inZ z) cs = 0) ↔ atZ z cs = false := by
  cases cs with
  | nil => exact ⟨fun _ => rfl, fun _ => rfl⟩
  | cons c l =>
    rw [run_cons]
    show _ ↔ inZ z c = false
    cases inZ z c <;> simp
theorem rint_ok (hs : s.cps.toList.length ≤ 3900) (h : μ[r]? = some (rdO s a)) : Says r s a μ (pInt (s.cps.toList.drop a)) (F_Reading_integer [.lst r] μ) := by
  have h0 : Mr μ r s a = μ := set_self' h
  generalize hm : (if (s.cps.toList.drop a).head? = some 45 then 1 else 0) = m
  rw [pInt_eq hm]
  have em : (s.cps.toList.drop a).drop m = s.cps.toList.drop (a + m) := by rw [List.drop_drop]
  rw [em]
  -- the beginning
  have t0 : dMethO "Reading" "is_at" F_Reading_is_at (dVar 0) (dCons (dC (.str "-")) dNil) [some (.lst r), none, none, none, none] μ = .ok (.t (.bool (decide (m = 1)))) μ := by
    have := isat_here (z := "-") (b := a) h (δ := [some (.lst r), none, none, none, none]) (o := dVar 0) (c := dC (.str "-")) (fun _ => rfl) (fun _ => rfl)
    rw [h0, at_sign 45 "-" rfl] at this
    rw [this]
    congr 4
    rw [← hm]
    split <;> simp_all
  have key : ∀ res : RS, b_Reading_integer [some (.lst r), none, none, none, none] μ = res → (∀ {x δ' c p μ'}, res = .rt x μ' ∨ res = .ex c p δ' μ' → μ'.length = μ.length) → (match res with
    | .rt (.t x) μ' => F_Reading_integer [.lst r] μ = .ok (.t x) μ'
    | .ex c p _ μ' => F_Reading_integer [.lst r] μ = .ex c p μ'
    | _ => True) := by
    intro res e hl
    split
    · exact mkF_t rfl e (hl (x := .t _) (δ' := []) (c := "") (p := none) (.inl rfl))
    · exact mkF_ex rfl e (hl (x := .t .none) (.inr rfl))
    · trivial
  have begin' : b_Reading_integer [some (.lst r), none, none, none, none] μ = (sSeq (sSet 2 ((dFld "Reading" "at" (dVar 0))))
  (sSeq (sIf ((dOrT ((dNotT ((dTru ((dMethO "Reading" "is_at" F_Reading_is_at (dVar 0) (dCons (dC (.str "0123456789")) dNil))))))) ((dAndT ((dTru (dVar 1))) ((dTru ((dMethO "Reading" "is_at" F_Reading_is_at (dVar 0) (dCons (dC (.str "0")) dNil))))))))) (sRaise1 "Malformed" "at" ((dFld "Reading" "at" (dVar 0)))) sSkip)
  (sSeq (sSet 3 ((dMethO "Reading" "is_at" F_Reading_is_at (dVar 0) (dCons (dC (.str "0")) dNil))))
  (sSeq (sSet 4 ((dMethO "Reading" "take" F_Reading_take (dVar 0) (dCons (dC (.str "0123456789")) dNil))))
  (sSeq (sIf ((dAndT ((dTru (dVar 3))) ((dCmpT cGt ((dCall (g1 fLen) (dCons (dVar 4) dNil))) (dC (.int 1)))))) (sRaise1 "Malformed" "at" ((dAdd false (dVar 2) (dC (.int 1))))) sSkip)
  (sSeq (sIf ((dCmpT cGt ((dCall (g1 fLen) (dCons (dVar 4) dNil))) (dC (.int 20)))) (sRaise1 "Malformed" "at" ((dAdd false (dVar 2) (dC (.int 20))))) sSkip)
  (sRet ((dIf ((dTru (dVar 1))) ((dUn fNeg ((dCall (g1 fInt) (dCons (dVar 4) dNil))))) ((dCall (g1 fInt) (dCons (dVar 4) dNil)))))))))))) [some (.lst r), some (.t (.bool (decide (m = 1)))), none, none, none] (Mr μ r s (a + m)) := by
    refine (seq_ok (set_ok' t0)).trans ?_
    have tm : dTru (dVar 1) [some (.lst r), some (.t (.bool (decide (m = 1)))), none, none, none] μ = .ok (decide (m = 1)) μ := tru_ok rfl
    by_cases h1 : m = 1
    · exact seq_ok ((if_te tm (decide_eq_true h1)).trans ((step_rd rfl h).trans (by rw [h1])))
    · have hz : m = 0 := by rw [← hm] at h1 ⊢; split <;> simp_all
      refine (seq_ok ((if_fe tm (decide_eq_false h1)).trans rfl)).trans ?_
      rw [hz, Nat.add_zero, h0]
  -- where we stand
  generalize hδ : ([some (.lst r), some (.t (.bool (decide (m = 1)))), none, none, none] : Sl) = δ at begin'
  have g1' := Mr_get h (a + m)
  have e2 : ∀ {B : DS}, sSeq (sSet 2 (dFld "Reading" "at" (dVar 0))) B δ (Mr μ r s (a + m)) = B (δ.set 2 (some (.t (.int ((a + m : Nat) : Int))))) (Mr μ r s (a + m)) := fun {B} => seq_ok (set_ok' (fld_at (s := s) (by rw [← hδ]; rfl) g1'))
  generalize hcs : s.cps.toList.drop (a + m) = cs at *
  have t1 : dOrT ((dNotT ((dTru ((dMethO "Reading" "is_at" F_Reading_is_at (dVar 0) (dCons (dC (.str "0123456789")) dNil))))))) ((dAndT ((dTru (dVar 1))) ((dTru ((dMethO "Reading" "is_at" F_Reading_is_at (dVar 0) (dCons (dC (.str "0")) dNil))))))) (δ.set 2 (some (.t (.int ((a + m : Nat) : Int))))) (Mr μ r s (a + m)) = .ok (decide (run (inZ FIG) cs = 0 ∨ (m = 1 ∧ cs.head? = some 48))) (Mr μ r s (a + m)) := by
    have i1 := isat_here (z := FIG) (b := a + m) h (δ := δ.set 2 (some (.t (.int ((a + m : Nat) : Int))))) (o := dVar 0) (c := dC (.str FIG)) (fun _ => by rw [← hδ]; rfl) (fun _ => rfl)
    have i2 := isat_here (z := "0") (b := a + m) h (δ := δ.set 2 (some (.t (.int ((a + m : Nat) : Int))))) (o := dVar 0) (c := dC (.str "0")) (fun _ => by rw [← hδ]; rfl) (fun _ => rfl)
    rw [hcs] at i1 i2
    rw [at_sign 48 "0" rfl] at i2
    by_cases hz : run (inZ FIG) cs = 0
    · rw [decide_eq_true (.inl hz)]
      exact or_t ((not_ok (tru_ok i1)).trans (by rw [(run_zero cs).mp hz]; rfl))
    · have hz2 : atZ FIG cs = true := by
        cases hq : atZ FIG cs with
        | true => rfl
        | false => exact absurd ((run_zero cs).mpr hq) hz
      refine or_f ((not_ok (tru_ok i1)).trans (by rw [hz2]; rfl)) ?_
      have tm : dTru (dVar 1) (δ.set 2 (some (.t (.int ((a + m : Nat) : Int))))) (Mr μ r s (a + m)) = .ok (decide (m = 1)) (Mr μ r s (a + m)) := tru_ok (by rw [← hδ]; rfl)
      by_cases h1 : m = 1
      · refine (andT_t (tm.trans (by rw [decide_eq_true h1])) (tru_ok i2)).trans ?_
        congr 1
        exact decide_eq_decide.mpr ⟨fun q => .inr ⟨h1, q⟩, fun q => q.elim (fun z => absurd z hz) (·.2)⟩
      · rw [decide_eq_false (fun q => q.elim hz fun z => h1 z.1)]
        exact andT_f (tm.trans (by rw [decide_eq_false h1]))
  by_cases hb : run (inZ FIG) cs = 0 ∨ (m = 1 ∧ cs.head? = some 48)
  · have e := key _ (begin'.trans (e2.trans (seq_exc ((if_te t1 (decide_eq_true hb)).trans (raise_at (fld_at (s := s) (by rw [← hδ]; rfl) g1')))))) (by rintro _ _ _ _ _ (h | h) <;> cases h; exact Mr_len _)
    have e : F_Reading_integer [.lst r] μ = _ := e
    rw [e]
    by_cases h1 : m = 1 ∧ cs.head? = some 48
    · rw [if_pos h1]
      exact ⟨a + m, by rw [h1.1]⟩
    · have hz : run (inZ FIG) cs = 0 := hb.elim id fun z => absurd z h1
      rw [if_neg h1, if_pos hz]
      exact ⟨a + m, rfl⟩
  · have hz : run (inZ FIG) cs ≠ 0 := fun q => hb (.inl q)
    have h1 : ¬ (m = 1 ∧ cs.head? = some 48) := fun q => hb (.inr q)
    rw [if_neg h1, if_neg hz]
    have s1 := begin'.trans (e2.trans (seq_skip (t1.trans (by rw [decide_eq_false hb]))))
    have i2 := isat_here (z := "0") (b := a + m) h (δ := δ.set 2 (some (.t (.int ((a + m : Nat) : Int))))) (o := dVar 0) (c := dC (.str "0")) (fun _ => by rw [← hδ]; rfl) (fun _ => rfl)
    rw [hcs, at_sign 48 "0" rfl] at i2
    have s2 := s1.trans (seq_ok (set_ok' i2))
    have tk := rtake_ok (z := FIG) hs g1'
    rw [hcs] at tk
    have s3 := s2.trans (seq_ok (set_ok' (meth_rd rfl (by rw [← hδ]; rfl) g1' (cons_ok (const_ok (p := .str FIG)) rfl) tk)))
    rw [show List.set (Mr μ r s (a + m)) r (rdO s (a + m + run (inZ FIG) cs)) = Mr μ r s (a + m + run (inZ FIG) cs) from List.set_set ..] at s3
    generalize hn : run (inZ FIG) cs = n at *
    have hl : ((cs.take n).length = n) := by have := run_le (inZ FIG) cs; rw [List.length_take]; omega
    have hd : ∀ c ∈ cs.take n, inZ FIG c = true := by rw [← hn]; exact run_all
    have hne : cs.take n ≠ [] := fun z => by rw [z] at hl; simp at hl; omega
    generalize hδ3 : List.set (List.set (List.set δ 2 _) 3 _) 4 _ = δ3 at s3
    have v1 : ∀ μ, dVar 1 δ3 μ = .ok (.t (.bool (decide (m = 1)))) μ := fun μ => by rw [← hδ3, ← hδ]; rfl
    have v2 : ∀ μ, dVar 2 δ3 μ = .ok (.t (.int ((a + m : Nat) : Int))) μ := fun μ => by rw [← hδ3, ← hδ]; rfl
    have v3 : ∀ μ, dVar 3 δ3 μ = .ok (.t (.bool (decide (cs.head? = some 48)))) μ := fun μ => by rw [← hδ3, ← hδ]; rfl
    have v4 : ∀ μ, dVar 4 δ3 μ = .ok (.t (.str (St (cs.take n)))) μ := fun μ => by rw [← hδ3, ← hδ]; rfl
    clear hδ3
    have ln : ∀ μ, dCall (g1 fLen) (dCons (dVar 4) dNil) δ3 μ = .ok (.t (.int (n : Nat))) μ := fun μ => (len_nat (v4 μ)).trans (by rw [show (St (cs.take n)).cps.toList = cs.take n from rfl, hl])
    by_cases h0' : cs.head? = some 48 ∧ 1 < n
    · rw [if_pos h0']
      have t4 : dAndT (dTru (dVar 3)) (dCmpT cGt (dCall (g1 fLen) (dCons (dVar 4) dNil)) (dC (.int 1))) δ3 (Mr μ r s (a + m + n)) = .ok true (Mr μ r s (a + m + n)) :=
        andT_t ((tru_ok (v3 _)).trans (by rw [decide_eq_true h0'.1])) ((gt_nat (ln _) one_ok).trans (by rw [decide_eq_true h0'.2]))
      have e := key _ (s3.trans (seq_exc ((if_t t4).trans (raise_at (add_nat (v2 _) one_ok))))) (by rintro _ _ _ _ _ (h | h) <;> cases h; exact Mr_len _)
      have e : F_Reading_integer [.lst r] μ = _ := e
      rw [e]
      exact ⟨a + m + n, by rw [Nat.add_assoc a m 1]⟩
    · rw [if_neg h0']
      have t4 : dAndT (dTru (dVar 3)) (dCmpT cGt (dCall (g1 fLen) (dCons (dVar 4) dNil)) (dC (.int 1))) δ3 (Mr μ r s (a + m + n)) = .ok false (Mr μ r s (a + m + n)) := by
        by_cases h48 : cs.head? = some 48
        · exact andT_t ((tru_ok (v3 _)).trans (by rw [decide_eq_true h48])) ((gt_nat (ln _) one_ok).trans (by rw [decide_eq_false (fun q => h0' ⟨h48, q⟩)]))
        · exact andT_f ((tru_ok (v3 _)).trans (by rw [decide_eq_false h48]))
      have s4 := s3.trans (seq_skip t4)
      have t5 := gt_nat (y := 20) (ln (Mr μ r s (a + m + n))) (show dC (.int 20) δ3 _ = .ok (.t (.int ((20 : Nat) : Int))) _ from rfl)
      by_cases h20 : 20 < n
      · rw [if_pos h20]
        have e := key _ (s4.trans (seq_exc ((if_te t5 (decide_eq_true h20)).trans (raise_at (add_nat (y := 20) (v2 _) rfl))))) (by rintro _ _ _ _ _ (h | h) <;> cases h; exact Mr_len _)
        have e : F_Reading_integer [.lst r] μ = _ := e
        rw [e]
        exact ⟨a + m + n, by rw [Nat.add_assoc a m 20]⟩
      · rw [if_neg h20]
        have ti : dCall (g1 fInt) (dCons (dVar 4) dNil) δ3 (Mr μ r s (a + m + n)) = .ok (.t (.int ((dv (cs.take n) : Nat) : Int))) (Mr μ r s (a + m + n)) := by
          refine call1_ok (v4 _) ?_
          unfold g1 ap1 rd
          dsimp only
          rw [int_pos hd hne (by omega)]
        have tr : dIf (dTru (dVar 1)) (dUn fNeg (dCall (g1 fInt) (dCons (dVar 4) dNil))) (dCall (g1 fInt) (dCons (dVar 4) dNil)) δ3 (Mr μ r s (a + m + n)) = .ok (.t (.int (if m = 1 then -((dv (cs.take n) : Nat) : Int) else ((dv (cs.take n) : Nat) : Int)))) (Mr μ r s (a + m + n)) := by
          split
          · rename_i hm1
            exact ifv_t ((tru_ok (v1 _)).trans (by rw [decide_eq_true hm1])) (neg_ok ti)
          · rename_i hm1
            exact ifv_f ((tru_ok (v1 _)).trans (by rw [decide_eq_false hm1])) ti
        have e := key _ (s4.trans ((seq_skip (t5.trans (by rw [decide_eq_false h20]))).trans (ret_ok tr))) (by rintro _ _ _ _ _ (h | h) <;> cases h; exact Mr_len _)
        have e : F_Reading_integer [.lst r] μ = _ := e
        rw [e]
        show _ = R.ok _ (Mr μ r s (a + (m + n)))
        rw [Nat.add_assoc]
end

/-! ## the program's reading: terms -/
section
variable {s : Str} {r a : Nat} {μ : Mu}
def SaysB (r : Nat) (s : Str) (a : Nat) (μ : Mu) (p : Pr) (res : RS) : Prop := match p with
  | .ok d n => res = .rt (.t d) (Mr μ r s (a + n))
  | .bad n => ∃ x δ', res = .ex "Malformed" (some [("at", .int ((a + n : Nat) : Int))]) δ' (Mr μ r s x)
theorem says_mk {n m : Nat} {b : DS} {args : List D} {p : Pr} (hn : args.length = n) (h : SaysB r s a μ p (b (args.map some ++ List.replicate m none) μ)) : Says r s a μ p (mkF n m false b args μ) := by
  cases p with
  | ok d k => exact mkF_t hn h (Mr_len _)
  | bad k =>
    obtain ⟨x, δ', e⟩ := h
    exact ⟨x, mkF_ex hn e (Mr_len _)⟩
theorem says_ret {e : DE} {δ : Sl} {p : Pr} (h : Says r s a μ p (e δ μ)) : SaysB r s a μ p (sRet e δ μ) := by
  cases p with
  | ok d k => exact ret_ok h
  | bad k =>
    obtain ⟨x, h⟩ := h
    refine ⟨x, δ, ?_⟩
    unfold sRet
    rw [h, toS_ex]
theorem saysB_seq {A B : DS} {δ : Sl} {p : Pr} (h : SaysB r s a μ p (A δ μ)) : SaysB r s a μ p (sSeq A B δ μ) := by
  cases p with
  | ok d k => exact seq_out h
  | bad k =>
    obtain ⟨x, δ', h⟩ := h
    exact ⟨x, δ', seq_exc h⟩
theorem saysB_of {p : Pr} {x y : RS} (e : x = y) (h : SaysB r s a μ p y) : SaysB r s a μ p x := by rw [e]; exact h
theorem says_by {p : Pr} {k : Nat} {res : R D} (h : Says r s (a + k) μ p res) : Says r s a μ (p.by k) res := by
  cases p with
  | ok d n => exact h.trans (by rw [Nat.add_assoc])
  | bad n =>
    obtain ⟨x, h⟩ := h
    exact ⟨x, h.trans (by rw [Nat.add_assoc])⟩
theorem rterm_body {RT : Nat → DF} {EN : DF} {n d k : Nat} (hs : s.cps.toList.length ≤ 3900) (h : μ[r]? = some (rdO s a))
    (he : (s.cps.toList.drop a).head? = some 40 → d ≠ 12 → Says r s (a + 1) μ (pEnts (pT k (d + 1)) (s.cps.toList.drop a).length [] (s.cps.toList.drop (a + 1))) (EN [.lst r, .t (.int ((d + 1 : Nat) : Int))] μ)) :
    Says r s a μ (pT (k + 1) d (s.cps.toList.drop a)) (mkF 2 1 false (b_Reading_term RT (fun _ => EN) n) [.lst r, .t (.int (d : Nat))] μ) := by
  refine says_mk rfl ?_
  show SaysB r s a μ _ (b_Reading_term RT (fun _ => EN) n [some (.lst r), some (.t (.int (d : Nat))), none] μ)
  have h0 : Mr μ r s a = μ := set_self' h
  have ia : ∀ z, dMethO "Reading" "is_at" F_Reading_is_at (dVar 0) (dCons (dC (.str z)) dNil) [some (.lst r), some (.t (.int (d : Nat))), none] μ = .ok (.t (.bool (atZ z (s.cps.toList.drop a)))) μ := fun z => by
    have := isat_here (z := z) (b := a) h (δ := [some (.lst r), some (.t (.int (d : Nat))), none]) (o := dVar 0) (c := dC (.str z)) (fun _ => rfl) (fun _ => rfl)
    rw [h0] at this
    exact this
  rw [pT]
  have t1 := tru_ok (ia "(")
  rw [at_sign 40 "(" rfl] at t1
  by_cases h1 : (s.cps.toList.drop a).head? = some 40
  · rw [if_pos h1]
    refine saysB_seq (saysB_of (if_te t1 (decide_eq_true h1)) ?_)
    have t2 := eq_nat (y := 12) (δ := [some (.lst r), some (.t (.int (d : Nat))), none]) (a := dVar 1) (μ := μ) rfl (show dC (.int 12) [some (.lst r), some (.t (.int (d : Nat))), none] μ = .ok (.t (.int ((12 : Nat) : Int))) μ from rfl)
    by_cases h2 : d = 12
    · rw [if_pos h2]
      exact ⟨a, _, (seq_exc ((if_te t2 (decide_eq_true h2)).trans (raise_at (fld_at (s := s) rfl h)))).trans (by rw [h0]; rfl)⟩
    · rw [if_neg h2]
      refine saysB_of (seq_skip (t2.trans (by rw [decide_eq_false h2]))) (says_ret (says_by ?_))
      rw [meth_rd (m := "entries") rfl rfl h (cons_ok (add_nat (x := d) rfl one_ok) rfl) rfl, List.drop_drop]
      exact he h1 h2
  · rw [if_neg h1]
    refine saysB_of (seq_skip (t1.trans (by rw [decide_eq_false h1]))) ?_
    have t3 := tru_ok (ia ".")
    rw [at_sign 46 "." rfl] at t3
    by_cases h3 : (s.cps.toList.drop a).head? = some 46
    · rw [if_pos h3]
      exact seq_out ((if_te t3 (decide_eq_true h3)).trans ((seq_ok (step_rd rfl h)).trans (ret_ok rfl)))
    · rw [if_neg h3]
      refine saysB_of (seq_skip (t3.trans (by rw [decide_eq_false h3]))) ?_
      have t5 := tru_ok (ia LOW)
      by_cases h5 : (s.cps.toList.drop a).head?.elim false (inZ LOW) = true
      · rw [if_pos h5]
        refine seq_out ((if_te t5 h5).trans ?_)
        have tk := rtake_ok (z := LOW) hs h
        refine (seq_ok (set_ok' (meth_rd (m := "take") rfl rfl h (cons_ok (const_ok (p := .str LOW)) rfl) tk))).trans (ret_ok ?_)
        show dIf _ _ _ _ (Mr μ r s (a + run (inZ LOW) (s.cps.toList.drop a))) = R.ok _ (Mr μ r s (a + run (inZ LOW) (s.cps.toList.drop a)))
        generalize Mr μ r s (a + run (inZ LOW) (s.cps.toList.drop a)) = μ2
        have v2 : dVar 2 ([some (.lst r), some (.t (.int (d : Nat))), some (.t (.str (St ((s.cps.toList.drop a).take (run (inZ LOW) (s.cps.toList.drop a))))))]) μ2 = .ok (.t (.str (St ((s.cps.toList.drop a).take (run (inZ LOW) (s.cps.toList.drop a)))))) μ2 := rfl
        have tw := eqs_ok (c := "none") v2
        unfold wordOf
        split
        · rename_i hw
          exact ifv_t (μ' := μ2) (tw.trans (by rw [beq_iff_eq.mpr hw])) rfl
        · rename_i hw
          exact ifv_f (μ' := μ2) (tw.trans (by rw [beq_eq_false_iff_ne.mpr hw])) v2
      · rw [if_neg h5]
        have hz5 : atZ LOW (s.cps.toList.drop a) = false := Bool.eq_false_iff.mpr h5
        rw [hz5] at t5
        refine saysB_of (seq_skip t5) (says_ret ?_)
        rw [meth_rd (m := "integer") rfl rfl h rfl rfl]
        exact rint_ok hs h
theorem cons_exc {a : DE} {q : DA} {δ : Sl} {μ1 μ' : Mu} {c : Str} {p : Option (List (Str × PyData))} (h : a δ μ1 = .ex c p μ') : dCons a q δ μ1 = .ex c p μ' := by
  unfold dCons
  rw [h, bind_ex]
abbrev Me (μ : Mu) (r : Nat) (s : Str) (b : Nat) (found : List PyData) : Mu := Mr μ r s b ++ [.l found]
abbrev rentS (RT : DF) : DS := (sSeq (sIf ((dTru (dVar 2))) (sSeq (sIf ((dNotT ((dTru ((dMethO "Reading" "is_at" F_Reading_is_at (dVar 0) (dCons (dC (.str " ")) dNil))))))) (sRaise1 "Malformed" "at" ((dFld "Reading" "at" (dVar 0)))) sSkip)
  (sFldA "Reading" "at" fAddI (dVar 0) (dC (.int 1)))) sSkip)
  (sExpr ((dMeth isL gAppend (dVar 2) (dCons ((dMethO "Reading" "term" RT (dVar 0) (dCons (dVar 1) dNil))) dNil)))))
abbrev rentC : DT := (dNotT ((dTru ((dMethO "Reading" "is_at" F_Reading_is_at (dVar 0) (dCons (dC (.str ")")) dNil))))))
def LoopSays (r : Nat) (s : Str) (b : Nat) (μ : Mu) (δ : Sl) (p : Pr) (res : RS) : Prop := match p with
  | .ok x n => ∃ f' m, n = m + 1 ∧ x = .tuple f' ∧ res = .nx δ (Me μ r s (b + m) f')
  | .bad n => ∃ y f', res = .ex "Malformed" (some [("at", .int ((b + n : Nat) : Int))]) δ (Me μ r s y f')
theorem loop_by {b k : Nat} {δ : Sl} {p : Pr} {res : RS} (h : LoopSays r s (b + k) μ δ p res) : LoopSays r s b μ δ (p.by k) res := by
  cases p with
  | ok x n =>
    obtain ⟨f', m, e1, e2, e3⟩ := h
    exact ⟨f', k + m, by omega, e2, e3.trans (by rw [Nat.add_assoc])⟩
  | bad n =>
    obtain ⟨y, f', e⟩ := h
    exact ⟨y, f', e.trans (by rw [Nat.add_assoc])⟩
theorem rent_loop {RT : DF} {rd' : Cs → Pr} {d : Nat} (h : μ[r]? = some (rdO s a)) (hr : ∀ cs, Eats (rd' cs) cs) (hrd : ∀ b μ', μ'[r]? = some (rdO s b) → Says r s b μ' (rd' (s.cps.toList.drop b)) (RT [.lst r, .t (.int (d : Nat))] μ')) :
    ∀ (N t : Nat) (found : List PyData) (b : Nat), (s.cps.toList.drop b).length < N → (s.cps.toList.drop b).length < t → found.length + N ≤ 9000 →
    LoopSays r s b μ [some (.lst r), some (.t (.int (d : Nat))), some (.lst μ.length)] (pEnts rd' t found (s.cps.toList.drop b)) (whileN rentC (rentS RT) N [some (.lst r), some (.t (.int (d : Nat))), some (.lst μ.length)] (Me μ r s b found))
  | 0, _, _, _, hN, _, _ => by omega
  | _, 0, _, _, _, hN, _ => by omega
  | N + 1, t + 1, found, b, hN, ht, hz => by
    have hr' : r < μ.length := (List.getElem?_eq_some_iff.mp h).1
    have hg : ∀ b found, (Me μ r s b found)[r]? = some (rdO s b) := fun b found => by
      show (Mr μ r s b ++ [O.l found])[r]? = _
      rw [List.getElem?_append_left (by rw [Mr_len]; exact hr')]
      exact List.getElem?_set_self hr'
    have hset : ∀ b c found, (Me μ r s b found).set r (rdO s c) = Me μ r s c found := fun b c found => by
      show (Mr μ r s b ++ [O.l found]).set r _ = _
      rw [List.set_append_left _ _ (by rw [Mr_len]; exact hr'), show List.set (Mr μ r s b) r (rdO s c) = Mr μ r s c from List.set_set ..]
    generalize hδ : ([some (.lst r), some (.t (.int (d : Nat))), some (.lst μ.length)] : Sl) = δ
    have v0 : ∀ μ, dVar 0 δ μ = .ok (.lst r) μ := fun _ => by rw [← hδ]; rfl
    have v1 : ∀ μ, dVar 1 δ μ = .ok (.t (.int (d : Nat))) μ := fun _ => by rw [← hδ]; rfl
    have v2 : ∀ μ', dVar 2 δ μ' = .ok (.lst μ.length) μ' := fun _ => by rw [← hδ]; rfl
    have ia : ∀ z b found, dMethO "Reading" "is_at" F_Reading_is_at (dVar 0) (dCons (dC (.str z)) dNil) δ (Me μ r s b found) = .ok (.t (.bool (atZ z (s.cps.toList.drop b)))) (Me μ r s b found) := fun z b found =>
      meth_rd rfl (v0 _) (hg b found) (cons_ok const_ok rfl) (isat_ok (hg b found))
    have tc := not_ok (tru_ok (ia ")" b found))
    rw [at_sign 41 ")" rfl] at tc
    have tc : rentC δ (Me μ r s b found) = .ok (!decide ((s.cps.toList.drop b).head? = some 41)) (Me μ r s b found) := tc
    rw [whileN, tc, toS_ok]
    by_cases h1 : (s.cps.toList.drop b).head? = some 41
    · rw [pEnts, if_pos h1, decide_eq_true h1, if_neg (by decide)]
      exact ⟨found, 0, rfl, rfl, rfl⟩
    · rw [decide_eq_false h1, if_pos (show (!false) = true from rfl)]
      have tt : dTru (dVar 2) δ (Me μ r s b found) = .ok (!found.isEmpty) (Me μ r s b found) := by
        unfold dTru
        rw [v2, bind_ok]
        have := rd_end (μ := Mr μ r s b) (xs := found)
        rw [Mr_len] at this
        unfold apT
        rw [this]
        rfl
      -- a term is read at c
      have go : ∀ (c k : Nat), c = b + k → (∀ {n}, rd' (s.cps.toList.drop c) = .bad n → pEnts rd' (t + 1) found (s.cps.toList.drop b) = .bad (k + n)) → (∀ {e n}, rd' (s.cps.toList.drop c) = .ok e n → pEnts rd' (t + 1) found (s.cps.toList.drop b) = (pEnts rd' t (found ++ [e]) (s.cps.toList.drop (b + (k + n)))).by (k + n)) →
        rentS RT δ (Me μ r s b found) = sExpr ((dMeth isL gAppend (dVar 2) (dCons ((dMethO "Reading" "term" RT (dVar 0) (dCons (dVar 1) dNil))) dNil))) δ (Me μ r s c found) →
        LoopSays r s b μ δ (pEnts rd' (t + 1) found (s.cps.toList.drop b)) (match rentS RT δ (Me μ r s b found) with
          | .nx δ2 μ2 => whileN rentC (rentS RT) N δ2 μ2
          | .ct δ2 μ2 => whileN rentC (rentS RT) N δ2 μ2
          | .bk δ2 μ2 => .nx δ2 μ2
          | r => r) := by
        intro c k hc q1 q2 hS
        rw [hS]
        have sy := hrd c (Me μ r s c found) (hg c found)
        have em : dMethO "Reading" "term" RT (dVar 0) (dCons (dVar 1) dNil) δ (Me μ r s c found) = RT [.lst r, .t (.int (d : Nat))] (Me μ r s c found) := meth_rd rfl (v0 _) (hg c found) (cons_ok (v1 _) rfl) rfl
        have hl : ∀ b found, rdIs isL (Me μ r s b found) (.lst μ.length) = true := fun b found => by
          have := rd_end (μ := Mr μ r s b) (xs := found)
          rw [Mr_len] at this
          unfold rdIs
          rw [this]
          rfl
        cases hp : rd' (s.cps.toList.drop c) with
        | bad n =>
          rw [hp] at sy
          obtain ⟨x, ex⟩ := sy
          rw [hset] at ex
          have e1 : sExpr ((dMeth isL gAppend (dVar 2) (dCons ((dMethO "Reading" "term" RT (dVar 0) (dCons (dVar 1) dNil))) dNil))) δ (Me μ r s c found) = .ex "Malformed" (some [("at", .int ((c + n : Nat) : Int))]) δ (Me μ r s x found) := by
            unfold sExpr dMeth
            rw [v2, bind_ok, if_pos (hl c found)]
            rw [cons_exc (em.trans ex), bind_ex, toS_ex]
          rw [e1, q1 hp]
          exact ⟨x, found, by rw [hc, Nat.add_assoc]⟩
        | ok e n =>
          rw [hp] at sy
          have ex : RT [.lst r, .t (.int (d : Nat))] (Me μ r s c found) = .ok (.t e) (Me μ r s (c + n) found) := sy.trans (by rw [hset])
          have e1 : sExpr ((dMeth isL gAppend (dVar 2) (dCons ((dMethO "Reading" "term" RT (dVar 0) (dCons (dVar 1) dNil))) dNil))) δ (Me μ r s c found) = .nx δ (Me μ r s (c + n) (found ++ [e])) := by
            unfold sExpr dMeth
            rw [v2, bind_ok, if_pos (hl c found), cons_ok (em.trans ex) rfl, bind_ok]
            have : (Me μ r s (c + n) found)[μ.length]? = some (.l found) := by
              show (Mr μ r s (c + n) ++ [O.l found])[μ.length]? = _
              rw [List.getElem?_append_right (by rw [Mr_len]; exact Nat.le_refl _), Mr_len, Nat.sub_self]
              rfl
            rw [append_ok this (Nat.lt_of_lt_of_le (show found.length < 9001 by omega) (by rw [sizeLine_eq]; decide)), toS_ok]
            congr 1
            show (Mr μ r s (c + n) ++ [O.l found]).set μ.length _ = _
            rw [List.set_append_right _ _ (by rw [Mr_len]; exact Nat.le_refl _), Mr_len, Nat.sub_self]
            rfl
          rw [e1, q2 hp]
          dsimp only
          have hea := hr _ _ _ hp
          rw [List.length_drop] at hea hN ht
          have ih := rent_loop h hr hrd N t (found ++ [e]) (b + (k + n)) (by rw [List.length_drop]; omega) (by rw [List.length_drop]; omega) (by rw [List.length_append, List.length_singleton]; omega)
          rw [hδ] at ih
          refine loop_by ?_
          rw [show c + n = b + (k + n) by omega]
          exact ih
      by_cases h2 : found = []
      · subst h2
        refine go b 0 rfl ?_ ?_ (seq_skip (tt.trans rfl))
        · intro n hp
          rw [pEnts, if_neg h1, if_neg (by simp), if_pos rfl]
          dsimp only
          rw [List.drop_zero, hp]
        · intro e n hp
          rw [pEnts, if_neg h1, if_neg (by simp), if_pos rfl]
          dsimp only
          rw [List.drop_zero, hp]
          dsimp only
          rw [List.drop_drop]
      · have tt2 : (!found.isEmpty) = true := by cases found with | nil => exact absurd rfl h2 | cons _ _ => rfl
        rw [tt2] at tt
        have t3 := not_ok (tru_ok (ia " " b found))
        rw [at_sign 32 " " rfl] at t3
        by_cases h3 : (s.cps.toList.drop b).head? = some 32
        · refine go (b + 1) 1 rfl ?_ ?_ (seq_ok ((if_t tt).trans ((seq_skip (t3.trans (by rw [decide_eq_true h3]; rfl))).trans ((step_rd (v0 _) (hg b found)).trans (by rw [hset])))))
          · intro n hp
            rw [pEnts, if_neg h1, if_neg (by simp [h3]), if_neg h2]
            dsimp only
            rw [List.drop_drop, hp]
          · intro e n hp
            rw [pEnts, if_neg h1, if_neg (by simp [h3]), if_neg h2]
            dsimp only
            rw [List.drop_drop, hp]
            dsimp only
            rw [List.drop_drop]
        · have e1 : rentS RT δ (Me μ r s b found) = .ex "Malformed" (some [("at", .int ((b : Nat) : Int))]) δ (Me μ r s b found) :=
            seq_exc ((if_t tt).trans (seq_exc ((if_te t3 (by rw [decide_eq_false h3]; rfl)).trans (raise_at (fld_at (s := s) (v0 _) (hg b found))))))
          rw [e1, pEnts, if_neg h1, if_pos ⟨h2, h3⟩]
          exact ⟨b, found, rfl⟩
theorem rterm_ok {s : Str} (hs : s.cps.toList.length ≤ 3900) : ∀ (k d n : Nat), d + k = 12 → 2 * k + 1 ≤ n → ∀ (r a : Nat) (μ : Mu), μ[r]? = some (rdO s a) → Says r s a μ (pT (k + 1) d (s.cps.toList.drop a)) (F_Reading_term n [.lst r, .t (.int (d : Nat))] μ)
  | _, _, 0, _, h, _, _, _, _ => by omega
  | 0, d, n + 1, hd, hn, r, a, μ, hμ => by
    rw [F_Reading_term]
    exact rterm_body hs hμ fun _ h => absurd (by omega) h
  | k + 1, d, 1, hd, hn, r, a, μ, hμ => by omega
  | k + 1, d, n + 2, hd, hn, r, a, μ, hμ => by
    rw [F_Reading_term]
    refine rterm_body hs hμ fun h40 _ => ?_
    rw [F_Reading_entries]
    have hr' : r < μ.length := (List.getElem?_eq_some_iff.mp hμ).1
    have hz : 0 < (s.cps.toList.drop a).length := by
      cases hc : s.cps.toList.drop a with
      | nil => rw [hc] at h40; cases h40
      | cons _ _ => simp
    have h3 := List.length_drop (i := a) (l := s.cps.toList)
    have ih := rterm_ok hs k (d + 1) n (by omega) (by omega) r
    have lp := rent_loop (s := s) (r := r) (a := a + 1) (d := d + 1) (μ := Mr μ r s (a + 1)) (RT := F_Reading_term n) (rd' := pT (k + 1) (d + 1)) (Mr_get hμ (a + 1)) (eats_T _ _) (fun b μ' hb => ih b μ' hb) 4000 (s.cps.toList.drop a).length [] (a + 1) (by rw [List.length_drop]; omega) (by rw [List.length_drop]; omega) (by simp)
    have hst : b_Reading_entries (fun _ => F_Reading_term n) (fun _ => F_Reading_entries n) n [some (.lst r), some (.t (.int ((d + 1 : Nat) : Int))), none] μ = (sSeq (whileN rentC (rentS (F_Reading_term n)) 4000) (sSeq (sFldA "Reading" "at" fAddI (dVar 0) (dC (.int 1)))
        (sRet ((dCall (g1 fTuple) (dCons (dVar 2) dNil)))))) [some (.lst r), some (.t (.int ((d + 1 : Nat) : Int))), some (.lst μ.length)] (Me (Mr μ r s (a + 1)) r s (a + 1) []) := by
      refine (seq_ok (step_rd rfl hμ)).trans ?_
      refine (seq_ok (set_ok' (x := .lst μ.length) (μ' := Mr μ r s (a + 1) ++ [.l []]) ?_)).trans ?_
      · have : (Mr μ r s (a + 1)).length = μ.length := Mr_len _
        rw [← this]
        rfl
      · show _ = sSeq _ _ _ (Mr (Mr μ r s (a + 1)) r s (a + 1) ++ [O.l []])
        rw [Mr_Mr]
        rfl
    rw [Mr_len] at lp
    cases hp : pEnts (pT (k + 1) (d + 1)) (s.cps.toList.drop a).length [] (s.cps.toList.drop (a + 1)) with
    | bad n' =>
      rw [hp] at lp
      obtain ⟨y, f', e⟩ := lp
      refine ⟨y, (mkF_exk rfl (hst.trans (seq_exc e))).trans ?_⟩
      congr 1
      show (Mr (Mr μ r s (a + 1)) r s y ++ [O.l f']).take μ.length = _
      rw [Mr_Mr, ← Mr_len (μ := μ) (r := r) (s := s) y, List.take_left]
    | ok x n' =>
      rw [hp] at lp
      obtain ⟨f', m, rfl, rfl, e⟩ := lp
      have hg : (Mr μ r s (a + 1 + m) ++ [O.l f'])[r]? = some (rdO s (a + 1 + m)) := by
        rw [List.getElem?_append_left (by rw [Mr_len]; exact hr')]
        exact List.getElem?_set_self hr'
      have e2 : (sSeq (sFldA "Reading" "at" fAddI (dVar 0) (dC (.int 1)))
        (sRet ((dCall (g1 fTuple) (dCons (dVar 2) dNil))))) [some (.lst r), some (.t (.int ((d + 1 : Nat) : Int))), some (.lst μ.length)] (Mr μ r s (a + 1 + m) ++ [O.l f']) = .rt (.t (.tuple f')) (Mr μ r s (a + 1 + (m + 1)) ++ [O.l f']) := by
        refine (seq_ok (step_rd rfl hg)).trans (ret_ok ?_)
        rw [List.set_append_left _ _ (by rw [Mr_len]; exact hr'), show List.set (Mr μ r s (a + 1 + m)) r (rdO s (a + 1 + m + 1)) = Mr μ r s (a + 1 + (m + 1)) from List.set_set ..]
        refine call1_ok rfl ?_
        have := rd_end (μ := Mr μ r s (a + 1 + (m + 1))) (xs := f')
        rw [Mr_len] at this
        unfold g1 ap1
        dsimp only
        rw [this]
        rfl
      have e3 : Me (Mr μ r s (a + 1)) r s (a + 1 + m) f' = Mr μ r s (a + 1 + m) ++ [O.l f'] := by
        show Mr (Mr μ r s (a + 1)) r s (a + 1 + m) ++ [O.l f'] = _
        rw [Mr_Mr]
      rw [e3] at e
      have e4 := hst.trans ((seq_ok e).trans e2)
      show mkF 2 1 false _ _ μ = _
      refine (mkF_rt rfl e4).trans ?_
      unfold gc
      dsimp only
      rw [show (Mr μ r s (a + 1 + (m + 1)) ++ [O.l f']).take μ.length = Mr μ r s (a + 1 + (m + 1)) by rw [← Mr_len (μ := μ) (r := r) (s := s) (a + 1 + (m + 1)), List.take_left]]
end

/-! ## what is told of a text -/
def toldP (s : Str) : PyData := match pT 13 0 s.cps.toList with
  | .bad n => .list [.str "bad", .int (n : Nat)]
  | .ok d n => if n < s.cps.toList.length then .list [.str "bad", .int (n : Nat)] else .list [.str "term", d]
theorem make_rd {s : Str} {μ : Mu} {δ : Sl} (h : ∀ μ, dVar 0 δ μ = .ok (.t (.str s)) μ) : dMake "Reading" F_Reading___init__ (dCons (dVar 0) dNil) δ μ = .ok (.lst μ.length) (μ ++ [rdO s 0]) := by
  have e : F_Reading___init__ [.lst μ.length, .t (.str s)] (μ ++ [.ins "Reading" []]) = .ok (.t .none) (μ ++ [rdO s 0]) := by
    refine mkF_nx (δ := [some (.lst μ.length), some (.t (.str s))]) rfl ?_ (by simp)
    show sSeq _ _ [some (.lst μ.length), some (.t (.str s))] (μ ++ [.ins "Reading" []]) = _
    have i1 : insOf (μ ++ [.ins "Reading" []]) (.lst μ.length) = some (("Reading" : Str), []) := by
      unfold insOf
      simp
    have e1 : sFldP "Reading" "text" (dVar 0) (dVar 1) [some (.lst μ.length), some (.t (.str s))] (μ ++ [.ins "Reading" []]) = .nx [some (.lst μ.length), some (.t (.str s))] (μ ++ [.ins "Reading" [("text", .str s)]]) := by
      unfold sFldP
      rw [show dVar 1 [some (.lst μ.length), some (.t (.str s))] (μ ++ [.ins "Reading" []]) = .ok (.t (.str s)) (μ ++ [.ins "Reading" []]) from rfl, toS_ok, show dVar 0 [some (.lst μ.length), some (.t (.str s))] (μ ++ [.ins "Reading" []]) = .ok (.lst μ.length) (μ ++ [.ins "Reading" []]) from rfl, toS_ok, i1]
      dsimp only
      rw [if_pos ⟨rfl, by decide⟩]
      simp [putP]
    refine (seq_ok e1).trans ?_
    have i2 : insOf (μ ++ [.ins "Reading" [("text", .str s)]]) (.lst μ.length) = some (("Reading" : Str), [(("text" : Str), .str s)]) := by
      unfold insOf
      simp
    unfold sFldP
    rw [const_ok, toS_ok, show dVar 0 [some (.lst μ.length), some (.t (.str s))] (μ ++ [.ins "Reading" [("text", .str s)]]) = .ok (.lst μ.length) (μ ++ [.ins "Reading" [("text", .str s)]]) from rfl, toS_ok, i2]
    dsimp only
    rw [if_pos ⟨rfl, by simp⟩]
    have e2 : putP "at" (.int 0) [(("text" : Str), .str s)] = rdF s 0 := by
      unfold putP
      rw [if_neg (by decide)]
      rfl
    rw [e2]
    simp
  unfold dMake
  rw [cons_ok (h μ) rfl, bind_ok, e, bind_ok]
theorem read_ok {s : Str} (hs : s.cps.toList.length ≤ 3900) (μ : Mu) : F_read_term [.t (.str s)] μ = match pT 13 0 s.cps.toList with
    | .bad n => .ex "Malformed" (some [("at", .int (n : Nat))]) μ
    | .ok d n => if n < s.cps.toList.length then .ex "Malformed" (some [("at", .int (n : Nat))]) μ else .ok (.t d) μ := by
  have hg : ∀ a, (μ ++ [rdO s a])[μ.length]? = some (rdO s a) := fun a => by simp
  have rt := rterm_ok hs 12 0 28 rfl (by decide) μ.length 0 (μ ++ [rdO s 0]) (hg 0)
  rw [List.drop_zero] at rt
  have hM : ∀ x, List.set (μ ++ [rdO s 0]) μ.length (rdO s x) = μ ++ [rdO s x] := fun x => by simp
  have s1 : b_read_term [some (.t (.str s)), none, none] μ = _ := seq_ok (set_ok' (make_rd (fun _ => rfl)))
  have em : dMethO "Reading" "term" (F_Reading_term 28) (dVar 1) (dCons (dC (.int 0)) dNil) ([some (.t (.str s)), none, none].set 1 (some (.lst μ.length))) (μ ++ [rdO s 0]) = F_Reading_term 28 [.lst μ.length, .t (.int ((0 : Nat) : Int))] (μ ++ [rdO s 0]) := meth_rd rfl rfl (hg 0) (cons_ok const_ok rfl) rfl
  cases hp : pT 13 0 s.cps.toList with
  | bad n =>
    rw [hp] at rt
    obtain ⟨x, e⟩ := rt
    rw [hM, Nat.zero_add] at e
    dsimp only
    refine (mkF_exk (μ' := μ ++ [rdO s x]) rfl (s1.trans (seq_exc (δ' := [some (.t (.str s)), some (.lst μ.length), none]) ?_))).trans (by rw [List.take_left])
    unfold sSet
    rw [em, e, toS_ex]
    rfl
  | ok d n =>
    rw [hp] at rt
    have e : F_Reading_term 28 [.lst μ.length, .t (.int ((0 : Nat) : Int))] (μ ++ [rdO s 0]) = .ok (.t d) (μ ++ [rdO s (0 + n)]) := rt.trans (by rw [hM])
    rw [Nat.zero_add] at e
    dsimp only
    have s2 := s1.trans (seq_ok (set_ok' (em.trans e)))
    have tl := lt_nat (fld_at (s := s) (a := n) (r := μ.length) (o := dVar 1) (δ := [some (.t (.str s)), some (.lst μ.length), some (.t d)]) rfl (hg n)) (len_nat (s := s) (a := dVar 0) (μ' := μ ++ [rdO s n]) rfl)
    split
    · rename_i hl
      refine (mkF_exk rfl (s2.trans (seq_exc ((if_te tl (decide_eq_true hl)).trans (raise_at (fld_at (s := s) rfl (hg n))))))).trans (by rw [List.take_left])
    · rename_i hl
      exact mkF_tk rfl (s2.trans ((seq_skip (tl.trans (by rw [decide_eq_false hl]))).trans (ret_ok rfl)))
theorem told_ok {s : Str} (hs : s.cps.toList.length ≤ 3900) (μ : Mu) : F__law_told [.t (.str s)] μ = .ok (.t (toldP s)) μ := by
  have e := read_ok hs μ
  have ec : dCall F_read_term (dCons (dVar 0) dNil) [some (.t (.str s)), none] μ = F_read_term [.t (.str s)] μ := call1_ok rfl rfl
  refine mkF_t rfl ?_ rfl
  show sTryF "Malformed" "at" "bad" 1 _ [some (.t (.str s)), none] μ = _
  have bx : ∀ n : Nat, F_read_term [.t (.str s)] μ = .ex "Malformed" (some [("at", .int (n : Nat))]) μ → sTryF "Malformed" "at" "bad" 1 (sRet ((dLst false ((dCons (dC (.str "term")) (dCons ((dCall F_read_term (dCons (dVar 0) dNil))) dNil)))))) [some (.t (.str s)), none] μ = .rt (.t (.list [.str "bad", .int (n : Nat)])) μ := by
    intro n h
    have e1 : sRet ((dLst false ((dCons (dC (.str "term")) (dCons ((dCall F_read_term (dCons (dVar 0) dNil))) dNil))))) [some (.t (.str s)), none] μ = .ex "Malformed" (some [("at", .int (n : Nat))]) [some (.t (.str s)), none] μ := by
      unfold sRet dLst
      have : dCons (dC (.str "term")) (dCons ((dCall F_read_term (dCons (dVar 0) dNil))) dNil) [some (.t (.str s)), none] μ = .ex "Malformed" (some [("at", .int (n : Nat))]) μ := by
        unfold dCons
        rw [const_ok, bind_ok]
        have := cons_exc (q := dNil) (ec.trans h)
        unfold dCons at this
        rw [this, bind_ex]
      rw [this, bind_ex, toS_ex]
    unfold sTryF
    rw [e1]
    dsimp only
    rw [if_pos ⟨rfl, rfl, by simp, by decide⟩]
  unfold toldP
  cases hp : pT 13 0 s.cps.toList with
  | bad n =>
    rw [hp] at e
    exact bx n e
  | ok d n =>
    rw [hp] at e
    dsimp only at e ⊢
    split
    · rename_i hl
      rw [if_pos hl] at e
      exact bx n e
    · rename_i hl
      rw [if_neg hl] at e
      have e1 : sRet ((dLst false ((dCons (dC (.str "term")) (dCons ((dCall F_read_term (dCons (dVar 0) dNil))) dNil))))) [some (.t (.str s)), none] μ = .rt (.t (.list [.str "term", d])) μ := ret_ok (dLst_ok (cons_ok const_ok (cons_ok (ec.trans e) rfl)) rfl (by simp))
      unfold sTryF
      rw [e1]
theorem due_told {s : Str} (hs : s.cps.toList.length ≤ 3900) (nb : NB s) (μ : Mu) : F__law_due [.t (.str s)] μ = .ok (.t (toldP s)) μ := due_ok hs nb μ
theorem bad_int (cs : Cs) (n : Nat) (h : pInt cs = .bad n) : n ≤ cs.length := by
  rw [pInt_eq rfl] at h
  generalize hm : (if cs.head? = some 45 then 1 else 0) = k at h
  have hk : k ≤ cs.length := by
    rw [← hm]
    split
    · rename_i e
      cases cs with
      | nil => simp at e
      | cons c r => simp
    · exact Nat.zero_le _
  have hr := run_le (inZ FIG) (cs.drop k)
  rw [List.length_drop] at hr
  split at h
  · rename_i e
    cases h
    omega
  · split at h
    · cases h; omega
    · split at h
      · cases h; omega
      · split at h
        · cases h; omega
        · cases h
theorem bad_ents {rd : Cs → Pr} (hr : ∀ cs, Eats (rd cs) cs) (hb : ∀ cs n, rd cs = .bad n → n ≤ cs.length) : ∀ (t : Nat) (found : List PyData) (cs : Cs) (n : Nat), pEnts rd t found cs = .bad n → n ≤ cs.length
  | 0, _, _, n, h => by rw [pEnts] at h; cases h; exact Nat.zero_le _
  | t + 1, found, cs, n, h => by
    rw [pEnts] at h
    split at h
    · cases h
    · split at h
      · cases h; exact Nat.zero_le _
      · rename_i h1 h2
        dsimp only at h
        have hk : (if found = [] then 0 else 1) ≤ cs.length := by
          split
          · exact Nat.zero_le _
          · rename_i h3
            cases cs with
            | nil => exact absurd ⟨h3, by simp⟩ h2
            | cons c r => simp
        generalize (if found = [] then 0 else 1) = k at h hk
        split at h
        · rename_i m e1
          have := hb _ _ e1
          rw [List.length_drop] at this
          cases h
          omega
        · rename_i d1 n1 e1
          obtain ⟨a, b⟩ := hr _ _ _ e1
          rw [List.length_drop] at b
          cases e2 : pEnts rd t (found ++ [d1]) (cs.drop (k + n1)) with
          | ok d2 n2 => rw [e2] at h; cases h
          | bad m =>
            rw [e2] at h
            have := bad_ents hr hb t _ _ _ e2
            rw [List.length_drop] at this
            cases h
            omega
theorem bad_le : ∀ (f depth : Nat) (cs : Cs) (n : Nat), pT f depth cs = .bad n → n ≤ cs.length
  | 0, _, _, n, h => by rw [pT] at h; cases h; exact Nat.zero_le _
  | f + 1, depth, cs, n, h => by
    rw [pT] at h
    split at h
    · rename_i e
      split at h
      · cases h; exact Nat.zero_le _
      · cases e2 : pEnts (pT f (depth + 1)) cs.length [] (cs.drop 1) with
        | ok d2 n2 => rw [e2] at h; cases h
        | bad m =>
          rw [e2] at h
          have := bad_ents (eats_T f (depth + 1)) (bad_le f (depth + 1)) _ _ _ _ e2
          rw [List.length_drop] at this
          cases h
          cases cs with
          | nil => simp at e
          | cons c r => rw [List.length_cons] at this ⊢; omega
    · split at h
      · cases h
      · split at h
        · cases h
        · exact bad_int cs n h
theorem told_rep {s : Str} (hs : s.cps.toList.length ≤ 3900) : repOk (toldP s) = true := by
  unfold toldP
  have hb : ∀ n : Nat, n ≤ s.cps.toList.length → repOk (.list [.str "bad", .int (n : Nat)]) = true := fun n hn => by
    have t : Tm 0 0 (.int (n : Nat)) := Tm.int (by
      have : n < 10 ^ 20 := Nat.lt_of_lt_of_le (show n < 4000 by omega) (by decide)
      simpa using this)
    have l := TmL.cons (Tm.str (n := 0) (a := [98, 97, 100]) (by decide)) (TmL.cons t TmL.nil : TmL 0 (0 + 1 + 0) _)
    exact (show Tm 1 _ (.list [.str "bad", .int (n : Nat)]) from ⟨by rw [shp]; exact l.s, by rw [PyData.showable]; exact l.w, by rw [PyData.leavesShort]; exact l.l, by rw [PyData.bulk]; exact l.k⟩).rep (by decide) (by decide)
  cases hp : pT 13 0 s.cps.toList with
  | bad n =>
    have : n ≤ s.cps.toList.length := bad_le _ _ _ _ hp
    exact hb n this
  | ok d n =>
    have hn := (eats_T _ _ _ _ _ hp).2
    have t := tm_T _ _ _ _ _ hp
    dsimp only
    split
    · exact hb n hn
    · have l := TmL.cons (Tm.str (n := 13) (a := [116, 101, 114, 109]) (by decide)) (TmL.cons t TmL.nil : TmL 13 (n + 1 + 0) _)
      exact (show Tm 14 _ (.list [.str "term", d]) from ⟨by rw [shp]; exact l.s, by rw [PyData.showable]; exact l.w, by rw [PyData.leavesShort]; exact l.l, by rw [PyData.bulk]; exact l.k⟩).rep (by decide) (by simp; omega)

/-! ## texts of terms -/
abbrev numL (n : Nat) : Cs := TL.numL n
def iTxt (i : Int) : Cs := if i < 0 then 45 :: numL i.natAbs else numL i.natAbs
def joinC : List Cs → Cs
  | [] => []
  | p :: r => p ++ (r.map fun q => 32 :: q).flatten
def txt : Nat → PyData → Cs
  | _, .none => [110, 111, 110, 101]
  | _, .int i => iTxt i
  | _, .str s => if s.cps.toList = [] then [46] else s.cps.toList
  | n + 1, .tuple ds => 40 :: (joinC (ds.map (txt n)) ++ [41])
  | _, _ => []
/-- a drawn term -/
def dt : Nat → PyData → Prop
  | _, .none => True
  | _, .int i => i.natAbs < 10 ^ 20
  | _, .str s => (∀ c ∈ s.cps.toList, inZ LOW c = true) ∧ s.cps.toList.length ≤ 5 ∧ s ≠ "none"
  | n + 1, .tuple ds => ds.length ≤ 3 ∧ ∀ x ∈ ds, dt n x
  | _, _ => False
def bnd : Nat → Nat
  | 0 => 21
  | n + 1 => 3 * bnd n + 4
theorem bnd_ge : ∀ n, 21 ≤ bnd n
  | 0 => Nat.le_refl _
  | n + 1 => by rw [bnd]; have := bnd_ge n; omega
theorem numL_len20 {n : Nat} (h : n < 10 ^ 20) : (numL n).length ≤ 20 := TL.numL_len (by decide) h
theorem iTxt_len {i : Int} (h : i.natAbs < 10 ^ 20) : (iTxt i).length ≤ 21 := by
  unfold iTxt
  have := numL_len20 h
  split <;> simp <;> omega
theorem joinC_len {B : Nat} : ∀ {ps : List Cs}, (∀ p ∈ ps, p.length ≤ B) → (joinC ps).length ≤ ps.length * (B + 1)
  | [], _ => by simp [joinC]
  | p :: r, h => by
    rw [joinC, List.length_append]
    have h1 := h p (by simp)
    have h2 : ∀ (r : List Cs), (∀ q ∈ r, q.length ≤ B) → ((r.map fun q => 32 :: q).flatten).length ≤ r.length * (B + 1) := by
      intro r
      induction r with
      | nil => intro _; simp
      | cons q r ih =>
        intro hq
        have := ih fun x hx => hq x (by simp [hx])
        have := hq q (by simp)
        rw [List.map_cons, List.flatten_cons, List.length_append, List.length_cons, List.length_cons, Nat.succ_mul]
        omega
    have := h2 r fun q hq => h q (by simp [hq])
    rw [List.length_cons, Nat.succ_mul]
    omega
theorem txt_len : ∀ (n : Nat) (d : PyData), dt n d → (txt n d).length ≤ bnd n
  | n, .none, _ => by have := bnd_ge n; simp [txt]; omega
  | n, .int i, h => by
    have := bnd_ge n
    rw [dt] at h
    have := iTxt_len h
    rw [txt]
    omega
  | n, .str s, h => by
    have := bnd_ge n
    rw [dt] at h
    rw [txt]
    split
    · simp; omega
    · omega
  | n + 1, .tuple ds, h => by
    rw [dt] at h
    rw [txt, bnd]
    have := joinC_len (B := bnd n) (ps := ds.map (txt n)) (by
      intro p hp
      obtain ⟨x, hx, rfl⟩ := List.mem_map.mp hp
      exact txt_len n x (h.2 x hx))
    rw [List.length_map] at this
    have h3 : ds.length * (bnd n + 1) ≤ 3 * (bnd n + 1) := Nat.mul_le_mul_right _ h.1
    rw [List.length_cons, List.length_append, List.length_singleton]
    have h4 : joinC (ds.map (txt n)) = joinC (ds.map (txt n)) := rfl
    -- one sign less than a space for each
    have h5 : ds ≠ [] → (joinC (ds.map (txt n))).length + 1 ≤ ds.length * (bnd n + 1) := by
      intro hne
      cases ds with
      | nil => exact absurd rfl hne
      | cons x r =>
        rw [List.map_cons, joinC, List.length_append]
        have q1 := txt_len n x (h.2 x (by simp))
        have q2 := joinC_len (B := bnd n) (ps := [] :: r.map (txt n)) (by
          intro p hp
          rcases List.mem_cons.mp hp with rfl | hp
          · simp
          · obtain ⟨y, hy, rfl⟩ := List.mem_map.mp hp
            exact txt_len n y (h.2 y (by simp [hy])))
        have q3 : ∀ (r : List Cs), (∀ q ∈ r, q.length ≤ bnd n) → ((r.map fun q => 32 :: q).flatten).length ≤ r.length * (bnd n + 1) := by
          intro r
          induction r with
          | nil => intro _; simp
          | cons q r ih =>
            intro hq
            have := ih fun x hx => hq x (by simp [hx])
            have := hq q (by simp)
            rw [List.map_cons, List.flatten_cons, List.length_append, List.length_cons, List.length_cons, Nat.succ_mul]
            omega
        have q4 := q3 (r.map (txt n)) (by
          intro p hp
          obtain ⟨y, hy, rfl⟩ := List.mem_map.mp hp
          exact txt_len n y (h.2 y (by simp [hy])))
        rw [List.length_map] at q4
        rw [List.length_cons, Nat.succ_mul]
        omega
    by_cases hne : ds = []
    · subst hne
      simp [joinC]
    · have := h5 hne
      omega
  | 0, .tuple ds, h => by simp [dt] at h
  | 0, .list ds, h => by simp [dt] at h
  | n + 1, .list ds, h => by simp [dt] at h
  | 0, .bool ds, h => by simp [dt] at h
  | n + 1, .bool ds, h => by simp [dt] at h
  | 0, .dict ds, h => by simp [dt] at h
  | n + 1, .dict ds, h => by simp [dt] at h
/-! ### read back -/
def stops (rest : Cs) : Prop := rest = [] ∨ rest.head? = some 32 ∨ rest.head? = some 41
theorem run_app {p : Nat → Bool} : ∀ {a rest : Cs}, (∀ c ∈ a, p c = true) → rest.head?.elim false p = false → run p (a ++ rest) = a.length
  | [], rest, _, h => by
    cases rest with
    | nil => rfl
    | cons c r => rw [List.nil_append, run_cons, if_neg (by rw [show p c = false from h]; exact Bool.false_ne_true)]; rfl
  | c :: a, rest, h, h2 => by
    rw [List.cons_append, run_cons, if_pos (h c (by simp)), run_app (fun d hd => h d (by simp [hd])) h2]
    rfl
theorem stops_low {rest : Cs} (h : stops rest) : rest.head?.elim false (inZ LOW) = false := by
  rcases h with rfl | h | h
  · rfl
  · rw [h]; decide +kernel
  · rw [h]; decide +kernel
theorem stops_fig {rest : Cs} (h : stops rest) : rest.head?.elim false (inZ FIG) = false := by
  rcases h with rfl | h | h
  · rfl
  · rw [h]; decide +kernel
  · rw [h]; decide +kernel
theorem numL_fig (n : Nat) : ∀ c ∈ numL n, inZ FIG c = true := fun c hc => fig_to (TL.numL_digits n c hc)
theorem numL_head : ∀ n, (numL n).head? = some 48 → numL n = [48] := by
  intro n
  induction n using Nat.strongRecOn with
  | _ n ih =>
    intro h
    by_cases hn : n < 10
    · rw [show numL n = [48 + n] from TL.numL_lt hn] at h ⊢
      simp at h
      subst h
      rfl
    · rw [show numL n = numL (n / 10) ++ [48 + n % 10] from TL.numL_step (by omega)] at h
      have ne := TL.numL_ne (n / 10)
      have h2 : (numL (n / 10)).head? = some 48 := by
        cases hq : numL (n / 10) with
        | nil => exact absurd hq ne
        | cons c r => rw [hq] at h; exact h
      have h3 := ih (n / 10) (by omega) h2
      have h4 := TL.numL_val (n / 10)
      rw [show TL.numL (n / 10) = [48] from h3] at h4
      have : NumText.digitsVal [48] = 0 := by decide +kernel
      omega
theorem take_app {α : Type} (a b : List α) : (a ++ b).take a.length = a := by simp
theorem pInt_back {i : Int} {rest : Cs} (h : i.natAbs < 10 ^ 20) (hs : stops rest) : pInt (iTxt i ++ rest) = .ok (.int i) (iTxt i).length := by
  have hl := numL_len20 h
  have hv : dv (numL i.natAbs) = i.natAbs := TL.numL_val _
  have hne : numL i.natAbs ≠ [] := TL.numL_ne _
  have hpos : 0 < (numL i.natAbs).length := List.length_pos_iff.mpr hne
  have hrun := run_app (numL_fig i.natAbs) (stops_fig hs)
  by_cases hi : i < 0
  · have e : iTxt i = 45 :: numL i.natAbs := if_pos hi
    rw [pInt_eq (m := 1) (if_pos (by rw [e]; rfl)), e, List.cons_append, List.drop_succ_cons, List.drop_zero, hrun, take_app, hv]
    have h48 : (numL i.natAbs ++ rest).head? = (numL i.natAbs).head? := by
      cases hq : numL i.natAbs with
      | nil => exact absurd hq hne
      | cons c r => rfl
    have hn48 : (numL i.natAbs).head? ≠ some 48 := fun z => by
      have z2 := numL_head _ z
      have z3 : NumText.digitsVal (TL.numL i.natAbs) = i.natAbs := TL.numL_val i.natAbs
      rw [show TL.numL i.natAbs = [48] from z2] at z3
      have : NumText.digitsVal [48] = 0 := by decide +kernel
      omega
    rw [h48, if_neg (fun z => hn48 z.2), if_neg (by omega), if_neg (fun z => hn48 z.1), if_neg (by omega), if_pos rfl]
    rw [List.length_cons, Nat.add_comm]
    congr 2
    omega
  · have e : iTxt i = numL i.natAbs := if_neg hi
    have h45 : (numL i.natAbs ++ rest).head? ≠ some 45 := by
      cases hq : numL i.natAbs with
      | nil => exact absurd hq hne
      | cons c r =>
        have := fig_of (numL_fig i.natAbs c (by rw [hq]; simp))
        simp
        omega
    rw [e, pInt_eq (m := 0) (if_neg h45), List.drop_zero, hrun, take_app, hv, if_neg (by simp), if_neg (by omega)]
    rw [if_neg, if_neg (by omega), if_neg (by decide), Nat.zero_add]
    · congr 2
      omega
    · intro ⟨z1, z2⟩
      have h48 : (numL i.natAbs ++ rest).head? = (numL i.natAbs).head? := by
        cases hq : numL i.natAbs with
        | nil => exact absurd hq hne
        | cons c r => rfl
      rw [h48] at z1
      have z3 := numL_head _ z1
      have z4 : (numL i.natAbs).length = 1 := by rw [z3]; rfl
      omega
/-- how a text begins -/
theorem txt_begin : ∀ (n : Nat) (d : PyData), dt n d → ∃ c r, txt n d = c :: r ∧ c ≠ 41 ∧ c ≠ 32
  | n, .none, _ => ⟨110, _, by rw [txt], by decide, by decide⟩
  | n, .int i, h => by
    rw [txt]
    unfold iTxt
    split
    · exact ⟨_, _, rfl, by decide, by decide⟩
    · cases hq : numL i.natAbs with
      | nil => exact absurd hq (TL.numL_ne _)
      | cons c r =>
        have := fig_of (numL_fig i.natAbs c (by rw [hq]; simp))
        exact ⟨c, r, rfl, by omega, by omega⟩
  | n, .str s, h => by
    rw [dt] at h
    rw [txt]
    split
    · exact ⟨_, _, rfl, by decide, by decide⟩
    · rename_i hne
      cases hq : s.cps.toList with
      | nil => exact absurd hq hne
      | cons c r =>
        have := low_of (h.1 c (by rw [hq]; simp))
        exact ⟨c, r, rfl, by omega, by omega⟩
  | n + 1, .tuple ds, h => ⟨40, _, by rw [txt], by decide, by decide⟩
  | 0, .tuple ds, h => by simp [dt] at h
  | 0, .list ds, h => by simp [dt] at h
  | n + 1, .list ds, h => by simp [dt] at h
  | 0, .bool ds, h => by simp [dt] at h
  | n + 1, .bool ds, h => by simp [dt] at h
  | 0, .dict ds, h => by simp [dt] at h
  | n + 1, .dict ds, h => by simp [dt] at h
theorem pEnts_back {rd : Cs → Pr} {tx : PyData → Cs} {rest : Cs} : ∀ (ds : List PyData) (t : Nat) (found : List PyData), ds.length < t → found ≠ [] → (∀ x ∈ ds, ∀ rest, stops rest → rd (tx x ++ rest) = .ok x (tx x).length) →
    pEnts rd t found ((ds.map fun x => 32 :: tx x).flatten ++ 41 :: rest) = .ok (.tuple (found ++ ds)) (((ds.map fun x => 32 :: tx x).flatten).length + 1)
  | _, 0, _, h, _, _ => by omega
  | [], t + 1, found, _, _, _ => by
    have h1 : ((([] : List PyData).map fun x => 32 :: tx x).flatten ++ 41 :: rest).head? = some 41 := rfl
    rw [pEnts, if_pos h1]
    simp
  | x :: ds, t + 1, found, h, hf, hr => by
    have e : ((x :: ds).map fun x => 32 :: tx x).flatten ++ 41 :: rest = 32 :: (tx x ++ ((ds.map fun x => 32 :: tx x).flatten ++ 41 :: rest)) := by simp
    rw [e, pEnts, if_neg (by simp), if_neg (by simp), if_neg hf]
    dsimp only
    have st : stops ((ds.map fun x => 32 :: tx x).flatten ++ 41 :: rest) := by
      cases ds with
      | nil => exact .inr (.inr rfl)
      | cons y ds => exact .inr (.inl rfl)
    rw [List.drop_succ_cons, List.drop_zero, hr x (by simp) _ st]
    dsimp only
    rw [Nat.add_comm 1, List.drop_succ_cons, List.drop_left, pEnts_back ds t (found ++ [x]) (by rw [List.length_cons] at h; omega) (by simp) fun y hy => hr y (by simp [hy])]
    rw [Pr.by, List.append_assoc]
    congr 1
    simp
    omega
theorem parse_ok : ∀ (n : Nat) (d : PyData), dt n d → ∀ (f depth : Nat), n + 1 ≤ f → depth + n ≤ 12 → ∀ rest, stops rest → pT f depth (txt n d ++ rest) = .ok d (txt n d).length
  | _, _, _, 0, _, h, _, _, _ => by omega
  | n, .none, _, f + 1, depth, _, _, rest, hs => by
    have h1 : ((([110, 111, 110, 101] : Cs) ++ rest).head?).elim false (inZ LOW) = true := by
      show inZ LOW 110 = true
      decide +kernel
    rw [txt, pT, if_neg (by simp), if_neg (by simp), if_pos h1]
    have := run_app (p := inZ LOW) (a := [110, 111, 110, 101]) (rest := rest) (by decide +kernel) (stops_low hs)
    rw [this, take_app]
    rfl
  | n, .int i, h, f + 1, depth, _, _, rest, hs => by
    rw [dt] at h
    rw [txt]
    obtain ⟨c, r, e, _, _⟩ := txt_begin n (.int i) (by rw [dt]; exact h)
    rw [txt] at e
    have hc : c = 45 ∨ (48 ≤ c ∧ c ≤ 57) := by
      unfold iTxt at e
      split at e
      · cases e; exact .inl rfl
      · exact .inr (fig_of (numL_fig i.natAbs c (by rw [e]; simp)))
    rw [pT, e, if_neg (by simp; omega), if_neg (by simp; omega), if_neg, ← e, pInt_back h hs]
    intro z
    have := low_of (c := c) z
    omega
  | n, .str s, h, f + 1, depth, _, _, rest, hs => by
    rw [dt] at h
    rw [txt]
    split
    · rename_i e
      have h1 : (([46] : Cs) ++ rest).head? = some 46 := rfl
      rw [pT, if_neg (by simp), if_pos h1]
      have : s = ("" : Str) := by
        have e2 : s = St [] := by rw [← e]
        rw [e2]
        rfl
      rw [this]
      rfl
    · rename_i hne
      cases hq : s.cps.toList with
      | nil => exact absurd hq hne
      | cons c r =>
        have hc := low_of (h.1 c (by rw [hq]; simp))
        have h1 : ((c :: r ++ rest).head?).elim false (inZ LOW) = true := low_to hc
        rw [pT, if_neg (by simp; omega), if_neg (by simp; omega), if_pos h1]
        have := run_app (p := inZ LOW) (a := s.cps.toList) (rest := rest) h.1 (stops_low hs)
        rw [hq] at this
        rw [this, take_app]
        unfold wordOf
        have e : St (c :: r) = s := by rw [← hq]
        rw [e, if_neg h.2.2]
  | n + 1, .tuple ds, h, f + 1, depth, hf, hd, rest, hs => by
    rw [dt] at h
    rw [txt, pT, List.cons_append, if_pos (show (40 :: _).head? = some 40 from rfl), if_neg (by omega), List.drop_succ_cons, List.drop_zero, List.append_assoc]
    have ih : ∀ x ∈ ds, ∀ rest, stops rest → pT f (depth + 1) (txt n x ++ rest) = .ok x (txt n x).length := fun x hx rest hs => parse_ok n x (h.2 x hx) f (depth + 1) (by omega) (by omega) rest hs
    cases ds with
    | nil =>
      rw [List.map_nil, joinC, List.nil_append, List.singleton_append, List.length_cons, pEnts, if_pos (show (41 :: rest).head? = some 41 from rfl)]
      rfl
    | cons x r =>
      obtain ⟨c, q, e, h41, _⟩ := txt_begin n x (h.2 x (by simp))
      rw [List.map_cons, joinC, List.append_assoc, List.length_cons, pEnts, if_neg (by rw [e]; simp; exact h41), if_neg (by simp), if_pos rfl]
      dsimp only
      have em : ((r.map (txt n)).map fun q => 32 :: q) = r.map fun x => 32 :: txt n x := by rw [List.map_map]; rfl
      rw [em, List.singleton_append]
      have st : stops ((r.map fun x => 32 :: txt n x).flatten ++ 41 :: rest) := by
        cases r with
        | nil => exact .inr (.inr rfl)
        | cons y r => exact .inr (.inl rfl)
      rw [List.drop_zero, ih x (by simp) _ st]
      dsimp only
      rw [Nat.zero_add, List.drop_left, List.nil_append, pEnts_back r _ [x] (by
        have : r.length ≤ ((r.map fun x => 32 :: txt n x).flatten).length := by
          clear h ih st em e hs
          induction r with
          | nil => simp
          | cons y r ih => simp only [List.map_cons, List.flatten_cons, List.length_append, List.length_cons] at ih ⊢; omega
        simp only [List.length_append, List.length_cons] at this ⊢
        omega) (by simp) fun y hy => ih y (by simp [hy])]
      simp [Pr.by]
      omega
  | 0, .tuple ds, h, _, _, _, _, _, _ => by simp [dt] at h
  | 0, .list ds, h, _, _, _, _, _, _ => by simp [dt] at h
  | n + 1, .list ds, h, _, _, _, _, _, _ => by simp [dt] at h
  | 0, .bool ds, h, _, _, _, _, _, _ => by simp [dt] at h
  | n + 1, .bool ds, h, _, _, _, _, _, _ => by simp [dt] at h
  | 0, .dict ds, h, _, _, _, _, _, _ => by simp [dt] at h
  | n + 1, .dict ds, h, _, _, _, _, _, _ => by simp [dt] at h
theorem told_back {d : PyData} (h : dt 4 d) : toldP (St (txt 4 d)) = .list [.str "term", d] := by
  unfold toldP
  have := parse_ok 4 d h 13 0 (by decide) (by decide) [] (.inl rfl)
  rw [List.append_nil] at this
  rw [show (St (txt 4 d)).cps.toList = txt 4 d from rfl, this]
  dsimp only
  rw [if_neg (Nat.lt_irrefl _)]

/-! ## the program and the law write the text -/
theorem int_text {i : Int} : (Str.ofString (toString i)) = St (iTxt i) := by
  refine TL.ext_tl ?_
  show TL.tl (Str.ofString (toString i)) = iTxt i
  unfold iTxt
  split
  · rename_i h
    obtain ⟨m, rfl⟩ : ∃ m : Nat, i = Int.negSucc m := by
      cases i with
      | ofNat n => exact absurd h (by simp)
      | negSucc m => exact ⟨m, rfl⟩
    have e : toString (Int.negSucc m) = "-" ++ toString ((m + 1 : Nat) : Int) := rfl
    rw [e, TL.tl_ofString, String.toList_append, List.map_append]
    have q := TL.tl_num (m + 1)
    rw [TL.tl_ofString] at q
    rw [q]
    rfl
  · rename_i h
    obtain ⟨m, rfl⟩ : ∃ m : Nat, i = ((m : Nat) : Int) := ⟨i.natAbs, by omega⟩
    exact TL.tl_num m
theorem glued_sep (sep : Str) : ∀ (ps : List Str) (acc : Array Nat), (ps.foldl (fun acc p => acc ++ sep.cps ++ p.cps) acc).toList = acc.toList ++ (ps.map fun p => sep.cps.toList ++ p.cps.toList).flatten
  | [], acc => by simp
  | p :: ps, acc => by
    rw [List.foldl_cons, glued_sep sep ps]
    simp
theorem join_sp (ps : List Str) : (Txt.join " " ps).cps.toList = joinC (ps.map fun p => p.cps.toList) := by
  show ((ps.drop 1).foldl (fun acc p => acc ++ (" " : Str).cps ++ p.cps) (ps.headD Str.empty).cps).toList = _
  rw [glued_sep]
  cases ps with
  | nil => rfl
  | cons p ps =>
    rw [List.map_cons, joinC, List.map_map]
    rfl
theorem join_spOk {a : DE} {δ : Sl} {μ μ' : Mu} {ps : List Str} (h : a δ μ = .ok (.t (.list (ps.map .str))) μ') (hp : ∀ p ∈ ps, p.length ≤ 3900) (hn : ps.length ≤ 3) : (dMeth isS (gM1 fJoin) (dC (.str " ")) (dCons a dNil)) δ μ = .ok (.t (.str (St (joinC (ps.map fun p => p.cps.toList))))) μ' := by
  have hs := sum_le hp
  have hl : (Txt.join " " ps).length = (joinC (ps.map fun p => p.cps.toList)).length := by
    rw [← join_sp]
    simp [Str.length]
  have hj := joinC_len (B := 3900) (ps := ps.map fun p => p.cps.toList) (by
    intro p hp'
    obtain ⟨q, hq, rfl⟩ := List.mem_map.mp hp'
    have := hp q hq
    simpa [Str.length] using this)
  rw [List.length_map] at hj
  have hn2 : ps.length * (3900 + 1) ≤ 3 * 3901 := Nat.mul_le_mul_right _ hn
  have hn3 : 3900 * ps.length ≤ 3900 * 3 := Nat.mul_le_mul_left _ hn
  unfold dMeth
  rw [show dC (.str " ") δ μ = .ok (.t (.str " ")) μ from rfl, bind_ok]
  rw [if_pos (show rdIs isS μ (.t (.str " ")) = true from rfl), cons_ok h rfl, bind_ok]
  show (match fJoin (.str " ") (.list (ps.map .str)) with
    | some r => R.ok (D.t r) μ'
    | none => .bad) = _
  have e : fJoin (.str " ") (.list (ps.map .str)) = some (.str (Txt.join " " ps)) := by
    unfold fJoin itemsOf
    dsimp only
    rw [Option.bind_some, strsOf_map]
    dsimp only
    have e0 : (" " : Str).length = 1 := rfl
    rw [decide_eq_true (show (ps.map (·.length)).sum + ps.length * (" " : Str).length ≤ 16777216 by rw [e0]; omega), decide_eq_true (show (Txt.join " " ps).length ≤ sizeLine by rw [hl, sizeLine_eq]; omega)]
    rfl
  rw [e]
  have e2 : Txt.join " " ps = St (joinC (ps.map fun p => p.cps.toList)) := by
    refine TL.ext_tl ?_
    exact join_sp ps
  rw [e2]
theorem addS_ok {a b : DE} {δ : Sl} {μ μ1 μ2 : Mu} {x y : Cs} (ha : a δ μ = .ok (.t (.str (St x))) μ1) (hb : b δ μ1 = .ok (.t (.str (St y))) μ2) (z : x.length + y.length ≤ 100000) : dAdd false a b δ μ = .ok (.t (.str (St (x ++ y)))) μ2 := by
  unfold dAdd
  rw [ha, bind_ok, hb, bind_ok]
  show (match fAdd (.str (St x)) (.str (St y)) with
    | some r => R.ok (D.t r) μ2
    | none => .bad) = _
  unfold fAdd
  dsimp only
  rw [if_pos (by rw [St_len, St_len, sizeLine_eq]; omega)]
  dsimp only
  congr 3
  exact TL.ext_tl (by rw [TL.tl_append])
theorem isN_ok {v : Nat} {δ : Sl} {μ : Mu} {d : PyData} (h : dVar v δ μ = .ok (.t d) μ) : dCmpT cIs (dVar v) (dC .none) δ μ = .ok (isNone d) μ := cmp_ok h const_ok rfl
theorem strI_ok {a : DE} {δ : Sl} {μ μ' : Mu} {i : Int} (h : a δ μ = .ok (.t (.int i)) μ') (hi : i.natAbs < 10 ^ 20) : dCall (g1 fStr) (dCons a dNil) δ μ = .ok (.t (.str (St (iTxt i)))) μ' := by
  refine call1_ok h ?_
  unfold g1 ap1 rd
  dsimp only
  unfold fStr
  dsimp only
  rw [if_pos]
  · show R.ok (D.t (.str (Str.ofString (toString i)))) μ' = _
    rw [int_text]
  · have : i.natAbs.log2 ≤ i.natAbs := Nat.log2_le_self _
    by_cases hz : i.natAbs = 0
    · rw [hz]; decide
    · rw [Nat.log2_lt hz]
      exact Nat.lt_of_lt_of_le hi (by decide +kernel)
theorem pmap (n : Nat) (ds : List PyData) : (ds.map fun x => PyData.str (St (txt n x))) = ((ds.map fun x => St (txt n x)).map .str) := by rw [List.map_map]; rfl
theorem tmap (n : Nat) (ds : List PyData) : ((ds.map fun x => St (txt n x)).map fun p => p.cps.toList) = ds.map (txt n) := by rw [List.map_map]; rfl
/-- the last statement of both: "(" + " ".join([f(entry) for entry in term]) + ")" -/
theorem tup_text {F : DF} {n w : Nat} {ds : List PyData} {δ : Sl} {μ : Mu} (hn : n ≤ 3) (hd : ds.length ≤ 3 ∧ ∀ x ∈ ds, dt n x) (hw : w < δ.length) (hi : dSeqI (dVar 0) δ μ = .ok (ds, none) μ)
    (hF : ∀ x ∈ ds, ∀ μ, F [.t x] μ = .ok (.t (.str (St (txt n x)))) μ) :
    sRet ((dAdd false ((dAdd false (dC (.str "(")) ((dMeth isS (gM1 fJoin) (dC (.str " ")) (dCons ((dLc false [w] (dSeqI (dVar 0)) (gN w) (dYes) ((dCall F (dCons (dVar w) dNil))))) dNil))))) (dC (.str ")")))) δ μ = .rt (.t (.str (St (txt (n + 1) (.tuple ds))))) μ := by
  have bn : bnd n ≤ 619 := by
    have : n = 0 ∨ n = 1 ∨ n = 2 ∨ n = 3 := by omega
    rcases this with rfl | rfl | rfl | rfl <;> decide
  have lc : dLc false [w] (dSeqI (dVar 0)) (gN w) (dYes) ((dCall F (dCons (dVar w) dNil))) δ μ = .ok (.t (.list (ds.map fun x => .str (St (txt n x))))) μ := by
    refine dLc_all _ hi (Nat.le_trans hd.1 (by rw [sizeLine_eq]; decide)) fun x hx μ' _ => ⟨δ.set w (some (.t x)), lc_set δ w x μ', ?_⟩
    exact call1_ok (var_set hw μ') (hF x hx μ')
  rw [pmap] at lc
  have j := join_spOk (δ := δ) (μ := μ) lc (by
    intro p hp
    obtain ⟨x, hx, rfl⟩ := List.mem_map.mp hp
    have := txt_len n x (hd.2 x hx)
    rw [St_len]
    omega) (by rw [List.length_map]; exact hd.1)
  rw [tmap] at j
  have hj := joinC_len (B := 619) (ps := ds.map (txt n)) (by
    intro p hp'
    obtain ⟨x, hx, rfl⟩ := List.mem_map.mp hp'
    have := txt_len n x (hd.2 x hx)
    omega)
  rw [List.length_map] at hj
  have h3 : ds.length * 620 ≤ 3 * 620 := Nat.mul_le_mul_right _ hd.1
  have a1 := addS_ok (x := [40]) (y := joinC (ds.map (txt n))) (show dC (.str "(") δ μ = .ok (.t (.str (St [40]))) μ from rfl) j (by rw [List.length_singleton]; omega)
  have a2 := addS_ok (x := [40] ++ joinC (ds.map (txt n))) (y := [41]) a1 (show dC (.str ")") δ μ = .ok (.t (.str (St [41]))) μ from rfl) (by rw [List.length_append, List.length_singleton, List.length_singleton]; omega)
  refine ret_ok (a2.trans ?_)
  rw [txt]
  rfl
theorem tup_textX {F : DF} {n w : Nat} {ds : List PyData} {δ : Sl} {μ : Mu} (hn : n ≤ 3) (hd : ds.length ≤ 3 ∧ ∀ x ∈ ds, dt n x) (hw : w < δ.length) (hi : dSeqI (dVar 0) δ μ = .ok (ds, none) μ)
    (hF : ∀ x ∈ ds, ∀ μ, F [.t x] μ = .ok (.t (.str (St (txt n x)))) μ) :
    sRet ((dAdd false ((dAdd false (dC (.str "(")) ((dMeth isS (gM1 fJoin) (dC (.str " ")) (dCons ((dLcX false [w] (dSeqI (dVar 0)) (gN w) (dYes) ((dCall F (dCons (dVar w) dNil))))) dNil))))) (dC (.str ")")))) δ μ = .rt (.t (.str (St (txt (n + 1) (.tuple ds))))) μ := by
  have bn : bnd n ≤ 619 := by
    have : n = 0 ∨ n = 1 ∨ n = 2 ∨ n = 3 := by omega
    rcases this with rfl | rfl | rfl | rfl <;> decide
  have lc : dLc false [w] (dSeqI (dVar 0)) (gN w) (dYes) ((dCall F (dCons (dVar w) dNil))) δ μ = .ok (.t (.list (ds.map fun x => .str (St (txt n x))))) μ := by
    refine dLc_all _ hi (Nat.le_trans hd.1 (by rw [sizeLine_eq]; decide)) fun x hx μ' _ => ⟨δ.set w (some (.t x)), lc_set δ w x μ', ?_⟩
    exact call1_ok (var_set hw μ') (hF x hx μ')
  rw [pmap] at lc
  have j := join_spOk (δ := δ) (μ := μ) (dLcX_ok lc) (by
    intro p hp
    obtain ⟨x, hx, rfl⟩ := List.mem_map.mp hp
    have := txt_len n x (hd.2 x hx)
    rw [St_len]
    omega) (by rw [List.length_map]; exact hd.1)
  rw [tmap] at j
  have hj := joinC_len (B := 619) (ps := ds.map (txt n)) (by
    intro p hp'
    obtain ⟨x, hx, rfl⟩ := List.mem_map.mp hp'
    have := txt_len n x (hd.2 x hx)
    omega)
  rw [List.length_map] at hj
  have h3 : ds.length * 620 ≤ 3 * 620 := Nat.mul_le_mul_right _ hd.1
  have a1 := addS_ok (x := [40]) (y := joinC (ds.map (txt n))) (show dC (.str "(") δ μ = .ok (.t (.str (St [40]))) μ from rfl) j (by rw [List.length_singleton]; omega)
  have a2 := addS_ok (x := [40] ++ joinC (ds.map (txt n))) (y := [41]) a1 (show dC (.str ")") δ μ = .ok (.t (.str (St [41]))) μ from rfl) (by rw [List.length_append, List.length_singleton, List.length_singleton]; omega)
  refine ret_ok (a2.trans ?_)
  rw [txt]
  rfl
theorem isB_int {d : PyData} : isB "int" d = some (isInt d) := rfl
theorem eqN_ok {v : Nat} {δ : Sl} {μ : Mu} {z c : Str} (h : dVar v δ μ = .ok (.t (.str z)) μ) : dCmpT cNe (dVar v) (dC (.str c)) δ μ = .ok (!(z == c)) μ := cmp_ok h const_ok rfl
theorem ltext_ok : ∀ (n : Nat) (d : PyData), dt n d → n ≤ 4 → ∀ (k : Nat), n < k → ∀ μ, F__law_text k [.t d] μ = .ok (.t (.str (St (txt n d)))) μ
  | _, _, _, _, 0, h, _ => by omega
  | n, .none, _, _, k + 1, _, μ => by
    rw [F__law_text]
    refine mkF_t rfl ?_ rfl
    refine (seq_hit ((isN_ok (d := .none) rfl).trans rfl) (ret_ok const_ok)).trans ?_
    rw [txt]
    rfl
  | n, .int i, h, _, k + 1, _, μ => by
    rw [dt] at h
    rw [F__law_text]
    refine mkF_t rfl ?_ rfl
    refine (seq_skip ((isN_ok (d := .int i) rfl).trans rfl)).trans ?_
    refine (seq_hit ((tru_ok (isi_ok (d := .int i) (μ' := μ) rfl isB_int)).trans rfl) (ret_ok (strI_ok (i := i) rfl h))).trans ?_
    rw [txt]
  | n, .str s, h, _, k + 1, _, μ => by
    rw [F__law_text]
    refine mkF_t rfl ?_ rfl
    refine (seq_skip ((isN_ok (d := .str s) rfl).trans rfl)).trans ?_
    refine (seq_skip ((tru_ok (isi_ok (d := .str s) (μ' := μ) rfl isB_int)).trans rfl)).trans ?_
    refine seq_hit ((tru_ok (isi_ok (d := .str s) (μ' := μ) rfl isB_str)).trans rfl) (ret_ok ?_)
    have t := eqN_ok (v := 0) (δ := [some (.t (.str s)), none]) (μ := μ) (z := s) (c := "") rfl
    rw [txt]
    by_cases hs : s.cps.toList = []
    · have e : s = "" := TL.ext_tl hs
      rw [if_pos hs]
      exact ifv_f (t.trans (by rw [beq_iff_eq.mpr e]; rfl)) rfl
    · have e : s ≠ "" := fun z => hs (by rw [z]; rfl)
      rw [if_neg hs]
      exact ifv_t (t.trans (by rw [beq_eq_false_iff_ne.mpr e]; rfl)) rfl
  | n + 1, .tuple ds, h, hn, k + 1, hk, μ => by
    rw [dt] at h
    rw [F__law_text]
    refine mkF_t rfl ?_ rfl
    refine (seq_skip ((isN_ok (d := .tuple ds) rfl).trans rfl)).trans ?_
    refine (seq_skip ((tru_ok (isi_ok (d := .tuple ds) (μ' := μ) rfl isB_int)).trans rfl)).trans ?_
    refine (seq_skip ((tru_ok (isi_ok (d := .tuple ds) (μ' := μ) rfl isB_str)).trans rfl)).trans ?_
    exact tup_text (by omega) h (by simp) rfl fun x hx μ => ltext_ok n x (h.2 x hx) (by omega) k (by omega) μ
  | 0, .tuple ds, h, _, _, _, _ => by simp [dt] at h
  | 0, .list ds, h, _, _, _, _ => by simp [dt] at h
  | n + 1, .list ds, h, _, _, _, _ => by simp [dt] at h
  | 0, .bool ds, h, _, _, _, _ => by simp [dt] at h
  | n + 1, .bool ds, h, _, _, _, _ => by simp [dt] at h
  | 0, .dict ds, h, _, _, _, _ => by simp [dt] at h
  | n + 1, .dict ds, h, _, _, _, _ => by simp [dt] at h
theorem inB_of {s : Str} (h : ∀ c ∈ s.cps.toList, inZ LOW c = true) : inB LOW s = true := List.all_eq_true.mpr h
theorem or_v {a b : DE} {δ : Sl} {μ μ1 : Mu} {x : PyData} {r : R D} (h : a δ μ = .ok (.t x) μ1) (e : (if truP x then R.ok (.t x) μ1 else b δ μ1) = r) : dOrV a b δ μ = r := by
  unfold dOrV
  rw [h, bind_ok]
  exact e
theorem ttext_ok : ∀ (n : Nat) (d : PyData), dt n d → n ≤ 4 → ∀ (k : Nat), n < k → ∀ μ, F_term_text k [.t d] μ = .ok (.t (.str (St (txt n d)))) μ
  | _, _, _, _, 0, h, _ => by omega
  | n, .none, _, _, k + 1, _, μ => by
    rw [F_term_text]
    refine mkF_t rfl ?_ rfl
    refine (seq_hit ((isN_ok (d := .none) rfl).trans rfl) (ret_ok const_ok)).trans ?_
    rw [txt]
    rfl
  | n, .int i, h, _, k + 1, _, μ => by
    rw [dt] at h
    rw [F_term_text]
    refine mkF_t rfl ?_ rfl
    refine (seq_skip ((isN_ok (d := .int i) rfl).trans rfl)).trans ?_
    refine (seq_hit ((tru_ok (isi_ok (d := .int i) (μ' := μ) rfl isB_int)).trans rfl) (ret_ok (strI_ok (i := i) rfl h))).trans ?_
    rw [txt]
  | n, .str s, h, _, k + 1, _, μ => by
    rw [dt] at h
    rw [F_term_text]
    refine mkF_t rfl ?_ rfl
    refine (seq_skip ((isN_ok (d := .str s) rfl).trans rfl)).trans ?_
    refine (seq_skip ((tru_ok (isi_ok (d := .str s) (μ' := μ) rfl isB_int)).trans rfl)).trans ?_
    refine seq_out ((if_t ((tru_ok (isi_ok (d := .str s) (μ' := μ) rfl isB_str)).trans rfl)).trans ?_)
    have sf := signs_form (v := 0) (w := 1) (δ := [some (.t (.str s)), none, none]) (μ := μ) (s := s) (t := LOW) rfl (by simp) (by have := h.2.1; simp [Str.length] at this ⊢; omega)
    rw [inB_of h.1] at sf
    refine (seq_skip (or_f ((eqs_ok (z := s) (c := "none") rfl).trans (by rw [beq_eq_false_iff_ne.mpr h.2.2])) ((not_ok (tru_ok sf)).trans rfl))).trans (ret_ok ?_)
    refine or_v (x := .str s) rfl ?_
    rw [txt]
    have e0 : truP (.str s) = !decide (s.cps.toList = []) := by
      show ((s.length : Int) != 0) = _
      have : s.length = s.cps.toList.length := by simp [Str.length]
      rw [this]
      cases s.cps.toList with
      | nil => rfl
      | cons c r => simp; omega
    rw [e0]
    by_cases hs : s.cps.toList = []
    · rw [decide_eq_true hs, if_neg (by decide), if_pos hs]
      rfl
    · rw [decide_eq_false hs, if_pos (by decide), if_neg hs]
  | n + 1, .tuple ds, h, hn, k + 1, hk, μ => by
    rw [dt] at h
    rw [F_term_text]
    refine mkF_t rfl ?_ rfl
    refine (seq_skip ((isN_ok (d := .tuple ds) rfl).trans rfl)).trans ?_
    refine (seq_skip ((tru_ok (isi_ok (d := .tuple ds) (μ' := μ) rfl isB_int)).trans rfl)).trans ?_
    refine (seq_skip ((tru_ok (isi_ok (d := .tuple ds) (μ' := μ) rfl isB_str)).trans rfl)).trans ?_
    exact tup_textX (by omega) h (by simp) rfl fun x hx μ => ttext_ok n x (h.2 x hx) (by omega) k (by omega) μ
  | 0, .tuple ds, h, _, _, _, _ => by simp [dt] at h
  | 0, .list ds, h, _, _, _, _ => by simp [dt] at h
  | n + 1, .list ds, h, _, _, _, _ => by simp [dt] at h
  | 0, .bool ds, h, _, _, _, _ => by simp [dt] at h
  | n + 1, .bool ds, h, _, _, _, _ => by simp [dt] at h
  | 0, .dict ds, h, _, _, _, _ => by simp [dt] at h
  | n + 1, .dict ds, h, _, _, _, _ => by simp [dt] at h
theorem ttextL_ok {n : Nat} {ds : List PyData} (h : dt (n + 1) (.tuple ds)) (hn : n ≤ 3) (k : Nat) (hk : n + 1 < k) (μ : Mu) : F_term_text k [.t (.list ds)] μ = .ok (.t (.str (St (txt (n + 1) (.tuple ds))))) μ := by
  rw [dt] at h
  cases k with
  | zero => omega
  | succ k =>
    rw [F_term_text]
    refine mkF_t rfl ?_ rfl
    refine (seq_skip ((isN_ok (d := .list ds) rfl).trans rfl)).trans ?_
    refine (seq_skip ((tru_ok (isi_ok (d := .list ds) (μ' := μ) rfl isB_int)).trans rfl)).trans ?_
    refine (seq_skip ((tru_ok (isi_ok (d := .list ds) (μ' := μ) rfl isB_str)).trans rfl)).trans ?_
    exact tup_textX (by omega) h (by simp) rfl fun x hx μ => ttext_ok n x (h.2 x hx) (by omega) k (by omega) μ

/-! ## drawn terms -/
theorem join_ok {a : DE} {δ : Sl} {μ μ' : Mu} {ps : List Str} (h : a δ μ = .ok (.t (.list (ps.map .str))) μ') (hp : ∀ p ∈ ps, p.length ≤ 2) (hn : ps.length ≤ 1000) : (dMeth isS (gM1 fJoin) (dC (.str "")) (dCons a dNil)) δ μ = .ok (.t (.str (Txt.join "" ps))) μ' := by
  have hs := sum_le hp
  unfold dMeth
  rw [show dC (.str "") δ μ = .ok (.t (.str "")) μ from rfl, bind_ok]
  rw [if_pos (show rdIs isS μ (.t (.str "")) = true from rfl), cons_ok h rfl, bind_ok]
  show (match fJoin (.str "") (.list (ps.map .str)) with
    | some r => R.ok (D.t r) μ'
    | none => .bad) = _
  have e : fJoin (.str "") (.list (ps.map .str)) = some (.str (Txt.join "" ps)) := by
    unfold fJoin itemsOf
    dsimp only
    rw [Option.bind_some, strsOf_map]
    dsimp only
    have e0 : ("" : Str).length = 0 := rfl
    rw [decide_eq_true (show (ps.map (·.length)).sum + ps.length * ("" : Str).length ≤ 16777216 by rw [e0]; omega), decide_eq_true (show (Txt.join "" ps).length ≤ sizeLine by rw [join_len, sizeLine_eq]; omega)]
    rfl
  rw [e]
theorem mkF_gives {n m k : Nat} {b : DS} {args : List D} {μ : Mu} {P : PyData → Prop} (hn : args.length = n) (h : ∃ y μ', b (args.map some ++ List.replicate m none) μ = .rt (.t y) μ' ∧ P y ∧ Mv k μ μ') : Gives k μ P (mkF n m false b args μ) := by
  obtain ⟨y, μ', e, hP, mv⟩ := h
  exact ⟨y, μ', mkF_t hn e mv.len, hP, mv⟩
def dtW (d : PyData) : Prop := ∃ s : Str, d = .str s ∧ (∀ c ∈ s.cps.toList, inZ LOW c = true) ∧ s.cps.toList.length ≤ 5
theorem abc_low : ∀ c ∈ ("abcnoze" : Str).cps.toList, inZ LOW c = true := by decide +kernel
/-- the word drawn -/
theorem word_drawn {j : Nat} {δ : Sl} {μ : Mu} (h0 : δ[0]? = some (some (.lst j))) (dr : Dr j μ) :
    ∃ s μ', (dMeth isS (gM1 fJoin) (dC (.str "")) (dCons ((dLc false [4] (dRange1 ((dBin fMod ((dCall (g1 fInt) (dCons ((dCall F__law_next (dCons (dVar 0) dNil))) dNil))) (dC (.int 6))))) (gN 4) (dYes) ((dIx (dC (.str "abcnoze")) ((dBin fMod ((dCall (g1 fInt) (dCons ((dCall F__law_next (dCons (dVar 0) dNil))) dNil))) (dC (.int 7)))))))) dNil)) δ μ = .ok (.t (.str s)) μ' ∧ Mv j μ μ' ∧ (∀ c ∈ s.cps.toList, inZ LOW c = true) ∧ s.cps.toList.length ≤ 5 := by
  obtain ⟨i, μ1, i0, i1, mv1, e1⟩ := drawn (v := 0) (k := j) (δ := δ) (μ := μ) (b := dC (.int 6)) (n := 6) (fun μ' => var_of h0 μ') dr (fun _ _ => rfl) (by omega)
  have ei : i = ((i.toNat : Nat) : Int) := by omega
  rw [ei] at e1
  have hi := dRange1_ok (n := i.toNat) (by omega) e1
  have dr1 := mv1.dr dr.lt
  obtain ⟨ys, μ2, e2, mv2, hl, hP⟩ := dLc_draw (vs := [4]) (g := gN 4) (de := (dIx (dC (.str "abcnoze")) ((dBin fMod ((dCall (g1 fInt) (dCons ((dCall F__law_next (dCons (dVar 0) dNil))) dNil))) (dC (.int 7)))))) (δ := δ) (j := j) (fun y => ∃ c, inZ LOW c = true ∧ y = .str ⟨#[c]⟩) hi (by rw [intsFrom_length, sizeLine_eq]; omega) dr1 (fun x hx μ' _ dr' => by
    obtain ⟨k, μ3, k0, k1, mv3, e3⟩ := drawn (v := 0) (k := j) (δ := δ.set 4 (some (.t x))) (μ := μ') (b := dC (.int 7)) (n := 7) (fun μ' => var_of (by rw [List.getElem?_set_ne (by decide)]; exact h0) μ') dr' (fun _ _ => rfl) (by omega)
    have ek : k = ((k.toNat : Nat) : Int) := by omega
    rw [ek] at e3
    have hk : k.toNat < ("abcnoze" : Str).cps.toList.length := by
      have : ("abcnoze" : Str).cps.toList.length = 7 := by decide +kernel
      omega
    refine ⟨_, .str ⟨#[("abcnoze" : Str).cps.toList[k.toNat]]⟩, μ3, lc_set δ 4 x μ', ?_, ⟨_, abc_low _ (List.getElem_mem hk), rfl⟩, mv3⟩
    unfold dIx
    rw [const_ok, bind_ok, e3, bind_ok]
    unfold apIx ap2 rd
    dsimp only
    unfold ixP
    dsimp only
    rw [atI_nat _ hk, List.getElem?_eq_getElem hk]
    rfl)
  have back : ∀ ys : List PyData, (∀ y ∈ ys, ∃ c, inZ LOW c = true ∧ y = .str ⟨#[c]⟩) → ∃ qs : List Str, ys = qs.map .str ∧ ∀ q ∈ qs, q.length ≤ 1 ∧ ∀ c ∈ q.cps.toList, inZ LOW c = true := by
    intro ys
    induction ys with
    | nil => exact fun _ => ⟨[], rfl, by simp⟩
    | cons y ys ih =>
      intro h
      obtain ⟨c, hc, rfl⟩ := h y (by simp)
      obtain ⟨qs, rfl, hq⟩ := ih fun z hz => h z (by simp [hz])
      exact ⟨⟨#[c]⟩ :: qs, rfl, fun q hq' => by
        rcases List.mem_cons.mp hq' with rfl | hq'
        · refine ⟨Nat.le_refl _, fun d hd => ?_⟩
          have : d = c := by simpa using hd
          rw [this]
          exact hc
        · exact hq q hq'⟩
  obtain ⟨qs, rfl, hq⟩ := back ys hP
  rw [List.length_map, intsFrom_length] at hl
  refine ⟨_, μ2, join_ok e2 (fun p hp => by have := (hq p hp).1; omega) (by omega), mv1.trans mv2, ?_, ?_⟩
  · intro c hc
    rw [join_list] at hc
    obtain ⟨l, hl2, hcl⟩ := List.mem_flatten.mp hc
    obtain ⟨q, hq2, rfl⟩ := List.mem_map.mp hl2
    exact (hq q hq2).2 c hcl
  · have h1 := join_len qs
    have h2 := sum_le (m := 1) fun q hq' => (hq q hq').1
    have h3 : (Txt.join "" qs).length = (Txt.join "" qs).cps.toList.length := by simp [Str.length]
    omega
abbrev five : List PyData := [.none, .int 0, .int (-1), .int (10 ^ 19), .int (0 - 10 ^ 20 + 1)]
theorem five_dt (n : Nat) : ∀ d ∈ five, dt n d := by
  intro d hd
  simp only [List.mem_cons, List.not_mem_nil, or_false] at hd
  rcases hd with rfl | rfl | rfl | rfl | rfl <;> (rw [dt]; try decide +kernel)
theorem pow19 (δ : Sl) (μ : Mu) : dBin fPow (dC (.int 10)) (dC (.int 19)) δ μ = .ok (.t (.int (10 ^ 19))) μ := by kernel_rfl
theorem pow20 (δ : Sl) (μ : Mu) : dBin fPow (dC (.int 10)) (dC (.int 20)) δ μ = .ok (.t (.int (10 ^ 20))) μ := by kernel_rfl
theorem five_ok (δ : Sl) (μ : Mu) : (dLst false ((dCons (dC .none) (dCons (dC (.int 0)) (dCons ((dUn fNeg (dC (.int 1)))) (dCons ((dBin fPow (dC (.int 10)) (dC (.int 19)))) (dCons ((dAdd false ((dBin fSub (dC (.int 0)) ((dBin fPow (dC (.int 10)) (dC (.int 20)))))) (dC (.int 1)))) dNil))))))) δ μ = .ok (.t (.list five)) μ :=
  dLst_ok (xs := five.map .t) (cons_ok (μ1 := μ) const_ok (cons_ok (μ1 := μ) const_ok (cons_ok (μ1 := μ) (neg_ok (n := 1) const_ok) (cons_ok (μ1 := μ) (pow19 δ μ) (cons_ok (μ1 := μ) (add_int (μ1 := μ) (sub_ok (μ1 := μ) const_ok (y := 10 ^ 20) (pow20 δ μ)) const_ok) rfl))))) rfl (by simp)
theorem term_drawn : ∀ (m dp : Nat), dp + m = 4 → ∀ (k : Nat), m < k → ∀ (j : Nat) (μ : Mu), Dr j μ → Gives j μ (dt m) (F__law_term k [.lst j, .t (.int (dp : Nat))] μ)
  | _, _, _, 0, h, _, _, _ => by omega
  | m, dp, hdp, k + 1, hk, j, μ, dr => by
    rw [F__law_term]
    refine mkF_gives rfl ?_
    show ∃ y μ', b__law_term F__law_term k [some (.lst j), some (.t (.int (dp : Nat))), none, none, none] μ = .rt (.t y) μ' ∧ dt m y ∧ Mv j μ μ'
    have v0 : ∀ (x2 x3 x4 : Option D) (μ : Mu), dVar 0 [some (.lst j), some (.t (.int (dp : Nat))), x2, x3, x4] μ = .ok (.lst j) μ := fun _ _ _ _ => rfl
    have tn : ∀ μ', Mv j μ μ' → dIf (dCmpT cLt (dVar 1) (dC (.int 4))) (dC (.int 8)) (dC (.int 5)) [some (.lst j), some (.t (.int (dp : Nat))), none, none, none] μ' = .ok (.t (.int (if dp < 4 then 8 else 5))) μ' := by
      intro μ' _
      have t := lt_nat (x := dp) (y := 4) (a := dVar 1) (b := dC (.int 4)) (δ := [some (.lst j), some (.t (.int (dp : Nat))), none, none, none]) (μ := μ') rfl rfl
      by_cases hd : dp < 4
      · rw [if_pos hd]
        exact ifv_t (t.trans (by rw [decide_eq_true hd])) rfl
      · rw [if_neg hd]
        exact ifv_f (t.trans (by rw [decide_eq_false hd])) rfl
    obtain ⟨i, μ1, i0, i1, mv1, e1⟩ := drawn (v := 0) (k := j) (fun μ' => v0 none none none μ') dr tn (by split <;> omega)
    have dr1 := mv1.dr dr.lt
    have go : ∀ r, (∃ y μ', r = RS.rt (.t y) μ' ∧ dt m y ∧ Mv j μ1 μ') → ∃ y μ', r = RS.rt (.t y) μ' ∧ dt m y ∧ Mv j μ μ' := by
      intro r ⟨y, μ', e, hP, mv⟩
      exact ⟨y, μ', e, hP, mv1.trans mv⟩
    unfold b__law_term
    rw [seq_ok (set_ok' (i := 2) e1)]
    refine go _ ?_
    clear go e1 tn mv1
    show ∃ y μ', sSeq _ _ [some (.lst j), some (.t (.int (dp : Nat))), some (.t (.int i)), none, none] μ1 = _ ∧ _
    have t0 := eqi_ok (a := dVar 2) (δ := [some (.lst j), some (.t (.int (dp : Nat))), some (.t (.int i)), none, none]) (μ := μ1) (c := 0) rfl
    by_cases h0 : i = 0
    · obtain ⟨s, μ2, e2, mv2, hs, hl⟩ := word_drawn (j := j) (δ := [some (.lst j), some (.t (.int (dp : Nat))), some (.t (.int i)), none, none]) rfl dr1
      have v3 : dVar 3 [some (.lst j), some (.t (.int (dp : Nat))), some (.t (.int i)), some (.t (.str s)), none] μ2 = .ok (.t (.str s)) μ2 := rfl
      have tw := eqs_ok (c := "none") v3
      by_cases hw : s = "none"
      · refine ⟨.str "zone", μ2, seq_out ((if_te t0 (by rw [h0]; rfl)).trans ((seq_ok (set_ok' e2)).trans (ret_ok (ifv_t (tw.trans (by rw [beq_iff_eq.mpr hw])) rfl)))), ?_, mv2⟩
        rw [dt]
        exact ⟨by decide +kernel, by decide +kernel, by decide +kernel⟩
      · refine ⟨.str s, μ2, seq_out ((if_te t0 (by rw [h0]; rfl)).trans ((seq_ok (set_ok' e2)).trans (ret_ok (ifv_f (tw.trans (by rw [beq_eq_false_iff_ne.mpr hw])) v3)))), ?_, mv2⟩
        rw [dt]
        exact ⟨hs, hl, hw⟩
    · rw [seq_skip (t0.trans (by rw [beq_eq_false_iff_ne.mpr h0]))]
      have t1 := eqi_ok (a := dVar 2) (δ := [some (.lst j), some (.t (.int (dp : Nat))), some (.t (.int i)), none, none]) (μ := μ1) (c := 1) rfl
      by_cases h1 : i = 1
      · obtain ⟨y, μ2, e2, hP, mv2⟩ := pick_gives (v := 0) (k := j) (δ := [some (.lst j), some (.t (.int (dp : Nat))), some (.t (.int i)), none, none]) (μ := μ1) (as := (dLst false ((dCons (dC .none) (dCons (dC (.int 0)) (dCons ((dUn fNeg (dC (.int 1)))) (dCons ((dBin fPow (dC (.int 10)) (dC (.int 19)))) (dCons ((dAdd false ((dBin fSub (dC (.int 0)) ((dBin fPow (dC (.int 10)) (dC (.int 20)))))) (dC (.int 1)))) dNil)))))))) (xs := five) (P := dt m) rfl dr1 (five_ok _ _) (by simp) (five_dt m)
        exact ⟨y, μ2, seq_out ((if_te t1 (by rw [h1]; rfl)).trans (ret_ok e2)), hP, mv2⟩
      · rw [seq_skip (t1.trans (by rw [beq_eq_false_iff_ne.mpr h1]))]
        have t2 : dCmpT cLt (dVar 2) (dC (.int 5)) [some (.lst j), some (.t (.int (dp : Nat))), some (.t (.int i)), none, none] μ1 = .ok (decide (i < 5)) μ1 := cmp_ok (p := .int i) rfl const_ok rfl
        by_cases h2 : i < 5
        · obtain ⟨d1, μ2, a1, a2, e2, mv2⟩ := next_ok dr1
          obtain ⟨q, μ3, q0, q1, mv3, e3⟩ := drawn (v := 0) (k := j) (δ := [some (.lst j), some (.t (.int (dp : Nat))), some (.t (.int i)), none, none]) (b := dC (.int 7)) (n := 7) (fun _ => rfl) (mv2.dr dr1.lt) (fun _ _ => rfl) (by omega)
          refine ⟨.int (d1 - 100 * q), μ3, seq_out ((if_te t2 (decide_eq_true h2)).trans (ret_ok (sub_ok (int_ok (call1_ok (x := .lst j) rfl e2)) ?_))), ?_, mv2.trans mv3⟩
          · unfold dMul
            rw [const_ok, bind_ok, e3, bind_ok]
            show (match fMul (.int 100) (.int q) with
              | some r => R.ok (D.t r) μ3
              | none => .bad) = _
            rw [fMul_l (by decide) (by decide)]
          · rw [dt]
            have : (10 : Nat) ^ 20 = 100000000000000000000 := by decide +kernel
            omega
        · rw [seq_skip (t2.trans (by rw [decide_eq_false h2]))]
          have hd : dp < 4 := by
            refine Decidable.byContradiction fun z => ?_
            rw [if_neg z] at i1
            omega
          obtain ⟨m', rfl⟩ : ∃ m', m = m' + 1 := ⟨m - 1, by omega⟩
          obtain ⟨q, μ2, q0, q1, mv2, e2⟩ := drawn (v := 0) (k := j) (δ := [some (.lst j), some (.t (.int (dp : Nat))), some (.t (.int i)), none, none]) (b := dC (.int 4)) (n := 4) (fun _ => rfl) dr1 (fun _ _ => rfl) (by omega)
          have eq : q = ((q.toNat : Nat) : Int) := by omega
          rw [eq] at e2
          have hi := dRange1_ok (n := q.toNat) (by omega) e2
          have dr2 := mv2.dr dr1.lt
          obtain ⟨ys, μ3, e3, mv3, hl, hP⟩ := dLc_draw (vs := [4]) (g := gN 4) (de := ((dCall (F__law_term k) (dCons (dVar 0) (dCons ((dAdd false (dVar 1) (dC (.int 1)))) dNil))))) (δ := [some (.lst j), some (.t (.int (dp : Nat))), some (.t (.int i)), none, none]) (j := j) (dt m') hi (by rw [intsFrom_length, sizeLine_eq]; omega) dr2 (fun x hx μ' _ dr' => by
            obtain ⟨y, μ4, e4, hy, mv4⟩ := term_drawn m' (dp + 1) (by omega) k (by omega) j μ' dr'
            exact ⟨_, y, μ4, lc_set _ 4 x μ', call2_ok (x := .lst j) rfl (add_nat (x := dp) rfl one_ok) e4, hy, mv4⟩)
          rw [intsFrom_length] at hl
          refine ⟨.tuple ys, μ3, ret_ok (call1_ok e3 rfl), ?_, mv2.trans mv3⟩
          rw [dt]
          exact ⟨by omega, hP⟩

/-! ## the law -/
abbrev S1 : DS := (sSet 1 ((dCall F__law_draws (dCons (dVar 0) dNil))))
abbrev S2 : DS := (sSet 1 ((dCall F__law_more (dCons (dVar 1) (dCons (dC (.int 120)) dNil)))))
abbrev S3 : DS := (sSet 2 ((dTup ((dCons ((dTup ((dCons (dC (.int 1)) (dCons (dC (.int 2)) dNil))))) (dCons ((dTup ((dCons (dC (.int 1)) (dCons (dC (.int 1)) dNil))))) dNil))))))
abbrev S4 : DS := (sIf ((dOrT ((dCmpT cNe ((dCall (F_term_text 8) (dCons (dVar 2) dNil))) (dC (.str "((1 2) (1 1))")))) ((dCmpT cNe ((dCall (g1 fRepr) (dCons ((dCall F_read_term (dCons (dC (.str "(. none (-5))")) dNil))) dNil))) ((dCall (g1 fRepr) (dCons ((dTup ((dCons (dC (.str "")) (dCons (dC .none) (dCons ((dTup ((dCons ((dUn fNeg (dC (.int 5)))) dNil)))) dNil)))))) dNil))))))) (sRet (dC (.bool false))) sSkip)
abbrev spoilS : DS := (sSeq (sSet 7 ((dBin fMod ((dCall (g1 fInt) (dCons ((dCall F__law_next (dCons (dVar 1) dNil))) dNil))) ((dAdd false ((dCall (g1 fLen) (dCons (dVar 5) dNil))) (dC (.int 1)))))))   (sSeq (sSet 8 ((dBin fMod ((dCall (g1 fInt) (dCons ((dCall F__law_next (dCons (dVar 1) dNil))) dNil))) (dC (.int 2)))))   (sSeq (sSet 9 ((dCall F__law_pick (dCons (dVar 1) (dCons ((dLst false ((dCons (dC (.str "")) (dCons (dC (.str " ")) (dCons (dC (.str "(")) (dCons (dC (.str ")")) (dCons (dC (.str "-")) (dCons (dC (.str "0")) (dCons (dC (.str "7")) (dCons (dC (.str "a")) (dCons (dC (.str ".")) (dCons (dC (.str "A")) (dCons (dC (.str "_")) (dCons (dC (.str "\t")) dNil))))))))))))))) dNil)))))   (sSeq (sSet 10 ((dAdd false ((dAdd false ((dSl false (dVar 5) dNoO (dSomeO (dVar 7)))) (dVar 9))) ((dSl false (dVar 5) (dSomeO ((dAdd false (dVar 7) (dVar 8)))) dNoO)))))   (sIf ((dAndT ((dCmpT cNotIn (dC (.str "bad")) (dVar 10))) ((dCmpT cNe ((dCall (g1 fRepr) (dCons ((dCall F__law_told (dCons (dVar 10) dNil))) dNil))) ((dCall (g1 fRepr) (dCons ((dCall F__law_due (dCons (dVar 10) dNil))) dNil))))))) (sRet (dC (.bool false))) sSkip)))))
abbrev turnS : DS := (sSeq (sSet 4 ((dCall (F__law_term 6) (dCons (dVar 1) (dCons (dC (.int 0)) dNil)))))   (sSeq (sSet 5 ((dCall (F__law_text 8) (dCons (dVar 4) dNil))))   (sSeq (sIf ((dOrT ((dCmpT cNe ((dCall (F_term_text 8) (dCons (dVar 4) dNil))) (dVar 5))) ((dCmpT cNe ((dCall (g1 fRepr) (dCons ((dCall F__law_told (dCons (dVar 5) dNil))) dNil))) ((dCall (g1 fRepr) (dCons ((dLst false ((dCons (dC (.str "term")) (dCons (dVar 4) dNil))))) dNil))))))) (sRet (dC (.bool false))) sSkip)   (sSeq (sIf ((dAndT ((dTru ((dCall gIsi (dCons (dVar 4) (dCons (dK (.ty "tuple")) dNil)))))) ((dCmpT cNe ((dCall (F_term_text 8) (dCons ((dCall (gList false) (dCons (dVar 4) dNil))) dNil))) (dVar 5))))) (sRet (dC (.bool false))) sSkip)   (sFor (dRange1 (dC (.int 5))) (gN 6) spoilS)))))
abbrev S5 : DS := sFor (dRange1 (dC (.int 4))) (gN 3) turnS
abbrev S6 : DS := (sSet 11 ((dAdd false ((dAdd false ((dMul false (dC (.str "(")) (dC (.int 12)))) (dC (.str "5")))) ((dMul false (dC (.str ")")) (dC (.int 12)))))))
abbrev S7 : DS := (sSet 12 ((dLst false ((dCons (dC (.str "")) (dCons (dC (.str "(")) (dCons (dC (.str "()")) (dCons (dC (.str "( )")) (dCons (dC (.str "(1 )")) (dCons (dC (.str "(1  2)")) (dCons (dC (.str "(1 2")) (dCons (dC (.str "1 2")) (dCons (dC (.str "-0")) (dCons (dC (.str "00")) (dCons (dC (.str "01")) (dCons (dC (.str "-")) (dCons ((dMul false (dC (.str "1")) (dC (.int 20)))) (dCons ((dMul false (dC (.str "1")) (dC (.int 21)))) (dCons ((dAdd false (dC (.str "-")) ((dMul false (dC (.str "9")) (dC (.int 21)))))) (dCons (dVar 11) (dCons ((dAdd false ((dAdd false (dC (.str "(")) (dVar 11))) (dC (.str ")")))) (dCons (dC (.str "()()")) (dCons (dC (.str "(a.)")) (dCons (dC (.str "5a")) (dCons (dC (.str "a5")) dNil)))))))))))))))))))))))))
abbrev S8 : DS := (sSet 12 ((dAdd false (dVar 12) ((dLst false ((dCons (dC (.str "none")) (dCons (dC (.str "..")) (dCons (dC (.str ")")) dNil)))))))))
abbrev S9 : DS := (sIf ((dCmpT cNe ((dLc false [5] (dSeqI (dVar 12)) (gN 5) (dYes) ((dCall (g1 fRepr) (dCons ((dCall F__law_told (dCons (dVar 5) dNil))) dNil))))) ((dLc false [5] (dSeqI (dVar 12)) (gN 5) (dYes) ((dCall (g1 fRepr) (dCons ((dCall F__law_due (dCons (dVar 5) dNil))) dNil))))))) (sRet (dC (.bool false))) sSkip)
abbrev S10 : DS := (sRet ((dCmp cEq ((dLc false [4] (dSeqI ((dLst false ((dCons (dC (.str "none")) (dCons (dC (.str "A")) (dCons (dC (.str "a b")) (dCons ((dTup ((dCons (dC (.str "ok")) (dCons (dC (.str "x1")) dNil))))) (dCons ((dTup ((dCons ((dTup ((dCons (dC (.str "none")) dNil)))) dNil)))) dNil))))))))) (gN 4) (dYes) ((dCall F__law_refused (dCons (dVar 4) dNil))))) ((dMul false ((dLst false ((dCons (dC (.bool true)) dNil)))) (dC (.int 5)))))))
def Sh (δ : Sl) : Prop := δ.length = 13 ∧ δ[1]? = some (some (.lst 1))
theorem Sh.set {δ : Sl} (h : Sh δ) {i : Nat} (x : Option D) (hi : i ≠ 1) : Sh (δ.set i x) := ⟨by rw [List.length_set]; exact h.1, by rw [List.getElem?_set_ne hi]; exact h.2⟩
theorem Sh.var {δ : Sl} (h : Sh δ) (μ : Mu) : dVar 1 δ μ = .ok (.lst 1) μ := by unfold dVar; rw [h.2]
theorem Sh.get {δ : Sl} (h : Sh δ) {i : Nat} {x : D} (hi : i < 13) (μ : Mu) : dVar i (δ.set i (some x)) μ = .ok x μ := var_set (by rw [h.1]; exact hi) μ
def Inv1 (δ : Sl) (μ : Mu) : Prop := Sh δ ∧ Dr 1 μ ∧ μ.length = 2
theorem nb_of {s : Str} (h : (!(Builtin.Str.occurrences s "bad" 0 s.length 1).isEmpty) = false) : NB s := by
  intro i m e
  have hi : i + 3 ≤ s.cps.toList.length := by
    have := congrArg List.length e
    rw [List.length_take, List.length_drop] at this
    simp at this
    simp
    omega
  have e3 : (s.cps.toList.drop i).take 3 = [98, 97, 100] := by
    have hm : 3 ≤ m := by
      have := congrArg List.length e
      rw [List.length_take] at this
      simp at this
      omega
    have : ((s.cps.toList.drop i).take m).take 3 = (s.cps.toList.drop i).take 3 := by rw [List.take_take, Nat.min_eq_left hm]
    rw [← this, e]
    rfl
  have hs : (!(Builtin.Str.occurrences s "bad" 0 s.length 1).isEmpty) = true := (StrLaws.found_iff s "bad").mpr ⟨i, by rw [show ("bad" : Str).length = 3 from rfl]; simp [Str.length] at hi ⊢; exact hi, by
    unfold Builtin.Str.subAt
    rw [beq_iff_eq]
    refine Array.toList_inj.mp ?_
    rw [Array.toList_extract, show ("bad" : Str).length = 3 from rfl]
    rw [List.extract_eq_take_drop, Nat.add_sub_cancel_left, e3]
    rfl⟩
  rw [h] at hs
  cases hs
theorem cN_bad (s : Str) : cNotIn (.str "bad") (.str s) = some (!(!(Builtin.Str.occurrences s "bad" 0 s.length 1).isEmpty)) := rfl
abbrev signs12 : List Str := ["", " ", "(", ")", "-", "0", "7", "a", ".", "A", "_", "\t"]
theorem some_nat {a : DE} {δ : Sl} {μ μ' : Mu} {i : Nat} (h : a δ μ = .ok (.t (.int (i : Nat))) μ') : dSomeO a δ μ = .ok (some ((i : Nat) : Int)) μ' := some_ok h
theorem sl_any {a : DE} {l h : DO} {δ : Sl} {μ : Mu} {s : Str} {i j : Option Int} (ha : a δ μ = .ok (.t (.str s)) μ) (hl : l δ μ = .ok i μ) (hh : h δ μ = .ok j μ) : ∃ x : Cs, x.length ≤ s.cps.toList.length ∧ dSl false a l h δ μ = .ok (.t (.str (St x))) μ := by
  refine ⟨(cutS s i j).cps.toList, ?_, ?_⟩
  · have := cutS_length s i j
    simpa [Str.length] using this
  · unfold dSl
    rw [ha, bind_ok, hl, bind_ok, hh, bind_ok]
    rfl
theorem spoil_ok {δ : Sl} {μ : Mu} {s : Cs} (h : Inv1 δ μ) (h5 : ∀ μ, dVar 5 δ μ = .ok (.t (.str (St s))) μ) (hs : s.length ≤ 1900) : ∃ δ' μ', spoilS δ μ = .nx δ' μ' ∧ Inv1 δ' μ' ∧ ∀ μ, dVar 5 δ' μ = .ok (.t (.str (St s))) μ := by
  obtain ⟨sh, dr, lm⟩ := h
  obtain ⟨i, μ1, i0, i1, mv1, e1⟩ := drawn (v := 1) (k := 1) (b := dAdd false (dCall (g1 fLen) (dCons (dVar 5) dNil)) (dC (.int 1))) (n := ((s.length + 1 : Nat) : Int)) sh.var dr (fun μ' _ => add_nat (len_nat (h5 μ')) one_ok) (by omega)
  have ei : i = ((i.toNat : Nat) : Int) := by omega
  rw [ei] at e1
  generalize i.toNat = a at e1
  have s1 := set_ok' (i := 7) e1
  have sh1 := sh.set (some (.t (.int (a : Nat)))) (i := 7) (by decide)
  have v7 := fun μ => sh.get (i := 7) (x := .t (.int (a : Nat))) (by decide) μ
  have v5 : ∀ μ, dVar 5 (δ.set 7 (some (.t (.int (a : Nat))))) μ = .ok (.t (.str (St s))) μ := fun μ => (var_keep (by decide) μ).trans (h5 μ)
  generalize δ.set 7 (some (D.t (.int (a : Nat)))) = δ1 at s1 sh1 v7 v5
  obtain ⟨c, μ2, c0, c1, mv2, e2⟩ := drawn (v := 1) (k := 1) (b := dC (.int 2)) (n := 2) sh1.var (mv1.dr dr.lt) (fun _ _ => rfl) (by omega)
  have ec : c = ((c.toNat : Nat) : Int) := by omega
  rw [ec] at e2
  generalize c.toNat = b at e2
  have s2 := set_ok' (i := 8) e2
  have sh2 := sh1.set (some (.t (.int (b : Nat)))) (i := 8) (by decide)
  have v8 := fun μ => sh1.get (i := 8) (x := .t (.int (b : Nat))) (by decide) μ
  have v7 : ∀ μ, dVar 7 (δ1.set 8 (some (.t (.int (b : Nat))))) μ = .ok (.t (.int (a : Nat))) μ := fun μ => (var_keep (by decide) μ).trans (v7 μ)
  have v5 : ∀ μ, dVar 5 (δ1.set 8 (some (.t (.int (b : Nat))))) μ = .ok (.t (.str (St s))) μ := fun μ => (var_keep (by decide) μ).trans (v5 μ)
  generalize δ1.set 8 (some (D.t (.int (b : Nat)))) = δ2 at s2 sh2 v7 v5 v8
  obtain ⟨y, μ3, e3, hy, mv3⟩ := pick_gives (v := 1) (k := 1) (δ := δ2) (μ := μ2) (as := (dLst false ((dCons (dC (.str "")) (dCons (dC (.str " ")) (dCons (dC (.str "(")) (dCons (dC (.str ")")) (dCons (dC (.str "-")) (dCons (dC (.str "0")) (dCons (dC (.str "7")) (dCons (dC (.str "a")) (dCons (dC (.str ".")) (dCons (dC (.str "A")) (dCons (dC (.str "_")) (dCons (dC (.str "\t")) dNil))))))))))))))) (xs := signs12.map .str) (P := fun y => ∃ z : Cs, y = .str (St z) ∧ z.length ≤ 1) (sh2.var _) ((mv1.trans mv2).dr dr.lt) (dLst_ok rfl rfl (by simp)) (by simp) (by
    intro x hx
    obtain ⟨z, hz, rfl⟩ := List.mem_map.mp hx
    refine ⟨z.cps.toList, rfl, ?_⟩
    have : ∀ z ∈ signs12, z.cps.toList.length ≤ 1 := by decide +kernel
    exact this z hz)
  obtain ⟨z, rfl, hz⟩ := hy
  have s3 := set_ok' (i := 9) e3
  have sh3 := sh2.set (some (.t (.str (St z)))) (i := 9) (by decide)
  have v9 := fun μ => sh2.get (i := 9) (x := .t (.str (St z))) (by decide) μ
  have v7 : ∀ μ, dVar 7 (δ2.set 9 (some (.t (.str (St z))))) μ = .ok (.t (.int (a : Nat))) μ := fun μ => (var_keep (by decide) μ).trans (v7 μ)
  have v8 : ∀ μ, dVar 8 (δ2.set 9 (some (.t (.str (St z))))) μ = .ok (.t (.int (b : Nat))) μ := fun μ => (var_keep (by decide) μ).trans (v8 μ)
  have v5 : ∀ μ, dVar 5 (δ2.set 9 (some (.t (.str (St z))))) μ = .ok (.t (.str (St s))) μ := fun μ => (var_keep (by decide) μ).trans (v5 μ)
  generalize δ2.set 9 (some (D.t (.str (St z)))) = δ3 at s3 sh3 v7 v5 v8 v9
  obtain ⟨p, hp, ep⟩ := sl_any (h := dSomeO (dVar 7)) (v5 μ3) (l := dNoO) (i := none) rfl (some_nat (v7 μ3))
  obtain ⟨q, hq, eq⟩ := sl_any (l := dSomeO (dAdd false (dVar 7) (dVar 8))) (v5 μ3) (h := dNoO) (j := none) (some_nat (add_nat (v7 μ3) (v8 μ3))) rfl
  have hp : p.length ≤ s.length := hp
  have hq : q.length ≤ s.length := hq
  have a1 := addS_ok ep (v9 μ3) (by omega)
  have a2 := addS_ok a1 eq (by rw [List.length_append]; omega)
  generalize hx : p ++ z ++ q = x at a2
  have hxl : x.length ≤ 3900 := by rw [← hx, List.length_append, List.length_append]; omega
  have s4 := set_ok' (i := 10) a2
  have sh4 := sh3.set (some (.t (.str (St x)))) (i := 10) (by decide)
  have v10 := fun μ => sh3.get (i := 10) (x := .t (.str (St x))) (by decide) μ
  have v5 : ∀ μ, dVar 5 (δ3.set 10 (some (.t (.str (St x))))) μ = .ok (.t (.str (St s))) μ := fun μ => (var_keep (by decide) μ).trans (v5 μ)
  generalize δ3.set 10 (some (D.t (.str (St x)))) = δ4 at s4 sh4 v5 v10
  have mv := (mv1.trans mv2).trans mv3
  refine ⟨δ4, μ3, ?_, ⟨sh4, mv.dr dr.lt, by rw [mv.len]; exact lm⟩, v5⟩
  refine (seq_ok s1).trans ((seq_ok s2).trans ((seq_ok s3).trans ((seq_ok s4).trans ((if_f ?_).trans rfl))))
  have tb : dCmpT cNotIn (dC (.str "bad")) (dVar 10) δ4 μ3 = .ok (!(!(Builtin.Str.occurrences (St x) "bad" 0 (St x).length 1).isEmpty)) μ3 := cmp_ok const_ok (v10 μ3) (cN_bad _)
  cases hb : (!(Builtin.Str.occurrences (St x) "bad" 0 (St x).length 1).isEmpty) with
  | true => exact andT_f (tb.trans (by rw [hb]; rfl))
  | false =>
    refine andT_t (tb.trans (by rw [hb]; rfl)) ?_
    have hl : (St x).cps.toList.length ≤ 3900 := hxl
    exact ne_same (repr_ok (call1_ok (v10 μ3) (told_ok hl μ3)) (told_rep hl)) (repr_ok (call1_ok (v10 μ3) (due_told hl (nb_of hb) μ3)) (told_rep hl))
theorem turn_ok {δ : Sl} {μ : Mu} (h : Inv1 δ μ) : ∃ δ' μ', turnS δ μ = .nx δ' μ' ∧ Inv1 δ' μ' := by
  obtain ⟨sh, dr, lm⟩ := h
  obtain ⟨d, μ1, e1, hd, mv1⟩ := term_drawn 4 0 rfl 6 (by decide) 1 μ dr
  have s1 := set_ok' (i := 4) (call2_ok (sh.var μ) (show dC (.int 0) δ μ = .ok (.t (.int ((0 : Nat) : Int))) μ from rfl) e1)
  have sh1 := sh.set (some (.t d)) (i := 4) (by decide)
  have v4 := fun μ => sh.get (i := 4) (x := .t d) (by decide) μ
  generalize δ.set 4 (some (D.t d)) = δ1 at s1 sh1 v4
  have s2 := set_ok' (i := 5) (call1_ok (v4 μ1) (ltext_ok 4 d hd (by decide) 8 (by decide) μ1))
  have sh2 := sh1.set (some (.t (.str (St (txt 4 d))))) (i := 5) (by decide)
  have v5 := fun μ => sh1.get (i := 5) (x := .t (.str (St (txt 4 d)))) (by decide) μ
  have v4 : ∀ μ, dVar 4 (δ1.set 5 (some (.t (.str (St (txt 4 d)))))) μ = .ok (.t d) μ := fun μ => (var_keep (by decide) μ).trans (v4 μ)
  generalize δ1.set 5 (some (D.t (.str (St (txt 4 d))))) = δ2 at s2 sh2 v4 v5
  have bl : (txt 4 d).length ≤ 1861 := Nat.le_trans (txt_len 4 d hd) (by decide)
  have hl : (St (txt 4 d)).cps.toList.length ≤ 3900 := Nat.le_trans bl (by decide)
  have tr := told_rep hl
  have tk := told_ok hl μ1
  rw [told_back hd] at tr tk
  have er : dCall (g1 fRepr) (dCons (dLst false (dCons (dC (.str "term")) (dCons (dVar 4) dNil))) dNil) δ2 μ1 = _ := repr_ok (dLst_ok (xs := [.t (.str "term"), .t d]) (cons_ok (const_ok (p := .str "term")) (cons_ok (v4 μ1) rfl)) rfl (by simp)) tr
  have t3 := or_f (ne_same (call1_ok (v4 μ1) (ttext_ok 4 d hd (by decide) 8 (by decide) μ1)) (v5 μ1)) (ne_same (repr_ok (call1_ok (v5 μ1) tk) tr) er)
  have t4 : dAndT ((dTru ((dCall gIsi (dCons (dVar 4) (dCons (dK (.ty "tuple")) dNil)))))) ((dCmpT cNe ((dCall (F_term_text 8) (dCons ((dCall (gList false) (dCons (dVar 4) dNil))) dNil))) (dVar 5))) δ2 μ1 = .ok false μ1 := by
    have ti := tru_ok (isi_ok (v4 μ1) isB_tup)
    cases hd2 : isT d with
    | false => exact andT_f (ti.trans (by rw [hd2]))
    | true =>
      refine andT_t (ti.trans (by rw [hd2])) ?_
      cases d with
      | tuple ds =>
        refine ne_same (call1_ok (call1_ok (r := .ok (.t (.list ds)) μ1) (v4 μ1) ?_) (ttextL_ok (n := 3) hd (by decide) 8 (by decide) μ1)) (v5 μ1)
        have hz : ds.length ≤ sizeLine := by
          rw [dt] at hd
          exact Nat.le_trans hd.1 (by rw [sizeLine_eq]; decide)
        first
          | rfl
          | (unfold gList rd itemsOf newL; simp [hz])
      | _ => cases hd2
  obtain ⟨j, δ', μ', _, e, I⟩ := forL_inv (ok := chk (intsFrom 0 5, none)) (g := gN 6) (s := spoilS) (fun _ δ μ => Inv1 δ μ ∧ ∀ μ, dVar 5 δ μ = .ok (.t (.str (St (txt 4 d)))) μ) 5 (fun _ => rfl) (intsFrom 0 5) 0 δ2 μ1 ⟨⟨sh2, mv1.dr dr.lt, by rw [mv1.len]; exact lm⟩, v5⟩ (by rw [intsFrom_length]; decide) (fun x hx i δ μ _ hI => by
    obtain ⟨δ3, μ3, e, I2, I3⟩ := spoil_ok (δ := δ.set 6 (some (.t x))) (μ := μ) (s := txt 4 d) ⟨hI.1.1.set _ (by decide), hI.1.2⟩ (fun μ => (var_keep (by decide) μ).trans (hI.2 μ)) (by omega)
    exact ⟨_, μ, δ3, μ3, rfl, ⟨I2, I3⟩, .inl e⟩)
  exact ⟨δ', μ', (seq_ok s1).trans ((seq_ok s2).trans ((seq_skip t3).trans ((seq_skip t4).trans ((for_eq (dRange1_ok (n := 5) (by decide) rfl)).trans e)))), I.1⟩
theorem s5_ok {δ : Sl} {μ : Mu} (h : Inv1 δ μ) : ∃ δ' μ', S5 δ μ = .nx δ' μ' ∧ Inv1 δ' μ' := by
  obtain ⟨j, δ', μ', _, e, I⟩ := forL_inv (ok := chk (intsFrom 0 4, none)) (g := gN 3) (s := turnS) (fun _ δ μ => Inv1 δ μ) 4 (fun _ => rfl) (intsFrom 0 4) 0 δ μ h (by rw [intsFrom_length]; decide) (fun x hx i δ μ _ hI => by
    obtain ⟨δ2, μ2, e, I2⟩ := turn_ok (δ := δ.set 3 (some (.t x))) (μ := μ) ⟨hI.1.set _ (by decide), hI.2⟩
    exact ⟨_, μ, δ2, μ2, rfl, I2, .inl e⟩)
  exact ⟨δ', μ', (for_eq (dRange1_ok (n := 4) (by decide) rfl)).trans e, I⟩

/-! ## the fixed texts -/
abbrev texts24 : List Str := ["", "(", "()", "( )", "(1 )", "(1  2)", "(1 2", "1 2", "-0", "00", "01", "-", "11111111111111111111", "111111111111111111111", "-999999999999999999999", "((((((((((((5))))))))))))", "(((((((((((((5)))))))))))))", "()()", "(a.)", "5a", "a5", "none", "..", ")"]
theorem texts_nb : ∀ s ∈ texts24, s.cps.toList.length ≤ 3900 ∧ ∀ c ∈ s.cps.toList, c ≠ 100 := by decide +kernel
theorem nb_free {s : Str} (h : ∀ c ∈ s.cps.toList, c ≠ 100) : NB s := by
  intro i m e
  have : 100 ∈ (s.cps.toList.drop i).take m := by rw [e]; simp
  exact h 100 (List.mem_of_mem_drop (List.mem_of_mem_take this)) rfl
def shownOf : PyData → PyData
  | .str s => .str (toldP s).shown
  | _ => .none
theorem rep_list {δ : Sl} {μ : Mu} {F : DF} (h12 : ∀ μ, dVar 12 δ μ = .ok (.t (.list (texts24.map .str))) μ) (hl : δ.length = 13) (hF : ∀ s ∈ texts24, ∀ μ, F [.t (.str s)] μ = .ok (.t (toldP s)) μ) :
    dLc false [5] (dSeqI (dVar 12)) (gN 5) (dYes) ((dCall (g1 fRepr) (dCons ((dCall F (dCons (dVar 5) dNil))) dNil))) δ μ = .ok (.t (.list ((texts24.map PyData.str).map shownOf))) μ := by
  refine dLc_all _ (seqI_ok (h12 μ)) (by rw [List.length_map, sizeLine_eq]; decide) fun x hx μ' _ => ⟨_, lc_set δ 5 x μ', ?_⟩
  obtain ⟨s, hs, rfl⟩ := List.mem_map.mp hx
  exact repr_ok (call1_ok (var_set (by rw [hl]; decide) μ') (hF s hs μ')) (told_rep (texts_nb s hs).1)
theorem shown_same : cNe (.list ((texts24.map PyData.str).map shownOf)) (.list ((texts24.map PyData.str).map shownOf)) = some false := by
  have e : ((texts24.map PyData.str).map shownOf) = (texts24.map fun s => PyData.str (toldP s).shown) := by rw [List.map_map]; rfl
  rw [e]
  have sh : shpL 15 (texts24.map fun s => PyData.str (toldP s).shown) = true := by decide +kernel
  have sh16 : shp 16 (.list (texts24.map fun s => PyData.str (toldP s).shown)) = true := by rw [shp]; exact sh
  show Option.map (!·) (cEq _ _) = _
  unfold cEq
  dsimp only
  rw [sh16]
  have e2 := SeqAt.eqv_refl (.list (texts24.map fun s => PyData.str (toldP s).shown)) (shp_ok 16 _ sh16).1
  rw [e2]
  rfl
theorem s9_ok {δ : Sl} {μ : Mu} (h12 : ∀ μ, dVar 12 δ μ = .ok (.t (.list (texts24.map .str))) μ) (hl : δ.length = 13) : S9 δ μ = .nx δ μ :=
  (if_f (cmp_ok (rep_list h12 hl fun s hs μ => told_ok (texts_nb s hs).1 μ) (rep_list h12 hl fun s hs μ => due_told (texts_nb s hs).1 (nb_free (texts_nb s hs).2) μ) shown_same)).trans rfl
abbrev five5 : List PyData := [.str "none", .str "A", .str "a b", .tuple [.str "ok", .str "x1"], .tuple [.tuple [.str "none"]]]
theorem refused_ok (x y z : O) : ∀ d ∈ five5, F__law_refused [.t d] [x, y, z] = .ok (.t (.bool true)) [x, y, z] := by
  intro d hd
  simp only [List.mem_cons, List.not_mem_nil, or_false] at hd
  rcases hd with rfl | rfl | rfl | rfl | rfl <;> kernel_rfl
theorem s10_ok {δ : Sl} {x y : O} (hl : δ.length = 13) : S10 δ [x, y] = .rt (.t (.bool true)) [x, y] := by
  refine ret_ok ?_
  have items : dSeqI ((dLst false ((dCons (dC (.str "none")) (dCons (dC (.str "A")) (dCons (dC (.str "a b")) (dCons ((dTup ((dCons (dC (.str "ok")) (dCons (dC (.str "x1")) dNil))))) (dCons ((dTup ((dCons ((dTup ((dCons (dC (.str "none")) dNil)))) dNil)))) dNil))))))))  δ [x, y] = .ok (five5, none) [x, y] := by kernel_rfl
  have lc := dLc_all (vs := [4]) (g := gN 4) (de := dCall F__law_refused (dCons (dVar 4) dNil)) (δ := δ) (fun _ => .bool true) items (by rw [sizeLine_eq]; decide) (fun d hd μ' hμ => ⟨_, lc_set δ 4 d μ', (by
    match μ', hμ with
    | [a, b, c], _ => exact call1_ok (var_set (by rw [hl]; decide) _) (refused_ok a b c d hd))⟩)
  unfold dCmp
  rw [lc, bind_ok]
  kernel_rfl
theorem s3_ok {δ : Sl} {μ : Mu} : S3 δ μ = .nx (δ.set 2 (some (.t (.tuple [.tuple [.int 1, .int 2], .tuple [.int 1, .int 1]])))) μ :=
  set_ok' (dTup_ok (xs := [.t (.tuple [.int 1, .int 2]), .t (.tuple [.int 1, .int 1])]) (cons_ok (dTup_ok (xs := [.t (.int 1), .t (.int 2)]) rfl rfl (by simp)) (cons_ok (dTup_ok (xs := [.t (.int 1), .t (.int 1)]) rfl rfl (by simp)) rfl)) rfl (by simp))
theorem s4_ok {δ : Sl} {x y : O} (h2 : ∀ μ, dVar 2 δ μ = .ok (.t (.tuple [.tuple [.int 1, .int 2], .tuple [.int 1, .int 1]])) μ) : S4 δ [x, y] = .nx δ [x, y] := by
  have t1 : F_term_text 8 [.t (.tuple [.tuple [.int 1, .int 2], .tuple [.int 1, .int 1]])] [x, y] = .ok (.t (.str "((1 2) (1 1))")) [x, y] := by kernel_rfl
  have t2 : F_read_term [.t (.str "(. none (-5))")] [x, y] = .ok (.t (.tuple [.str "", .none, .tuple [.int (-5)]])) [x, y] := by kernel_rfl
  have t3 : dTup ((dCons (dC (.str "")) (dCons (dC .none) (dCons ((dTup ((dCons ((dUn fNeg (dC (.int 5)))) dNil)))) dNil)))) δ [x, y] = .ok (.t (.tuple [.str "", .none, .tuple [.int (-5)]])) [x, y] := by kernel_rfl
  exact (if_f (or_f (ne_same (call1_ok (h2 _) t1) const_ok) (ne_same (repr_ok (call1_ok const_ok t2) (by decide +kernel)) (repr_ok t3 (by decide +kernel))))).trans rfl
theorem s6_ok {δ : Sl} {x y : O} : S6 δ [x, y] = .nx (δ.set 11 (some (.t (.str "((((((((((((5))))))))))))")))) [x, y] := set_ok' (by kernel_rfl)
theorem s7_ok {δ : Sl} {x y : O} (h11 : ∀ μ, dVar 11 δ μ = .ok (.t (.str "((((((((((((5))))))))))))")) μ) : S7 δ [x, y] = .nx (δ.set 12 (some (.t (.list ((texts24.take 21).map .str))))) [x, y] := by
  refine set_ok' ?_
  have m : ∀ (c : Str) (n : Int) (r : Str), fMul (.str c) (.int n) = some (.str r) → dMul false (dC (.str c)) (dC (.int n)) δ [x, y] = .ok (.t (.str r)) [x, y] := by
    intro c n r h
    unfold dMul
    rw [const_ok, bind_ok, const_ok, bind_ok]
    show (match fMul (.str c) (.int n) with
      | some r => R.ok (D.t r) [x, y]
      | none => .bad) = _
    rw [h]
  have a : ∀ (e f : DE) (p q r : Str), e δ [x, y] = .ok (.t (.str p)) [x, y] → f δ [x, y] = .ok (.t (.str q)) [x, y] → fAdd (.str p) (.str q) = some (.str r) → dAdd false e f δ [x, y] = .ok (.t (.str r)) [x, y] := by
    intro e f p q r he hf h
    unfold dAdd
    rw [he, bind_ok, hf, bind_ok]
    show (match fAdd (.str p) (.str q) with
      | some r => R.ok (D.t r) [x, y]
      | none => .bad) = _
    rw [h]
  refine dLst_ok (xs := ((texts24.take 21).map .str).map .t) ?_ rfl (by simp)
  have k : ∀ (s : Str) {r : DA} {xs : List D}, r δ [x, y] = .ok xs [x, y] → dCons (dC (.str s)) r δ [x, y] = .ok (.t (.str s) :: xs) [x, y] := fun s _ _ h => cons_ok const_ok h
  refine k _ (k _ (k _ (k _ (k _ (k _ (k _ (k _ (k _ (k _ (k _ (k _ ?_)))))))))))
  refine cons_ok (m _ _ "11111111111111111111" (by kernel_rfl)) (cons_ok (m _ _ "111111111111111111111" (by kernel_rfl)) (cons_ok (a _ _ "-" "999999999999999999999" "-999999999999999999999" const_ok (m _ _ _ (by kernel_rfl)) (by kernel_rfl)) (cons_ok (h11 _) (cons_ok (a _ _ "(((((((((((((5))))))))))))" ")" "(((((((((((((5)))))))))))))" (a _ _ "(" "((((((((((((5))))))))))))" "(((((((((((((5))))))))))))" const_ok (h11 _) (by kernel_rfl)) const_ok (by kernel_rfl)) ?_))))
  exact k _ (k _ (k _ (k _ rfl)))
theorem s8_ok {δ : Sl} {x y : O} (h12 : ∀ μ, dVar 12 δ μ = .ok (.t (.list ((texts24.take 21).map .str))) μ) : S8 δ [x, y] = .nx (δ.set 12 (some (.t (.list (texts24.map .str))))) [x, y] :=
  set_ok' (addL_ok (xs := (texts24.take 21).map .str) (ys := [.str "none", .str "..", .str ")"]) (h12 _) (dLst_ok (xs := [.t (.str "none"), .t (.str ".."), .t (.str ")")]) rfl rfl (by simp)) (by decide))
theorem yes (ns : List Int) (h : ns.length ≤ 63) : ∃ μ, F_law [.fz (ns.map .int)] [] = .ok (.t (.bool true)) μ := by
  obtain ⟨ds, l1, g1, e1⟩ := draws_ok ns h
  obtain ⟨μ1, es, mv, gd, e2⟩ := more_ok (k := 0) (n := 120) (μ := [.l (ds.map .int)]) g1 (by omega) rfl
  let δ0 : Sl := [some (.fz (ns.map .int)), none, none, none, none, none, none, none, none, none, none, none, none]
  let δ2 : Sl := [some (.fz (ns.map .int)), some (.lst 1), none, none, none, none, none, none, none, none, none, none, none]
  have l2 : μ1.length = 1 := mv.len
  have t1 : S1 δ0 [] = .nx [some (.fz (ns.map .int)), some (.lst 0), none, none, none, none, none, none, none, none, none, none, none] [.l (ds.map .int)] := set_ok' (call1_ok rfl e1)
  have t2 : S2 [some (.fz (ns.map .int)), some (.lst 0), none, none, none, none, none, none, none, none, none, none, none] [.l (ds.map .int)] = .nx δ2 (μ1 ++ [.l (es.map .int)]) := set_ok' (call2_ok rfl rfl e2)
  have sh2 : Sh δ2 := ⟨rfl, rfl⟩
  have dr2 : Dr 1 (μ1 ++ [.l (es.map .int)]) := by
    refine ⟨es, gd, ?_⟩
    rw [List.getElem?_append_right (by omega), l2]
    rfl
  have lm2 : (μ1 ++ [O.l (es.map .int)]).length = 2 := by rw [List.length_append, l2]; rfl
  generalize (μ1 ++ [O.l (es.map .int)]) = μ2 at t2 dr2 lm2
  have two : ∀ μ : Mu, μ.length = 2 → ∃ x y, μ = [x, y] := fun μ hμ => match μ, hμ with
    | [x, y], _ => ⟨x, y, rfl⟩
  obtain ⟨x2, y2, rfl⟩ := two μ2 lm2
  have t3 : S3 δ2 [x2, y2] = _ := s3_ok
  have sh3 := sh2.set (some (.t (.tuple [.tuple [.int 1, .int 2], .tuple [.int 1, .int 1]]))) (i := 2) (by decide)
  have v2 := fun μ => sh2.get (i := 2) (x := .t (.tuple [.tuple [.int 1, .int 2], .tuple [.int 1, .int 1]])) (by decide) μ
  generalize δ2.set 2 (some (D.t (.tuple [.tuple [.int 1, .int 2], .tuple [.int 1, .int 1]]))) = δ3 at t3 sh3 v2
  have t4 : S4 δ3 [x2, y2] = _ := s4_ok v2
  obtain ⟨δ5, μ5, t5, sh5, dr5, lm5⟩ := s5_ok (δ := δ3) (μ := [x2, y2]) ⟨sh3, dr2, rfl⟩
  obtain ⟨x5, y5, rfl⟩ := two μ5 lm5
  have t6 : S6 δ5 [x5, y5] = _ := s6_ok
  have sh6 := sh5.set (some (.t (.str "((((((((((((5))))))))))))"))) (i := 11) (by decide)
  have v11 := fun μ => sh5.get (i := 11) (x := .t (.str "((((((((((((5))))))))))))")) (by decide) μ
  generalize δ5.set 11 (some (D.t (.str "((((((((((((5))))))))))))"))) = δ6 at t6 sh6 v11
  have t7 := s7_ok (x := x5) (y := y5) v11
  have sh7 := sh6.set (some (.t (.list ((texts24.take 21).map .str)))) (i := 12) (by decide)
  have v12 := fun μ => sh6.get (i := 12) (x := .t (.list ((texts24.take 21).map .str))) (by decide) μ
  generalize δ6.set 12 (some (D.t (.list ((texts24.take 21).map .str)))) = δ7 at t7 sh7 v12
  have t8 := s8_ok (x := x5) (y := y5) v12
  have sh8 := sh7.set (some (.t (.list (texts24.map .str)))) (i := 12) (by decide)
  have v12 := fun μ => sh7.get (i := 12) (x := .t (.list (texts24.map .str))) (by decide) μ
  generalize δ7.set 12 (some (D.t (.list (texts24.map .str)))) = δ8 at t8 sh8 v12
  have t9 := s9_ok (μ := [x5, y5]) v12 sh8.1
  have body : b_law δ0 [] = .rt (.t (.bool true)) [x5, y5] := by
    show sSeq S1 (sSeq S2 (sSeq S3 (sSeq S4 (sSeq S5 (sSeq S6 (sSeq S7 (sSeq S8 (sSeq S9 S10)))))))) δ0 [] = _
    rw [seq_ok t1, seq_ok t2, seq_ok t3, seq_ok t4, seq_ok t5, seq_ok t6, seq_ok t7, seq_ok t8, seq_ok t9]
    exact s10_ok sh8.1
  exact ⟨_, mkF_rt (n := 1) (m := 12) (live := false) (args := [.fz (ns.map .int)]) rfl body⟩
theorem headR0 (w : World) : HandSHeadRun.RunEq Rw (PySem.W.view Rw.prog [28]) hk ob 6000 loose (w.withFollow "special-get-raises" false) := by
  intro os
  kernel_rfl
theorem headR1 (w : World) : HandSHeadRun.RunEq Rw (PySem.W.view Rw.prog [28]) hk ob 6000 loose (w.withFollow "special-get-raises" true) := by
  intro os
  kernel_rfl
theorem headR (w : World) : HandSHeadRun.RunEq Rw (PySem.W.view Rw.prog [28]) hk ob 6000 loose w := PySem.W.byRow2 "special-get-raises" (P := fun w => HandSHeadRun.RunEq Rw (PySem.W.view Rw.prog [28]) hk ob 6000 loose w) headR0 headR1 w
end TW
open PySem PySem.W PySem.Calls PyProof.Rows
theorem PySem.Challenge.cw_loopsheld_k20_texts_of_terms_holds : PySem.Challenge.rw_loopsheld_k20_texts_of_terms.Holds := by
  w_on; o_law
  refine HandSHeadRun.head_any (r := OpenLaw.row PySem.Challenge.rw_loopsheld_k20_texts_of_terms) (q := view (OpenLaw.row PySem.Challenge.rw_loopsheld_k20_texts_of_terms).prog [28]) (H := TW.hk) (ob := TW.ob) (M := 6000) (loose := TW.loose) (d := HandSHeadRun.topDef (OpenLaw.row PySem.Challenge.rw_loopsheld_k20_texts_of_terms).prog 28) (kwd := []) TW.ob_eq
    (by kernel_rfl) (fun s => by kernel_rfl) TW.headR (by kernel_rfl) (by kernel_rfl) (by kernel_rfl) (by rfl) (by first | assumption | decide +kernel) (by decide +kernel) ⟨rfl, rfl, rfl, rfl, rfl, by decide +kernel⟩ ?hw ?hc
  case hw => w_witness2
  case hc =>
    refine TV.walk_fe (l := PySem.Challenge.rw_loopsheld_k20_texts_of_terms) (n := 63) (k := 36) (x := "law") (F := TW.F_law) rfl (by decide) (by kernel_rfl) ⟨rfl, by decide, by decide⟩ (by kernel_rfl) ?top TW.yes
    intro w mg h Y G
    obtain ⟨K, kin, c⟩ := Y
    exact ⟨K, kin, fun base _ _ => TW.h_law ⟨c, h, kin, G⟩ base⟩
