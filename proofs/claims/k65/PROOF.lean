import PyProof.Rows.All
import Wide.All
import OpenK.AllK
import Wide.FinOn
import HandS.ForSpec
import HandS.Wide
import HandS.TupAny
import HandS.TupMul
import HandS.Style
import HandS.Gcd
import HandS.IsInst
import HandS.Comp
import HandS.Iter
import HandS.Walk
import HandS.Zip
import KE.GoesEnum
import KE.GoesZip
import HandS.CallSlots
import PySem.Challenge.RW_kinkmeasure_k65_runs_of_code
set_option Elab.async false
set_option linter.all false
set_option maxRecDepth 100000
/-! RFa: plain data D, a small list of mutable objects, how both lie in an abstract heap, results. -/
namespace RF
open PySem PySem.Spec PyProof.Rows L2

/-- plain data; loc n: the n-th mutable object; frl: a list that nobody writes -/
inductive D where
  | non
  | bl (b : Bool)
  | int (i : Int)
  | str (x : Str)
  | tup (xs : List D)
  | frl (xs : List D)
  | loc (n : Nat)

/-- mutable objects -/
inductive MO where
  | lst (xs : List D)
  | ins (C : Str) (fs : List (Str × D))
  | dct (kvs : List (Int × D))
abbrev MH := List MO

/-- a list that is frozen or the module's own -/
def SqF (K : PySem.W.Frag) (H : Hp) (a : Addr) (xs : List V) : Prop :=
  (∃ o, H a = some (.frz o (.lst xs))) ∨
    ∃ (o : Obj) (its : Array Value) (n : Nat), K.lookup a = some o ∧ o.cls = .type "list" ∧ o.dict = none ∧ o.data = .seq its n ∧ its.size ≤ sizeLine ∧ Vals xs its.toList
theorem SqF.sql {K : PySem.W.Frag} {H : Hp} {a : Addr} {xs : List V} (h : SqF K H a xs) : SqL K H a xs := by
  rcases h with h | h
  · exact .inl (.inr h)
  · exact .inr h

section
variable (K : PySem.W.Frag) (H : Hp) (f : Nat → Addr) (n : Nat)
mutual
def Rep : D → V → Prop
  | .non, v => v = .non
  | .bl b, v => v = .bl b
  | .int i, v => v = .int i
  | .str x, v => v = .str x
  | .tup xs, v => ∃ a vs, v = .ref a ∧ SqT K H a vs ∧ Reps xs vs
  | .frl xs, v => ∃ a vs, v = .ref a ∧ SqF K H a vs ∧ Reps xs vs
  | .loc i, v => v = .ref (f i) ∧ i < n
def Reps : List D → List V → Prop
  | [], vs => vs = []
  | d :: ds, vs => ∃ v r, vs = v :: r ∧ Rep d v ∧ Reps ds r
end
/-- named fields -/
def RepF : List (Str × D) → List (Str × V) → Prop
  | [], gs => gs = []
  | (x, d) :: fs, gs => ∃ v r, gs = (x, v) :: r ∧ Rep K H f n d v ∧ RepF fs r
def RepK : List (Int × D) → List (Key × V) → Prop
  | [], gs => gs = []
  | (x, d) :: fs, gs => ∃ v r, gs = (Sum.inl x, v) :: r ∧ Rep K H f n d v ∧ RepK fs r
end

/-- a written class's address by its name -/
abbrev Cls0 := Str → Addr
def RepO (K : PySem.W.Frag) (cl : Cls0) (H : Hp) (f : Nat → Addr) (n : Nat) (a : Addr) : MO → Prop
  | .lst ds => ∃ vs, H a = some (.lst vs) ∧ Reps K H f n ds vs
  | .ins C fs => ∃ dx gs, H a = some (.ins (cl C) dx gs) ∧ RepF K H f n fs gs
  | .dct kvs => ∃ ws, H a = some (.dK ws) ∧ RepK K H f n kvs ws

structure Rl (K : PySem.W.Frag) (cl : Cls0) (H : Hp) (f : Nat → Addr) (M : MH) : Prop where
  inj : ∀ i j, i < M.length → j < M.length → f i = f j → i = j
  obj : ∀ i o, M[i]? = some o → RepO K cl H f M.length (f i) o

structure Ext (H : Hp) (f : Nat → Addr) (M : MH) (H' : Hp) (f' : Nat → Addr) (M' : MH) : Prop where
  le : M.length ≤ M'.length
  same : ∀ i, i < M.length → f' i = f i
  new : ∀ i, M.length ≤ i → i < M'.length → H (f' i) = none
  keep : ∀ a o, H a = some o → (∀ i, i < M.length → f i ≠ a) → H' a = some o

theorem Ext.refl (H : Hp) (f : Nat → Addr) (M : MH) : Ext H f M H f M := ⟨Nat.le_refl _, fun _ _ => rfl, fun i h1 h2 => absurd h2 (by omega), fun _ _ h _ => h⟩

section
variable {K : PySem.W.Frag} {cl : Cls0} {H H1 H2 H' : Hp} {f f1 f2 f' : Nat → Addr} {M M1 M2 M' : MH}

theorem Rl.there (r : Rl K cl H f M) {i : Nat} (hi : i < M.length) : ∃ o, H (f i) = some o ∧ Mut (some o) := by
  have e : M[i]? = some M[i] := List.getElem?_eq_getElem hi
  have q := r.obj i _ e
  generalize M[i] = o at q
  cases o with
  | lst ds => obtain ⟨vs, h, _⟩ := q; exact ⟨_, h, trivial⟩
  | ins C fs => obtain ⟨dx, gs, h, _⟩ := q; exact ⟨_, h, trivial⟩
  | dct kvs => obtain ⟨ws, h, _⟩ := q; exact ⟨_, h, trivial⟩
/-- a thing that is not mutable stands outside M's objects -/
theorem Rl.out (r : Rl K cl H f M) {a : Addr} {o : HO} (h : H a = some o) (nm : ¬ Mut (some o)) : ∀ i, i < M.length → f i ≠ a := fun i hi e => by
  obtain ⟨u, hu, mu⟩ := r.there hi
  rw [e, h] at hu
  cases hu
  exact nm mu
theorem Rl.outN (r : Rl K cl H f M) {a : Addr} (h : H a = none) : ∀ i, i < M.length → f i ≠ a := fun i hi e => by
  obtain ⟨u, hu, mu⟩ := r.there hi
  rw [e, h] at hu
  cases hu

theorem Ext.out (x : Ext H f M H1 f1 M1) {a : Addr} {o : HO} (h : H a = some o) (ho : ∀ i, i < M.length → f i ≠ a) : ∀ i, i < M1.length → f1 i ≠ a := fun i hi e => by
  by_cases h1 : i < M.length
  · exact ho i h1 ((x.same i h1).symm.trans e)
  · have := x.new i (by omega) hi
    rw [e, h] at this
    cases this
theorem Ext.trans (a : Ext H f M H1 f1 M1) (r : Rl K cl H1 f1 M1) (b : Ext H1 f1 M1 H2 f2 M2) : Ext H f M H2 f2 M2 where
  le := Nat.le_trans a.le b.le
  same := fun i hi => (b.same i (Nat.lt_of_lt_of_le hi a.le)).trans (a.same i hi)
  new := fun i h1 h2 => by
    by_cases hi : i < M1.length
    · rw [b.same i hi]; exact a.new i h1 hi
    · have n1 := b.new i (by omega) h2
      cases q : H (f2 i) with
      | none => rfl
      | some o =>
        by_cases ho : ∀ j, j < M.length → f j ≠ f2 i
        · rw [a.keep _ _ q ho] at n1; cases n1
        · have ⟨j, hj, e⟩ : ∃ j, j < M.length ∧ f j = f2 i := by
            apply Classical.byContradiction
            intro hn
            exact ho fun j hj e => hn ⟨j, hj, e⟩
          obtain ⟨u, hu, _⟩ := r.there (i := j) (Nat.lt_of_lt_of_le hj a.le)
          rw [a.same j hj, e, n1] at hu
          cases hu
  keep := fun c o h ho => b.keep c o (a.keep c o h ho) (a.out h ho)

theorem Ext.sqt (x : Ext H f M H1 f1 M1) (r : Rl K cl H f M) {a : Addr} {vs : List V} (h : SqT K H a vs) : SqT K H1 a vs := by
  rcases h with (h | ⟨o, h⟩) | h
  · exact .inl (.inl (x.keep _ _ h (r.out h fun z => z)))
  · exact .inl (.inr ⟨o, x.keep _ _ h (r.out h fun z => z)⟩)
  · exact .inr h
theorem Ext.sqf (x : Ext H f M H1 f1 M1) (r : Rl K cl H f M) {a : Addr} {vs : List V} (h : SqF K H a vs) : SqF K H1 a vs := by
  rcases h with ⟨o, h⟩ | h
  · exact .inl ⟨o, x.keep _ _ h (r.out h fun z => z)⟩
  · exact .inr h

/-- representations move along what keeps tuples, frozen lists and the locations -/
structure Mv (K : PySem.W.Frag) (H : Hp) (f : Nat → Addr) (n : Nat) (H' : Hp) (f' : Nat → Addr) (n' : Nat) : Prop where
  t : ∀ a vs, SqT K H a vs → SqT K H' a vs
  l : ∀ a vs, SqF K H a vs → SqF K H' a vs
  s : ∀ i, i < n → f' i = f i
  n : n ≤ n'
mutual
theorem Rep.mv {n n' : Nat} (m : Mv K H f n H' f' n') : ∀ (d : D) (v : V), Rep K H f n d v → Rep K H' f' n' d v
  | .non, v, h => by unfold Rep at h ⊢; exact h
  | .bl b, v, h => by unfold Rep at h ⊢; exact h
  | .int b, v, h => by unfold Rep at h ⊢; exact h
  | .str b, v, h => by unfold Rep at h ⊢; exact h
  | .tup xs, v, h => by
    unfold Rep at h ⊢
    obtain ⟨a, vs, e, h1, h2⟩ := h
    exact ⟨a, vs, e, m.t a vs h1, Reps.mv m xs vs h2⟩
  | .frl xs, v, h => by
    unfold Rep at h ⊢
    obtain ⟨a, vs, e, h1, h2⟩ := h
    exact ⟨a, vs, e, m.l a vs h1, Reps.mv m xs vs h2⟩
  | .loc i, v, h => by
    unfold Rep at h ⊢
    obtain ⟨e, hi⟩ := h
    exact ⟨by rw [m.s i hi]; exact e, Nat.lt_of_lt_of_le hi m.n⟩
theorem Reps.mv {n n' : Nat} (m : Mv K H f n H' f' n') : ∀ (ds : List D) (vs : List V), Reps K H f n ds vs → Reps K H' f' n' ds vs
  | [], vs, h => by unfold Reps at h ⊢; exact h
  | d :: ds, vs, h => by
    unfold Reps at h ⊢
    obtain ⟨v, r, e, h1, h2⟩ := h
    exact ⟨v, r, e, Rep.mv m d v h1, Reps.mv m ds r h2⟩
end
theorem RepF.mv {n n' : Nat} (m : Mv K H f n H' f' n') : ∀ (fs : List (Str × D)) (gs : List (Str × V)), RepF K H f n fs gs → RepF K H' f' n' fs gs
  | [], gs, h => by unfold RepF at h ⊢; exact h
  | (x, d) :: ds, vs, h => by
    unfold RepF at h ⊢
    obtain ⟨v, r, e, h1, h2⟩ := h
    exact ⟨v, r, e, Rep.mv m d v h1, RepF.mv m ds r h2⟩
theorem RepK.mv {n n' : Nat} (m : Mv K H f n H' f' n') : ∀ (fs : List (Int × D)) (gs : List (Key × V)), RepK K H f n fs gs → RepK K H' f' n' fs gs
  | [], gs, h => by unfold RepK at h ⊢; exact h
  | (x, d) :: ds, vs, h => by
    unfold RepK at h ⊢
    obtain ⟨v, r, e, h1, h2⟩ := h
    exact ⟨v, r, e, Rep.mv m d v h1, RepK.mv m ds r h2⟩
theorem Ext.mv (x : Ext H f M H1 f1 M1) (r : Rl K cl H f M) : Mv K H f M.length H1 f1 M1.length :=
  ⟨fun _ _ h => x.sqt r h, fun _ _ h => x.sqf r h, x.same, x.le⟩

theorem Reps.length {n : Nat} : ∀ {ds : List D} {vs : List V}, Reps K H f n ds vs → ds.length = vs.length
  | [], vs, h => by unfold Reps at h; subst h; rfl
  | d :: ds, vs, h => by
    unfold Reps at h
    obtain ⟨v, r, e, h1, h2⟩ := h
    subst e
    rw [List.length_cons, List.length_cons, h2.length]
theorem Reps.get {n : Nat} : ∀ {ds : List D} {vs : List V} {i : Nat} {d : D}, Reps K H f n ds vs → ds[i]? = some d → ∃ v, vs[i]? = some v ∧ Rep K H f n d v
  | [], vs, i, d, h, e => by simp at e
  | x :: ds, vs, i, d, h, e => by
    unfold Reps at h
    obtain ⟨v, r, q, h1, h2⟩ := h
    subst q
    cases i with
    | zero => simp at e; subst e; exact ⟨v, by simp, h1⟩
    | succ i => exact (Reps.get (i := i) h2 (by simpa using e)).imp fun w hw => ⟨by simpa using hw.1, hw.2⟩
theorem Reps.get' {n : Nat} : ∀ {ds : List D} {vs : List V} {i : Nat} {v : V}, Reps K H f n ds vs → vs[i]? = some v → ∃ d, ds[i]? = some d ∧ Rep K H f n d v
  | [], vs, i, d, h, e => by unfold Reps at h; subst h; simp at e
  | x :: ds, vs, i, d, h, e => by
    unfold Reps at h
    obtain ⟨v, r, q, h1, h2⟩ := h
    subst q
    cases i with
    | zero => simp at e; subst e; exact ⟨x, by simp, h1⟩
    | succ i => exact (Reps.get' (i := i) h2 (by simpa using e)).imp fun w hw => ⟨by simpa using hw.1, hw.2⟩
theorem Reps.append {n : Nat} : ∀ {ds es : List D} {vs ws : List V}, Reps K H f n ds vs → Reps K H f n es ws → Reps K H f n (ds ++ es) (vs ++ ws)
  | [], es, vs, ws, h, g => by unfold Reps at h; subst h; exact g
  | x :: ds, es, vs, ws, h, g => by
    unfold Reps at h
    obtain ⟨v, r, q, h1, h2⟩ := h
    subst q
    show Reps K H f n (x :: (ds ++ es)) (v :: (r ++ ws))
    unfold Reps
    exact ⟨v, _, rfl, h1, h2.append g⟩
theorem Reps.take {n : Nat} : ∀ {ds : List D} {vs : List V} (k : Nat), Reps K H f n ds vs → Reps K H f n (ds.take k) (vs.take k)
  | _, _, 0, h => by simp [Reps]
  | [], vs, k + 1, h => by unfold Reps at h; subst h; simp [Reps]
  | x :: ds, vs, k + 1, h => by
    unfold Reps at h
    obtain ⟨v, r, q, h1, h2⟩ := h
    subst q
    rw [List.take_succ_cons, List.take_succ_cons]
    unfold Reps
    exact ⟨v, _, rfl, h1, h2.take k⟩
theorem Reps.drop {n : Nat} : ∀ {ds : List D} {vs : List V} (k : Nat), Reps K H f n ds vs → Reps K H f n (ds.drop k) (vs.drop k)
  | _, _, 0, h => h
  | [], vs, k + 1, h => by unfold Reps at h; subst h; simp [Reps]
  | x :: ds, vs, k + 1, h => by
    unfold Reps at h
    obtain ⟨v, r, q, h1, h2⟩ := h
    subst q
    rw [List.drop_succ_cons, List.drop_succ_cons]
    exact h2.drop k
theorem Reps.set {n : Nat} {d : D} {w : V} (hw : Rep K H f n d w) : ∀ {ds : List D} {vs : List V} (k : Nat), Reps K H f n ds vs → Reps K H f n (ds.set k d) (vs.set k w)
  | [], vs, k, h => by unfold Reps at h; subst h; simp [Reps]
  | x :: ds, vs, 0, h => by
    unfold Reps at h
    obtain ⟨v, r, q, h1, h2⟩ := h
    subst q
    show Reps K H f n (d :: ds) (w :: r)
    unfold Reps
    exact ⟨w, r, rfl, hw, h2⟩
  | x :: ds, vs, k + 1, h => by
    unfold Reps at h
    obtain ⟨v, r, q, h1, h2⟩ := h
    subst q
    show Reps K H f n (x :: ds.set k d) (v :: r.set k w)
    unfold Reps
    exact ⟨v, _, rfl, h1, h2.set hw k⟩
theorem Reps.reverse {n : Nat} : ∀ {ds : List D} {vs : List V}, Reps K H f n ds vs → Reps K H f n ds.reverse vs.reverse
  | [], vs, h => by unfold Reps at h; subst h; simp [Reps]
  | x :: ds, vs, h => by
    unfold Reps at h
    obtain ⟨v, r, q, h1, h2⟩ := h
    subst q
    rw [List.reverse_cons, List.reverse_cons]
    exact h2.reverse.append (by unfold Reps; exact ⟨v, [], rfl, h1, by unfold Reps; rfl⟩)
theorem Reps.ints {n : Nat} : ∀ (ns : List Int), Reps K H f n (ns.map D.int) (ns.map V.int)
  | [] => by simp [Reps]
  | i :: ns => by
    rw [List.map_cons, List.map_cons]
    unfold Reps
    exact ⟨_, _, rfl, by unfold Rep; rfl, Reps.ints ns⟩
end

/-! ### what a run gives -/
structure Exc where
  cls : Str
  pay : Option (List (Str × D))
inductive RE (α : Type) where
  | ok (a : α) (M : MH)
  | exc (x : Exc) (M : MH)
  | unk
def RE.bind {α β : Type} (r : RE α) (k : α → MH → RE β) : RE β :=
  match r with
  | .ok a M => k a M
  | .exc x M => .exc x M
  | .unk => .unk
abbrev Ev := List (Option D)
abbrev FS := List D → MH → RE D
inductive Fl where
  | nx (δ : Ev) (M : MH)
  | rt (d : D) (M : MH)
  | bk (δ : Ev) (M : MH)
  | ct (δ : Ev) (M : MH)
  | exc (x : Exc) (δ : Ev) (M : MH)
  | unk
/-- a value, then a flow -/
def RE.fl {α : Type} (r : RE α) (δ : Ev) (k : α → MH → Fl) : Fl :=
  match r with
  | .ok a M => k a M
  | .exc x M => .exc x δ M
  | .unk => .unk
/-- a flow, then the rest of the block -/
def Fl.then (r : Fl) (k : Ev → MH → Fl) : Fl :=
  match r with
  | .nx δ M => k δ M
  | r => r

/-! ### slots -/
structure RepE (K : PySem.W.Frag) (H : Hp) (f : Nat → Addr) (n : Nat) (δ : Ev) (σ : L2.St) : Prop where
  len : δ.length = σ.length
  get : ∀ (i : Nat) d, δ[i]? = some (some d) → ∃ v, σ[i]? = some (some v) ∧ Rep K H f n d v
theorem RepE.mv {K : PySem.W.Frag} {H H' : Hp} {f f' : Nat → Addr} {n n' : Nat} {δ : Ev} {σ : L2.St} (m : Mv K H f n H' f' n') (r : RepE K H f n δ σ) : RepE K H' f' n' δ σ :=
  ⟨r.len, fun i d e => (r.get i d e).imp fun v h => ⟨h.1, Rep.mv m d v h.2⟩⟩
theorem RepE.set {K : PySem.W.Frag} {H : Hp} {f : Nat → Addr} {n : Nat} {δ : Ev} {σ : L2.St} {d : D} {v : V} (r : RepE K H f n δ σ) (i : Nat) (h : Rep K H f n d v) : RepE K H f n (δ.set i (some d)) (σ.set i (some v)) := by
  refine ⟨by rw [List.length_set, List.length_set]; exact r.len, fun j e hj => ?_⟩
  by_cases hij : i = j
  · subst hij
    by_cases hl : i < δ.length
    · rw [List.getElem?_set_self hl] at hj
      cases hj
      exact ⟨v, by rw [List.getElem?_set_self (by rw [← r.len]; exact hl)], h⟩
    · rw [List.getElem?_eq_none (by rw [List.length_set]; omega)] at hj
      cases hj
  · rw [List.getElem?_set_ne hij] at hj
    obtain ⟨w, h1, h2⟩ := r.get j e hj
    exact ⟨w, by rw [List.getElem?_set_ne hij]; exact h1, h2⟩
theorem RepE.unset {K : PySem.W.Frag} {H : Hp} {f : Nat → Addr} {n : Nat} {δ : Ev} {σ : L2.St} (r : RepE K H f n δ σ) (i : Nat) : RepE K H f n (δ.set i none) (σ.set i none) := by
  refine ⟨by rw [List.length_set, List.length_set]; exact r.len, fun j e hj => ?_⟩
  by_cases hij : i = j
  · subst hij
    by_cases hl : i < δ.length
    · rw [List.getElem?_set_self hl] at hj
      cases hj
    · rw [List.getElem?_eq_none (by rw [List.length_set]; omega)] at hj
      cases hj
  · rw [List.getElem?_set_ne hij] at hj
    obtain ⟨w, h1, h2⟩ := r.get j e hj
    exact ⟨w, by rw [List.getElem?_set_ne hij]; exact h1, h2⟩

/-- a place in a run -/
structure At (K : PySem.W.Frag) (cl : Cls0) (δ : Ev) (σ : L2.St) (H : Hp) (f : Nat → Addr) (M : MH) : Prop where
  r : Rl K cl H f M
  e : RepE K H f M.length δ σ
def ExcOk (K : PySem.W.Frag) (cl : Cls0) (H : Hp) (f : Nat → Addr) (n : Nat) (x : Exc) (c : Value) (dd : Option Addr) : Prop :=
  c = .ref (cl x.cls) ∧ match x.pay with
    | none => dd = none
    | some fs => ∃ d gs, dd = some d ∧ H d = some (.xd gs) ∧ RepF K H f n fs gs

section
variable (K : PySem.W.Frag) (cl : Cls0) (W : WX)
/-- what must hold so that an expression that gives r meets Q -/
def PostE {α β : Type} (rp : Hp → (Nat → Addr) → MH → α → β → Prop) (σ : L2.St) (r : RE α) (H : Hp) (f : Nat → Addr) (M : MH) (Q : β → Hp → Prop) : Prop :=
  match r with
  | .ok d M' => ∀ v H' f', Ext H f M H' f' M' → Rl K cl H' f' M' → rp H' f' M' d v → Q v H'
  | .exc x M' => ∀ c dd H' f', Ext H f M H' f' M' → Rl K cl H' f' M' → ExcOk K cl H' f' M'.length x c dd → W c dd σ H'
  | .unk => False
abbrev rpD : Hp → (Nat → Addr) → MH → D → V → Prop := fun H f M d v => Rep K H f M.length d v
abbrev rpL : Hp → (Nat → Addr) → MH → List D → List V → Prop := fun H f M d v => Reps K H f M.length d v
abbrev rpB : Hp → (Nat → Addr) → MH → Bool → Bool → Prop := fun _ _ _ a b => b = a
def tE (g : Ev → MH → RE D) : TE := fun σ H Q => ∃ δ f M, At K cl δ σ H f M ∧ PostE K cl W (rpD K) σ (g δ M) H f M Q
def tA (g : Ev → MH → RE (List D)) : TA := fun σ H Q => ∃ δ f M, At K cl δ σ H f M ∧ PostE K cl W (rpL K) σ (g δ M) H f M Q
def tT (g : Ev → MH → RE Bool) : TT := fun σ H Q => ∃ δ f M, At K cl δ σ H f M ∧ PostE K cl W rpB σ (g δ M) H f M Q
end

section
variable {K : PySem.W.Frag} {cl : Cls0} {W : WX} {H H1 : Hp} {f f1 : Nat → Addr} {M M1 : MH} {δ : Ev} {σ : L2.St}
theorem At.mv (a : At K cl δ σ H f M) (x : Ext H f M H1 f1 M1) (r : Rl K cl H1 f1 M1) : At K cl δ σ H1 f1 M1 := ⟨r, a.e.mv (x.mv a.r)⟩
theorem PostE.mono {α β : Type} {rp : Hp → (Nat → Addr) → MH → α → β → Prop} {r : RE α} {Q : β → Hp → Prop} (h : PostE K cl W rp σ r H f M Q) (x : Ext H f M H1 f1 M1) (rl : Rl K cl H1 f1 M1) : PostE K cl W rp σ r H1 f1 M1 Q := by
  cases r with
  | ok d M' => exact fun v H' f' y r' q => h v H' f' (x.trans rl y) r' q
  | exc e M' => exact fun c dd H' f' y r' q => h c dd H' f' (x.trans rl y) r' q
  | unk => exact h
theorem PostE.imp {α β : Type} {rp : Hp → (Nat → Addr) → MH → α → β → Prop} {r : RE α} {Q Q' : β → Hp → Prop} (h : PostE K cl W rp σ r H f M Q) (hq : ∀ v H', Q v H' → Q' v H') : PostE K cl W rp σ r H f M Q' := by
  cases r with
  | ok d M' => exact fun v H' f' y r' q => hq _ _ (h v H' f' y r' q)
  | exc e M' => exact h
  | unk => exact h
/-- one step of a chain -/
theorem PostE.bind {α β γ ε : Type} {rp : Hp → (Nat → Addr) → MH → α → β → Prop} {rq : Hp → (Nat → Addr) → MH → γ → ε → Prop} {r : RE α} {k : α → MH → RE γ} {Q : ε → Hp → Prop}
    (a : At K cl δ σ H f M) (h : PostE K cl W rq σ (r.bind k) H f M Q) :
    PostE K cl W rp σ r H f M (fun v H1 => ∃ f1 M1 d, r = .ok d M1 ∧ Ext H f M H1 f1 M1 ∧ At K cl δ σ H1 f1 M1 ∧ rp H1 f1 M1 d v ∧ PostE K cl W rq σ (k d M1) H1 f1 M1 Q) := by
  cases r with
  | ok d M' => exact fun v H' f' y r' q => ⟨f', M', d, rfl, y, a.mv y r', q, PostE.mono h y r'⟩
  | exc e M' => exact h
  | unk => exact h
theorem PostE.reW {W' : WX} {σ' : L2.St} {α β : Type} {rp : Hp → (Nat → Addr) → MH → α → β → Prop} {r : RE α} {Q : β → Hp → Prop} (h : PostE K cl W rp σ r H f M Q) (w : ∀ c d H, W c d σ H → W' c d σ' H) : PostE K cl W' rp σ' r H f M Q := by
  cases r with
  | ok d M' => exact h
  | exc e M' => exact fun c dd H' f' y r' q => w _ _ _ (h c dd H' f' y r' q)
  | unk => exact h
/-- what the value is, told by the run's own end -/
theorem PostE.of {α β : Type} {rp : Hp → (Nat → Addr) → MH → α → β → Prop} {d : α} {M' : MH} {Q : β → Hp → Prop} (h : ∀ v H' f', Ext H f M H' f' M' → Rl K cl H' f' M' → rp H' f' M' d v → Q v H') : PostE K cl W rp σ (.ok d M') H f M Q := h
/-- the end: a value and the state as it is -/
theorem PostE.ok {α β : Type} {rp : Hp → (Nat → Addr) → MH → α → β → Prop} {d : α} {v : β} {Q : β → Hp → Prop} (h : PostE K cl W rp σ (.ok d M) H f M Q) (r : Rl K cl H f M) (q : rp H f M d v) : Q v H :=
  h v H f (Ext.refl _ _ _) r q
end

section
variable {K : PySem.W.Frag} {cl : Cls0} {H : Hp} {f : Nat → Addr} {M : MH} {p : Addr} {o : HO}
/-- a new object that is no one's yet -/
theorem Ext.laid (hp : H p = none) : Ext H f M (upd H p o) f M :=
  ⟨Nat.le_refl _, fun _ _ => rfl, fun i h1 h2 => absurd h2 (by omega), fun a u h _ => by rw [upd_ne (ne_of_none h hp)]; exact h⟩
theorem Rl.at (r : Rl K cl H f M) (m : Mv K H f M.length (upd H p o) f M.length) (hp : ∀ i, i < M.length → f i ≠ p) : Rl K cl (upd H p o) f M := by
  refine ⟨r.inj, fun i u hi => ?_⟩
  have hil : i < M.length := (List.getElem?_eq_some_iff.mp hi).1
  have q := r.obj i u hi
  cases u with
  | lst ds =>
    obtain ⟨vs, h, h2⟩ := q
    exact ⟨vs, by rw [upd_ne (hp i hil)]; exact h, Reps.mv m _ _ h2⟩
  | ins C fs =>
    obtain ⟨dx, gs, h, h2⟩ := q
    exact ⟨dx, gs, by rw [upd_ne (hp i hil)]; exact h, RepF.mv m _ _ h2⟩
  | dct kvs =>
    obtain ⟨ws, h, h2⟩ := q
    exact ⟨ws, by rw [upd_ne (hp i hil)]; exact h, RepK.mv m _ _ h2⟩
theorem Rl.laid (r : Rl K cl H f M) (hp : H p = none) : Rl K cl (upd H p o) f M := r.at ((Ext.laid hp).mv r) (r.outN hp)
def setf (f : Nat → Addr) (n : Nat) (p : Addr) : Nat → Addr := fun i => if i = n then p else f i
theorem setf_same {f : Nat → Addr} {n : Nat} {p : Addr} : setf f n p n = p := if_pos rfl
theorem setf_ne {f : Nat → Addr} {n i : Nat} {p : Addr} (h : i ≠ n) : setf f n p i = f i := if_neg h
theorem push_get {M : MH} {o u : MO} {i : Nat} (h : (M ++ [o])[i]? = some u) : (i < M.length ∧ M[i]? = some u) ∨ (i = M.length ∧ u = o) := by
  by_cases hi : i < M.length
  · rw [List.getElem?_append_left hi] at h
    exact .inl ⟨hi, h⟩
  · have hl := (List.getElem?_eq_some_iff.mp h).1
    rw [List.length_append, List.length_singleton] at hl
    have e : i = M.length := by omega
    subst e
    rw [List.getElem?_append_right (Nat.le_refl _), Nat.sub_self] at h
    simp at h
    exact .inr ⟨rfl, h.symm⟩
/-- an object of ours that was not in the list is taken in -/
theorem Mv.more (H : Hp) (f : Nat → Addr) (n : Nat) (p : Addr) : Mv K H f n H (setf f n p) (n + 1) :=
  ⟨fun _ _ h => h, fun _ _ h => h, fun i hi => setf_ne (by omega), by omega⟩
theorem RepO.mv {n n' : Nat} {H' : Hp} {f' : Nat → Addr} (m : Mv K H f n H' f' n') {a : Addr} {u : MO} (same : H' a = H a) (h : RepO K cl H f n a u) : RepO K cl H' f' n' a u := by
  cases u with
  | lst ds =>
    obtain ⟨vs, h, h2⟩ := h
    exact ⟨vs, by rw [same]; exact h, Reps.mv m _ _ h2⟩
  | ins C fs =>
    obtain ⟨dx, gs, h, h2⟩ := h
    exact ⟨dx, gs, by rw [same]; exact h, RepF.mv m _ _ h2⟩
  | dct kvs =>
    obtain ⟨ws, h, h2⟩ := h
    exact ⟨ws, by rw [same]; exact h, RepK.mv m _ _ h2⟩
theorem Rl.take_in (r : Rl K cl H f M) {u : MO} (hp : ∀ i, i < M.length → f i ≠ p) (h : RepO K cl H f M.length p u) : Rl K cl H (setf f M.length p) (M ++ [u]) := by
  refine ⟨fun i j hi hj e => ?_, fun i w hi => ?_⟩
  · rw [List.length_append, List.length_singleton] at hi hj
    by_cases h1 : i = M.length
    · by_cases h2 : j = M.length
      · omega
      · rw [h1, setf_same, setf_ne h2] at e
        exact absurd e.symm (hp j (by omega))
    · by_cases h2 : j = M.length
      · rw [h2, setf_same, setf_ne h1] at e
        exact absurd e (hp i (by omega))
      · rw [setf_ne h1, setf_ne h2] at e
        exact r.inj i j (by omega) (by omega) e
  · rw [List.length_append, List.length_singleton]
    rcases push_get hi with ⟨hl, hi⟩ | ⟨rfl, rfl⟩
    · rw [setf_ne (by omega)]
      exact (r.obj i w hi).mv (Mv.more H f M.length p) rfl
    · rw [setf_same]
      exact h.mv (Mv.more H f M.length p) rfl
theorem Ext.take_in {H0 : Hp} {f0 : Nat → Addr} {M0 : MH} {u : MO} (x : Ext H0 f0 M0 H f M) (hp : H0 p = none) : Ext H0 f0 M0 H (setf f M.length p) (M ++ [u]) where
  le := by rw [List.length_append]; have := x.le; omega
  same := fun i hi => by rw [setf_ne (by have := x.le; omega)]; exact x.same i hi
  new := fun i h1 h2 => by
    rw [List.length_append, List.length_singleton] at h2
    by_cases e : i = M.length
    · rw [e, setf_same]; exact hp
    · rw [setf_ne e]; exact x.new i h1 (by omega)
  keep := x.keep
/-- an object of the list is written -/
theorem Mv.upd (h : ∃ u, H p = some u ∧ Mut (some u)) (n : Nat) : Mv K H f n (upd H p o) f n := by
  obtain ⟨u, hu, mu⟩ := h
  have ne : ∀ a w, H a = some w → ¬ Mut (some w) → a ≠ p := fun a w hw nm e => by subst e; rw [hu] at hw; cases hw; exact nm mu
  refine ⟨fun a vs h => ?_, fun a vs h => ?_, fun _ _ => rfl, Nat.le_refl _⟩
  · rcases h with (h | ⟨z, h⟩) | h
    · exact .inl (.inl (by rw [upd_ne (ne a _ h fun z => z)]; exact h))
    · exact .inl (.inr ⟨z, by rw [upd_ne (ne a _ h fun z => z)]; exact h⟩)
    · exact .inr h
  · rcases h with ⟨z, h⟩ | h
    · exact .inl ⟨z, by rw [upd_ne (ne a _ h fun z => z)]; exact h⟩
    · exact .inr h
theorem Rl.write (r : Rl K cl H f M) {n : Nat} (hn : n < M.length) {u : MO} (h : RepO K cl (upd H (f n) o) f M.length (f n) u) : Rl K cl (upd H (f n) o) f (M.set n u) := by
  refine ⟨fun i j hi hj e => r.inj i j (by simpa using hi) (by simpa using hj) e, fun i w hi => ?_⟩
  rw [List.length_set]
  by_cases e : n = i
  · subst e
    rw [List.getElem?_set_self hn] at hi
    cases hi
    exact h
  · rw [List.getElem?_set_ne e] at hi
    have hil : i < M.length := (List.getElem?_eq_some_iff.mp hi).1
    exact (r.obj i w hi).mv (Mv.upd (r.there hn) M.length) (upd_ne fun z => e (r.inj _ _ hil hn z).symm)
theorem Ext.write {n : Nat} (hn : n < M.length) {u : MO} : Ext H f M (L2.upd H (f n) o) f (M.set n u) where
  le := by rw [List.length_set]; exact Nat.le_refl _
  same := fun _ _ => rfl
  new := fun i h1 h2 => absurd h2 (by rw [List.length_set]; omega)
  keep := fun a w h ho => by rw [upd_ne (Ne.symm (ho n hn))]; exact h
end

theorem _root_.L2.PE.weak {X : Cx} {e : Expr} {t t' : TE} (h : PE X e t) (w : ∀ σ H Q, t' σ H Q → t σ H Q) : PE X e t' := ⟨fun pins s σ H Q I q => h.run pins s σ H Q I (w σ H Q q)⟩
theorem _root_.L2.PT.weak {X : Cx} {e : Expr} {t t' : TT} (h : PT X e t) (w : ∀ σ H Q, t' σ H Q → t σ H Q) : PT X e t' := ⟨fun pins s σ H Q I q => h.run pins s σ H Q I (w σ H Q q)⟩
theorem _root_.L2.PA.weak {X : Cx} {e : List Expr} {t t' : TA} (h : PA X e t) (w : ∀ σ H Q, t' σ H Q → t σ H Q) : PA X e t' := ⟨fun pos pins s σ H Q I q => h.run pos pins s σ H Q I (w σ H Q q)⟩
theorem _root_.L2.PS.weak {X : Cx} {e : Stmt} {t t' : TS} (h : PS X e t) (w : ∀ D σ H, t' D σ H → t D σ H) : PS X e t' := ⟨fun pins s σ H D I q => h.run pins s σ H D I (w D σ H q)⟩
theorem _root_.L2.PSs.weak {X : Cx} {e : List Stmt} {t t' : TS} (h : PSs X e t) (w : ∀ D σ H, t' D σ H → t D σ H) : PSs X e t' := ⟨fun pins s σ H D I q => h.run pins s σ H D I (w D σ H q)⟩
theorem _root_.L2.PI.weak {X : Cx} {tg e : Expr} {t t' : TI} (h : PI X tg e t) (w : ∀ σ H R, t' σ H R → t σ H R) : PI X tg e t' := ⟨fun pins s σ H R I q => h.run pins s σ H R I (w σ H R q)⟩
end RF

/-! RFb: the small language and what it means over plain data. -/
namespace RF
open PySem PySem.Spec PyProof.Rows L2

noncomputable section
inductive Bi where
  | len | abs | max | min | int | bool | tuple | list | sum | all | any | gcd
  deriving DecidableEq
def Bi.name : Bi → Str
  | .len => "len"
  | .abs => "abs"
  | .max => "max"
  | .min => "min"
  | .int => "int"
  | .bool => "bool"
  | .tuple => "tuple"
  | .list => "list"
  | .sum => "sum"
  | .all => "all"
  | .any => "any"
  | .gcd => "gcd"

inductive Tg where
  | nm (i : Nat)
  | tup (is : List Nat)

mutual
inductive E where
  | loc (i : Nat)
  | int (i : Int)
  | bl (b : Bool)
  | non
  | str (x : Str)
  | glob (x : Str) (d : D)
  | tup (es : Es)
  | lst (es : Es)
  | bin (op : Operator) (a b : E)
  | neg (a : E)
  | cmp (op : CmpOp) (a b : E)
  | cmp2 (op op' : CmpOp) (a b c : E)
  | and (es : Es)
  | or (es : Es)
  | not (a : E)
  | ife (c a b : E)
  | idx (a i : E)
  | slc (a : E) (lo hi : Eo)
  | fld (o : E) (C f : Str)
  | call (x : Str) (F : FS) (es : Es)
  | meth (o : E) (C m : Str) (F : FS) (es : Es)
  | mk (C : Str) (F : FS) (es : Es)
  | bi (b : Bi) (es : Es)
  | isI (T : String) (a : E)
  | get (x : Str) (k : E) (d : List (Str × D))
  | app (o e : E)
  | lc (own : List (Str × Nat)) (tg : Tg) (it : It) (c : Eo) (elt : E)
  | blc (b : Bi) (own : List (Str × Nat)) (tg : Tg) (it : It) (c : Eo) (elt : E)
inductive Es where
  | nil
  | cons (e : E) (r : Es)
inductive Eo where
  | none
  | some (e : E)
inductive It where
  | seq (e : E)
  | rng1 (a : E)
  | rng2 (a b : E)
  | rng3 (a b c : E)
  | enum (e : E)
  | zip (a b : E)
end

mutual
inductive S where
  | set (i : Nat) (e : E)
  | par (i j : Nat) (a b : E)
  | unp (is : List Nat) (e : E)
  | sub (a i e : E)
  | fld (o : E) (C f : Str) (e : E)
  | aug (i : Nat) (op : Operator) (e : E)
  | ex (e : E)
  | ret (e : E)
  | retN
  | ite (c : E) (a b : Ss)
  | for (tg : Tg) (it : It) (b : Ss)
  | whl (c : E) (b : Ss)
  | brk
  | cnt
  | pass
  | wall
inductive Ss where
  | nil
  | cons (s : S) (r : Ss)
end

/-! ### values -/
def lstAt (M : MH) (n : Nat) : Option (List D) := match M[n]? with
  | some (.lst xs) => some xs
  | _ => none
theorem lstAt_some {M : MH} {n : Nat} {xs : List D} (h : lstAt M n = some xs) : M[n]? = some (.lst xs) := by
  unfold lstAt at h
  split at h
  · rename_i ys e; cases h; exact e
  · cases h
theorem lstAt_of {M : MH} {n : Nat} {xs : List D} (h : M[n]? = some (.lst xs)) : lstAt M n = some xs := by
  unfold lstAt; rw [h]
def isD (T : String) (M : MH) : D → Option Bool
  | .non => some (T == "NoneType")
  | .bl _ => some (T == "bool" || T == "int")
  | .int _ => some (T == "int")
  | .str _ => some (T == "str")
  | .tup _ => some (T == "tuple")
  | .frl _ => none
  | .loc n => (lstAt M n).map fun _ => T == "list"

mutual
def toP (M : MH) : Nat → D → Option PyData
  | _, .non => some .none
  | _, .bl b => some (.bool b)
  | _, .int i => some (.int i)
  | _, .str x => some (.str x)
  | k, .tup xs => (toPs M k xs).map .tuple
  | k, .frl xs => (toPs M k xs).map .list
  | 0, .loc _ => none
  | k + 1, .loc n => match M[n]? with
    | some (.lst xs) => (toPs M k xs).map .list
    | _ => none
def toPs (M : MH) : Nat → List D → Option (List PyData)
  | _, [] => some []
  | k, d :: ds => match toP M k d, toPs M k ds with
    | some a, some r => some (a :: r)
    | _, _ => none
end
/-- == of data -/
def eqD (M : MH) (a b : D) : Option Bool :=
  match toP M 3 a, toP M 3 b with
  | some p, some q => if SeqAt.shaped p = true ∧ SeqAt.shaped q = true then some (PyData.eqv p q) else none
  | _, _ => none

def truth (M : MH) : D → Option Bool
  | .non => some false
  | .bl b => some b
  | .int i => some (i != 0)
  | .str x => if x.length ≤ sizeLine then some (x.length != 0) else none
  | .tup xs => some (!xs.isEmpty)
  | .frl xs => some (!xs.isEmpty)
  | .loc n => (lstAt M n).map fun xs => !xs.isEmpty

def okMul (i j : Int) : Prop := (-(2 ^ 64) < i ∧ i < 2 ^ 64) ∨ (-(2 ^ 64) < j ∧ j < 2 ^ 64) ∨ i.natAbs.log2 + j.natAbs.log2 < 1000000
def okDiv (j : Int) : Prop := 0 < j ∧ j.natAbs.log2 < 9000
def okDivN (j : Int) : Prop := j ≠ 0 ∧ j.natAbs < 1073741824
def okPow (i j : Int) : Prop := 0 ≤ j ∧ j ≤ 1000000 ∧ i.natAbs < 2 ^ 64
open Classical in
def binD (op : Operator) (a b : D) (M : MH) : RE D :=
  match op, a, b with
  | .Add, .int i, .int j => .ok (.int (i + j)) M
  | .Sub, .int i, .int j => .ok (.int (i - j)) M
  | .Mult, .int i, .int j => if okMul i j then .ok (.int (i * j)) M else .unk
  | .FloorDiv, .int i, .int j => if okDiv j ∨ okDivN j then .ok (.int (i.fdiv j)) M else .unk
  | .Mod, .int i, .int j => if j ≠ 0 then .ok (.int (i.fmod j)) M else .unk
  | .Pow, .int i, .int j => if okPow i j then .ok (.int (i ^ j.toNat)) M else .unk
  | .LShift, .int i, .int j => if okPow i j then .ok (.int (i * 2 ^ j.toNat)) M else .unk
  | .Add, .tup xs, .tup ys => if xs.length + ys.length ≤ sizeLine then .ok (.tup (xs ++ ys)) M else .unk
  | .Mult, .tup xs, .int k => if xs ≠ [] ∧ xs.length ≤ 1000 ∧ 2 ≤ k ∧ k ≤ 1000 then .ok (.tup (List.replicate k.toNat xs).flatten) M else .unk
  | .Add, .loc n, .loc m => match M[n]?, M[m]? with
    | some (.lst xs), some (.lst ys) => if xs.length + ys.length ≤ sizeLine then .ok (.loc M.length) (M ++ [.lst (xs ++ ys)]) else .unk
    | _, _ => .unk
  | .Mult, .loc n, .int k => match M[n]? with
    | some (.lst xs) => if -(2 ^ 63) ≤ k ∧ k < 2 ^ 63 ∧ xs.length * k.toNat ≤ sizeLine then .ok (.loc M.length) (M ++ [.lst (List.replicate k.toNat xs).flatten]) else .unk
    | _ => .unk
  | _, _, _ => .unk

def D.isNon : D → Bool
  | .non => true
  | _ => false
def cmpD (op : CmpOp) (a b : D) (M : MH) : RE D :=
  match op, a, b with
  | .Lt, .int i, .int j => .ok (.bl (decide (i < j))) M
  | .LtE, .int i, .int j => .ok (.bl (decide (i ≤ j))) M
  | .Gt, .int i, .int j => .ok (.bl (decide (j < i))) M
  | .GtE, .int i, .int j => .ok (.bl (decide (j ≤ i))) M
  | .Eq, .int i, .int j => .ok (.bl (decide (i = j))) M
  | .NotEq, .int i, .int j => .ok (.bl (!decide (i = j))) M
  | .Eq, .str i, .str j => .ok (.bl (decide (i = j))) M
  | .NotEq, .str i, .str j => .ok (.bl (!decide (i = j))) M
  | .Eq, .bl i, .bl j => .ok (.bl (decide (i = j))) M
  | .NotEq, .bl i, .bl j => .ok (.bl (!decide (i = j))) M
  | .Is, .bl i, .bl j => .ok (.bl (decide (i = j))) M
  | .IsNot, .bl i, .bl j => .ok (.bl (!decide (i = j))) M
  | .Is, d, .non => .ok (.bl d.isNon) M
  | .IsNot, d, .non => .ok (.bl (!d.isNon)) M
  | .Eq, a, b => match eqD M a b with
    | some c => .ok (.bl c) M
    | none => .unk
  | .NotEq, a, b => match eqD M a b with
    | some c => .ok (.bl (!c)) M
    | none => .unk
  | _, _, _ => .unk

def idxD (a i : D) (M : MH) : RE D :=
  match a, i with
  | .tup xs, .int i => match atI xs i with
    | some d => .ok d M
    | none => .unk
  | .frl xs, .int i => match atI xs i with
    | some d => .ok d M
    | none => .unk
  | .loc n, .int i => match M[n]? with
    | some (.lst xs) => match atI xs i with
      | some d => .ok d M
      | none => .unk
    | _ => .unk
  | _, _ => .unk

def cutD (xs : List D) (lo hi : Option Int) : List D := (xs.drop (HT.sIx xs.length 0 lo)).take (HT.sIx xs.length xs.length hi - HT.sIx xs.length 0 lo)
def slcD (a : D) (lo hi : Option Int) (M : MH) : RE D :=
  match a with
  | .tup xs => .ok (.tup (cutD xs lo hi)) M
  | .frl xs => .ok (.loc M.length) (M ++ [.lst (cutD xs lo hi)])
  | .loc n => match M[n]? with
    | some (.lst xs) => .ok (.loc M.length) (M ++ [.lst (cutD xs lo hi)])
    | _ => .unk
  | _ => .unk

def boolsOf : List D → Option (List Bool)
  | [] => some []
  | .bl b :: r => (boolsOf r).map (b :: ·)
  | _ => none
def intsOf : List D → Option (List Int)
  | [] => some []
  | .int b :: r => (intsOf r).map (b :: ·)
  | _ => none
def maxOf : List Int → Option Int
  | [] => none
  | x :: r => some (r.foldl (fun m y => if y > m then y else m) x)
/-- a built-in of one list's items -/
def Bi.semL : Bi → List D → Option D
  | .len, ds => some (.int ds.length)
  | .tuple, ds => some (.tup ds)
  | .all, ds => (boolsOf ds).map fun bs => .bl (bs.all id)
  | .any, ds => (boolsOf ds).map fun bs => .bl (bs.any id)
  | .sum, ds => (intsOf ds).map fun bs => .int bs.sum
  | .max, ds => (intsOf ds).bind fun bs => (maxOf bs).map .int
  | _, _ => none
def Bi.sem (b : Bi) (ds : List D) (M : MH) : RE D :=
  match b, ds with
  | .len, [.tup xs] => .ok (.int xs.length) M
  | .len, [.frl xs] => .ok (.int xs.length) M
  | .abs, [.int i] => .ok (.int (if i < 0 then -i else i)) M
  | .int, [.int i] => .ok (.int i) M
  | .int, [.bl k] => .ok (.int (if k then 1 else 0)) M
  | .max, [.int i, .int j] => .ok (.int (if j > i then j else i)) M
  | .min, [.int i, .int j] => .ok (.int (if j < i then j else i)) M
  | .gcd, [.int i, .int j] => .ok (.int (Nat.gcd i.natAbs j.natAbs : Nat)) M
  | .tuple, [.tup xs] => .ok (.tup xs) M
  | .list, [.tup xs] => .ok (.loc M.length) (M ++ [.lst xs])
  | .list, [.frl xs] => .ok (.loc M.length) (M ++ [.lst xs])
  | .list, [.loc n] => match M[n]? with
    | some (.lst xs) => .ok (.loc M.length) (M ++ [.lst xs])
    | _ => .unk
  | b, [.loc n] => match M[n]? with
    | some (.lst xs) => match b.semL xs with
      | some d => .ok d M
      | none => .unk
    | _ => .unk
  | _, _ => .unk

def fldD (o : D) (C f : Str) (M : MH) : RE D :=
  match o with
  | .loc n => match M[n]? with
    | some (.ins C' fs) => if C' = C then match fs.lookup f with
      | some d => .ok d M
      | none => .unk
      else .unk
    | _ => .unk
  | _ => .unk
def putFD (f : Str) (v : D) : List (Str × D) → List (Str × D)
  | [] => [(f, v)]
  | (g, w) :: r => if g = f then (g, v) :: r else (g, w) :: putFD f v r
def setFldD (o : D) (C f : Str) (v : D) (M : MH) : RE Unit :=
  match o with
  | .loc n => match M[n]? with
    | some (.ins C' fs) => if C' = C ∧ fs.length < 1000 then .ok () (M.set n (.ins C (putFD f v fs))) else .unk
    | _ => .unk
  | _ => .unk
def setIdxD (o i v : D) (M : MH) : RE Unit :=
  match o, i with
  | .loc n, .int k => match M[n]? with
    | some (.lst xs) => match ixN xs.length k with
      | some j => .ok () (M.set n (.lst (xs.set j v)))
      | none => .unk
    | _ => .unk
  | _, _ => .unk
def appD (o v : D) (M : MH) : RE D :=
  match o with
  | .loc n => match M[n]? with
    | some (.lst xs) => if xs.length < sizeLine then .ok .non (M.set n (.lst (xs ++ [v]))) else .unk
    | _ => .unk
  | _ => .unk
def getD (k : D) (kvs : List (Str × D)) (M : MH) : RE D :=
  match k with
  | .str x => match kvs.lookup x with
    | some d => .ok d M
    | none => .ok .non M
  | _ => .unk

/-! ### what is walked: the items, and the lists that must stay as they are meanwhile -/
abbrev Gd := List (Nat × List D)
def gdOk (M : MH) : Gd → Prop
  | [] => True
  | (n, xs) :: r => M[n]? = some (.lst xs) ∧ gdOk M r
def seqOf (d : D) (M : MH) : Option (List D × Gd) :=
  match d with
  | .tup xs => some (xs, [])
  | .frl xs => some (xs, [])
  | .loc n => match M[n]? with
    | some (.lst xs) => some (xs, [(n, xs)])
    | _ => none
  | _ => none
def rngD (lo c : Int) (n : Nat) : List D := (List.range n).map fun (i : Nat) => D.int (lo + (i : Int) * c)
def enumFrom (k : Nat) : List D → List D
  | [] => []
  | d :: r => .tup [.int k, d] :: enumFrom (k + 1) r
def zipD : List D → List D → List D
  | a :: r, b :: s => .tup [a, b] :: zipD r s
  | _, _ => []
def okR (i : Int) : Prop := -(2 ^ 62) ≤ i ∧ i < 2 ^ 62
def okR3 (i j k : Int) : Prop := k ≠ 0 ∧ k.natAbs < 1073741824 ∧ Builtin.Range.small i j k = true ∧ 0 ≤ Builtin.Range.rangeSize i j k
def D.isTup : D → Bool
  | .tup _ => true
  | _ => false

def bindTg (tg : Tg) (d : D) (δ : Ev) : Option Ev :=
  match tg with
  | .nm i => some (δ.set i (some d))
  | .tup is => match d with
    | .tup ds => if ds.length = is.length then some ((is.zip ds).foldl (fun δ p => δ.set p.1 (some p.2)) δ) else none
    | _ => none
def wipeD (δ : Ev) : List Nat → Ev
  | [] => δ
  | v :: vs => (wipeD δ vs).set v none

open Classical in
/-- a comprehension's turns -/
def lcLoop (g : Gd) (f : D → MH → RE (Option D)) : List D → List D → MH → RE (List D)
  | [], acc, M => if gdOk M g then .ok acc M else .unk
  | d :: ds, acc, M => if gdOk M g then (match f d M with
      | .ok (some y) M => if acc.length < sizeLine then lcLoop g f ds (acc ++ [y]) M else .unk
      | .ok none M => lcLoop g f ds acc M
      | _ => .unk) else .unk
/-- one turn of a comprehension -/
def lcTurn (tg : Tg) (c : Ev → MH → RE Bool) (e : Ev → MH → RE D) (δ : Ev) (d : D) (M : MH) : RE (Option D) :=
  match bindTg tg d δ with
  | some δ' => (c δ' M).bind fun k M => if k = true then (e δ' M).bind fun y M => .ok (some y) M else .ok none M
  | none => .unk

open Classical in
mutual
def evE : E → Ev → MH → RE D
  | .loc i, δ, M => match δ[i]? with
    | some (some d) => .ok d M
    | _ => .unk
  | .int i, _, M => .ok (.int i) M
  | .bl i, _, M => .ok (.bl i) M
  | .non, _, M => .ok .non M
  | .str i, _, M => .ok (.str i) M
  | .glob _ d, _, M => .ok d M
  | .tup es, δ, M => (evEs es δ M).bind fun ds M => if ds.length ≤ sizeLine then .ok (.tup ds) M else .unk
  | .lst es, δ, M => (evEs es δ M).bind fun ds M => if ds.length ≤ sizeLine then .ok (.loc M.length) (M ++ [.lst ds]) else .unk
  | .bin op a b, δ, M => (evE a δ M).bind fun x M => (evE b δ M).bind fun y M => binD op x y M
  | .neg a, δ, M => (evE a δ M).bind fun x M => match x with
    | .int i => .ok (.int (-i)) M
    | _ => .unk
  | .cmp op a b, δ, M => (evE a δ M).bind fun x M => (evE b δ M).bind fun y M => cmpD op x y M
  | .cmp2 op op' a b c, δ, M => (evE a δ M).bind fun x M => (evE b δ M).bind fun y M => (cmpD op x y M).bind fun z M => match z with
    | .bl true => (evE c δ M).bind fun w M => cmpD op' y w M
    | .bl false => .ok (.bl false) M
    | _ => .unk
  | .and es, δ, M => evAnd es δ M
  | .or es, δ, M => evOr es δ M
  | .not a, δ, M => (evE a δ M).bind fun x M => match x with
    | .bl b => .ok (.bl (!b)) M
    | _ => .unk
  | .ife c a b, δ, M => (evE c δ M).bind fun x M => match truth M x with
    | some true => evE a δ M
    | some false => evE b δ M
    | none => .unk
  | .idx a i, δ, M => (evE a δ M).bind fun x M => (evE i δ M).bind fun y M => idxD x y M
  | .slc a lo hi, δ, M => (evE a δ M).bind fun x M => (evEo lo δ M).bind fun l M => (evEo hi δ M).bind fun h M => slcD x l h M
  | .fld o C f, δ, M => (evE o δ M).bind fun x M => fldD x C f M
  | .call _ F es, δ, M => (evEs es δ M).bind fun ds M => F ds M
  | .meth o C m F es, δ, M => (evE o δ M).bind fun x M => match x with
    | .loc n => match M[n]? with
      | some (.ins C' fs) => if C' = C ∧ fs.lookup m = none then (evEs es δ M).bind fun ds M => F (x :: ds) M else .unk
      | _ => .unk
    | _ => .unk
  | .mk C F es, δ, M => (evEs es δ M).bind fun ds M => (F (.loc M.length :: ds) (M ++ [.ins C []])).bind fun r M' => match r with
    | .non => .ok (.loc M.length) M'
    | _ => .unk
  | .bi b es, δ, M => (evEs es δ M).bind fun ds M => b.sem ds M
  | .isI T a, δ, M => (evE a δ M).bind fun x M => match isD T M x with
    | some b => .ok (.bl b) M
    | none => .unk
  | .get _ k d, δ, M => (evE k δ M).bind fun x M => getD x d M
  | .app o e, δ, M => (evE o δ M).bind fun x M => match x with
    | .loc n => match M[n]? with
      | some (.lst _) => (evE e δ M).bind fun y M => appD x y M
      | _ => .unk
    | _ => .unk
  | .lc own tg it c e, δ, M => (evIt it δ M).bind fun p M => (lcLoop p.2 (lcTurn tg (evC c) (evE e) (wipeD δ (own.map (·.2)))) p.1 [] M).bind fun ds M => .ok (.loc M.length) (M ++ [.lst ds])
  | .blc b own tg it c e, δ, M => (evIt it δ M).bind fun p M => (lcLoop p.2 (lcTurn tg (evC c) (evE e) (wipeD δ (own.map (·.2)))) p.1 [] M).bind fun ds M => match b.semL ds with
      | some d => .ok d M
      | none => .unk
def evEs : Es → Ev → MH → RE (List D)
  | .nil, _, M => .ok [] M
  | .cons e r, δ, M => (evE e δ M).bind fun d M => (evEs r δ M).bind fun ds M => .ok (d :: ds) M
def evAnd : Es → Ev → MH → RE D
  | .nil, _, _ => .unk
  | .cons e .nil, δ, M => evE e δ M
  | .cons e r, δ, M => (evE e δ M).bind fun d M => match d with
    | .bl true => evAnd r δ M
    | .bl false => .ok (.bl false) M
    | _ => .unk
def evOr : Es → Ev → MH → RE D
  | .nil, _, _ => .unk
  | .cons e .nil, δ, M => evE e δ M
  | .cons e r, δ, M => (evE e δ M).bind fun d M => match d with
    | .bl true => .ok (.bl true) M
    | .bl false => evOr r δ M
    | _ => .unk
def evEo : Eo → Ev → MH → RE (Option Int)
  | .none, _, M => .ok none M
  | .some e, δ, M => (evE e δ M).bind fun d M => match d with
    | .int i => .ok (some i) M
    | _ => .unk
def evC : Eo → Ev → MH → RE Bool
  | .none, _, M => .ok true M
  | .some e, δ, M => (evE e δ M).bind fun d M => match truth M d with
    | some b => .ok b M
    | none => .unk
def evIt : It → Ev → MH → RE (List D × Gd)
  | .seq e, δ, M => (evE e δ M).bind fun d M => match seqOf d M with
    | some p => .ok p M
    | none => .unk
  | .rng1 a, δ, M => (evE a δ M).bind fun x M => match x with
    | .int j => if okR j then .ok (rngD 0 1 j.toNat, []) M else .unk
    | _ => .unk
  | .rng2 a b, δ, M => (evE a δ M).bind fun x M => (evE b δ M).bind fun y M => match x, y with
    | .int i, .int j => if okR i ∧ okR j then .ok (rngD i 1 (j - i).toNat, []) M else .unk
    | _, _ => .unk
  | .rng3 a b c, δ, M => (evE a δ M).bind fun x M => (evE b δ M).bind fun y M => (evE c δ M).bind fun z M => match x, y, z with
    | .int i, .int j, .int k => if okR3 i j k then .ok (rngD i k (Builtin.Range.rangeSize i j k).toNat, []) M else .unk
    | _, _, _ => .unk
  | .enum e, δ, M => (evE e δ M).bind fun d M => match seqOf d M with
    | some p => .ok (enumFrom 0 p.1, p.2) M
    | none => .unk
  | .zip a b, δ, M => (evE a δ M).bind fun x M => (evE b δ M).bind fun y M => match seqOf x M, seqOf y M with
    | some p, some q => if x.isTup = y.isTup then .ok (zipD p.1 q.1, p.2 ++ q.2) M else .unk
    | _, _ => .unk
end
end
end RF

/-! RFc: the operators and built-ins by values. -/
namespace RF
open PySem PySem.Spec PyProof.Rows L2
section
variable {X : Cx} {cl : Cls0} {W : WX}
def rB2 (K : PySem.W.Frag) (cl : Cls0) (W : WX) (g : D → D → MH → RE D) : R2 := fun x y H Q => ∃ a b f M σ, Rl K cl H f M ∧ Rep K H f M.length a x ∧ Rep K H f M.length b y ∧ PostE K cl W (rpD K) σ (g a b M) H f M Q

theorem Rep.int {K : PySem.W.Frag} {H : Hp} {f : Nat → Addr} {n : Nat} {i : Int} {v : V} (h : Rep K H f n (.int i) v) : v = .int i := by unfold Rep at h; exact h
theorem Rep.str {K : PySem.W.Frag} {H : Hp} {f : Nat → Addr} {n : Nat} {i : Str} {v : V} (h : Rep K H f n (.str i) v) : v = .str i := by unfold Rep at h; exact h
theorem Rep.bl {K : PySem.W.Frag} {H : Hp} {f : Nat → Addr} {n : Nat} {i : Bool} {v : V} (h : Rep K H f n (.bl i) v) : v = .bl i := by unfold Rep at h; exact h
theorem Rep.non {K : PySem.W.Frag} {H : Hp} {f : Nat → Addr} {n : Nat} {v : V} (h : Rep K H f n .non v) : v = .non := by unfold Rep at h; exact h
theorem Rep.loc {K : PySem.W.Frag} {H : Hp} {f : Nat → Addr} {n : Nat} {i : Nat} {v : V} (h : Rep K H f n (.loc i) v) : v = .ref (f i) ∧ i < n := by unfold Rep at h; exact h
theorem Rep.tup {K : PySem.W.Frag} {H : Hp} {f : Nat → Addr} {n : Nat} {xs : List D} {v : V} (h : Rep K H f n (.tup xs) v) : ∃ a vs, v = .ref a ∧ SqT K H a vs ∧ Reps K H f n xs vs := by unfold Rep at h; exact h
theorem Rep.frl {K : PySem.W.Frag} {H : Hp} {f : Nat → Addr} {n : Nat} {xs : List D} {v : V} (h : Rep K H f n (.frl xs) v) : ∃ a vs, v = .ref a ∧ SqF K H a vs ∧ Reps K H f n xs vs := by unfold Rep at h; exact h
theorem rep_int {K : PySem.W.Frag} {H : Hp} {f : Nat → Addr} {n : Nat} {i : Int} : Rep K H f n (.int i) (.int i) := by unfold Rep; rfl
theorem rep_bl {K : PySem.W.Frag} {H : Hp} {f : Nat → Addr} {n : Nat} {i : Bool} : Rep K H f n (.bl i) (.bl i) := by unfold Rep; rfl
theorem rep_str {K : PySem.W.Frag} {H : Hp} {f : Nat → Addr} {n : Nat} {i : Str} : Rep K H f n (.str i) (.str i) := by unfold Rep; rfl
theorem rep_non {K : PySem.W.Frag} {H : Hp} {f : Nat → Addr} {n : Nat} : Rep K H f n .non .non := by unfold Rep; rfl
theorem rep_tup {K : PySem.W.Frag} {H : Hp} {f : Nat → Addr} {n : Nat} {xs : List D} {a : Addr} {vs : List V} (h : SqT K H a vs) (r : Reps K H f n xs vs) : Rep K H f n (.tup xs) (.ref a) := by unfold Rep; exact ⟨a, vs, rfl, h, r⟩
theorem rep_loc {K : PySem.W.Frag} {H : Hp} {f : Nat → Addr} {n i : Nat} (h : i < n) : Rep K H f n (.loc i) (.ref (f i)) := by unfold Rep; exact ⟨rfl, h⟩
theorem Reps.nil {K : PySem.W.Frag} {H : Hp} {f : Nat → Addr} {n : Nat} : Reps K H f n [] [] := by unfold Reps; rfl
theorem Reps.cons {K : PySem.W.Frag} {H : Hp} {f : Nat → Addr} {n : Nat} {d : D} {v : V} {ds : List D} {vs : List V} (h : Rep K H f n d v) (r : Reps K H f n ds vs) : Reps K H f n (d :: ds) (v :: vs) := by unfold Reps; exact ⟨v, vs, rfl, h, r⟩
theorem Reps.nil' {K : PySem.W.Frag} {H : Hp} {f : Nat → Addr} {n : Nat} {vs : List V} (h : Reps K H f n [] vs) : vs = [] := by unfold Reps at h; exact h
theorem Reps.cons' {K : PySem.W.Frag} {H : Hp} {f : Nat → Addr} {n : Nat} {d : D} {ds : List D} {vs : List V} (h : Reps K H f n (d :: ds) vs) : ∃ v r, vs = v :: r ∧ Rep K H f n d v ∧ Reps K H f n ds r := by unfold Reps at h; exact h
theorem Reps.eq_nil {K : PySem.W.Frag} {H : Hp} {f : Nat → Addr} {n : Nat} {ds : List D} {vs : List V} (h : Reps K H f n ds vs) : vs = [] ↔ ds = [] := by
  have := h.length
  constructor
  · intro e; subst e; exact List.length_eq_zero_iff.mp this
  · intro e; subst e; exact List.length_eq_zero_iff.mp this.symm
theorem Rl.lst {K : PySem.W.Frag} {H : Hp} {f : Nat → Addr} {M : MH} (r : Rl K cl H f M) {n : Nat} {xs : List D} (h : M[n]? = some (.lst xs)) : ∃ vs, H (f n) = some (.lst vs) ∧ Reps K H f M.length xs vs := r.obj n _ h
theorem Rl.ins {K : PySem.W.Frag} {H : Hp} {f : Nat → Addr} {M : MH} (r : Rl K cl H f M) {n : Nat} {C : Str} {fs : List (Str × D)} (h : M[n]? = some (.ins C fs)) : ∃ dx gs, H (f n) = some (.ins (cl C) dx gs) ∧ RepF K H f M.length fs gs := r.obj n _ h

section
variable {K : PySem.W.Frag} {σ : L2.St} {H : Hp} {f : Nat → Addr} {M : MH} {Q : VK} {p : Addr}
/-- a new tuple is the value -/
theorem PostE.tup {ds : List D} {vs : List V} (h : PostE K cl W (rpD K) σ (.ok (.tup ds) M) H f M Q) (r : Rl K cl H f M) (rp : Reps K H f M.length ds vs) (hp : H p = none) : Q (.ref p) (upd H p (.tup vs)) := by
  have x : Ext H f M (upd H p (.tup vs)) f M := Ext.laid hp
  exact h _ _ f x (r.laid hp) (rep_tup (SqT.of upd_same) (Reps.mv (x.mv r) _ _ rp))
/-- a new list is the value -/
theorem PostE.lst {ds : List D} {vs : List V} (h : PostE K cl W (rpD K) σ (.ok (.loc M.length) (M ++ [.lst ds])) H f M Q) (r : Rl K cl H f M) (rp : Reps K H f M.length ds vs) (hp : H p = none) : Q (.ref p) (upd H p (.lst vs)) := by
  have x : Ext H f M (upd H p (.lst vs)) f M := Ext.laid hp
  have r1 : Rl K cl (upd H p (.lst vs)) f M := r.laid hp
  have q := h (.ref p) (upd H p (.lst vs)) (setf f M.length p) (x.take_in hp) (r1.take_in (r.outN hp) ⟨vs, upd_same, Reps.mv (x.mv r) _ _ rp⟩)
  refine q ?_
  have e := rep_loc (K := K) (H := upd H p (.lst vs)) (f := setf f M.length p) (n := (M ++ [MO.lst ds]).length) (i := M.length) (by rw [List.length_append, List.length_singleton]; omega)
  rwa [setf_same] at e
theorem PostE.same {d : D} {v : V} (h : PostE K cl W (rpD K) σ (.ok d M) H f M Q) (r : Rl K cl H f M) (rp : Rep K H f M.length d v) : Q v H := h v H f (Ext.refl _ _ _) r rp
end
theorem reps_flat {K : PySem.W.Frag} {H : Hp} {f : Nat → Addr} {n : Nat} {xs : List D} {vs : List V} (h : Reps K H f n xs vs) : ∀ k : Nat, Reps K H f n (List.replicate k xs).flatten (List.replicate k vs).flatten
  | 0 => Reps.nil
  | k + 1 => by
    rw [List.replicate_succ, List.replicate_succ, List.flatten_cons, List.flatten_cons]
    exact h.append (reps_flat h k)

theorem op_bin (op : Operator) : OpR X (binaryOp op) (rB2 X.K cl W (binD op)) := by
  intro pins s σ H x y v u Q I rx ry h
  obtain ⟨a, b, f, M, σ', r, ra, rb, h⟩ := h
  unfold binD at h
  split at h
  · rename_i i j
    have e1 := ra.int; have e2 := rb.int; subst e1; subst e2
    exact op_add pins s σ H _ _ v u Q I rx ry ⟨i, j, rfl, rfl, h.same r rep_int⟩
  · rename_i i j
    have e1 := ra.int; have e2 := rb.int; subst e1; subst e2
    exact op_sub pins s σ H _ _ v u Q I rx ry ⟨i, j, rfl, rfl, h.same r rep_int⟩
  · rename_i i j
    have e1 := ra.int; have e2 := rb.int; subst e1; subst e2
    split at h
    · rename_i hm
      rcases hm with hm | hm | hm
      · exact op_mul pins s σ H _ _ v u Q I rx ry ⟨i, j, rfl, rfl, .inl hm, h.same r rep_int⟩
      · exact op_mul pins s σ H _ _ v u Q I rx ry ⟨i, j, rfl, rfl, .inr hm, h.same r rep_int⟩
      · exact op_mulW pins s σ H _ _ v u Q I rx ry ⟨i, j, rfl, rfl, hm, h.same r rep_int⟩
    · exact h.elim
  · rename_i i j
    have e1 := ra.int; have e2 := rb.int; subst e1; subst e2
    split at h
    · rename_i hm
      rcases hm with hm | hm
      · refine op_fdivW pins s σ H _ _ v u Q I rx ry ⟨i, j, rfl, rfl, hm, ?_⟩
        have q := h.same r rep_int
        rwa [Int.fdiv_eq_ediv_of_nonneg i (Int.le_of_lt hm.1)] at q
      · exact op_fdivN pins s σ H _ _ v u Q I rx ry ⟨i, j, rfl, rfl, hm, h.same r rep_int⟩
    · exact h.elim
  · rename_i i j
    have e1 := ra.int; have e2 := rb.int; subst e1; subst e2
    split at h
    · rename_i hm
      exact op_modN pins s σ H _ _ v u Q I rx ry ⟨i, j, rfl, rfl, hm, h.same r rep_int⟩
    · exact h.elim
  · rename_i i j
    have e1 := ra.int; have e2 := rb.int; subst e1; subst e2
    split at h
    · rename_i hm
      exact op_pow pins s σ H _ _ v u Q I rx ry ⟨i, j, rfl, rfl, hm, h.same r rep_int⟩
    · exact h.elim
  · rename_i i j
    have e1 := ra.int; have e2 := rb.int; subst e1; subst e2
    split at h
    · rename_i hm
      exact op_shl pins s σ H _ _ v u Q I rx ry ⟨i, j, rfl, rfl, hm, h.same r rep_int⟩
    · exact h.elim
  · rename_i xs ys
    obtain ⟨p, vs, rfl, h1, r1⟩ := ra.tup
    obtain ⟨q, ws, rfl, h2, r2⟩ := rb.tup
    split at h
    · rename_i hl
      refine op_catA pins s σ H _ _ v u Q I rx ry ⟨p, q, vs, ws, rfl, rfl, h1, h2, by rw [← r1.length, ← r2.length]; exact hl, fun e => ?_, fun _ e => ?_, fun _ _ a ha => ?_⟩
      · rw [r1.eq_nil.mp e, List.nil_append] at h
        exact h.same r rb
      · rw [r2.eq_nil.mp e, List.append_nil] at h
        exact h.same r ra
      · exact h.tup r (r1.append r2) ha
    · exact h.elim
  · rename_i xs k
    have e2 := rb.int; subst e2
    obtain ⟨p, vs, rfl, h1, r1⟩ := ra.tup
    split at h
    · rename_i hl
      refine op_repT pins s σ H _ _ v u Q I rx ry ⟨p, k, vs, rfl, rfl, h1, fun e => hl.1 (r1.eq_nil.mp e), hl.2.2.1, hl.2.2.2, by rw [← r1.length]; exact hl.2.1, fun a ha => ?_⟩
      exact h.tup r (reps_flat r1 _) ha
    · exact h.elim
  · rename_i n m
    obtain ⟨rfl, _⟩ := ra.loc
    obtain ⟨rfl, _⟩ := rb.loc
    split at h
    · rename_i xs ys hx hy
      obtain ⟨vs, h1, r1⟩ := r.lst hx
      obtain ⟨ws, h2, r2⟩ := r.lst hy
      split at h
      · rename_i hl
        exact op_cat pins s σ H _ _ v u Q I rx ry ⟨_, _, vs, ws, rfl, rfl, h1, h2, by rw [← r1.length, ← r2.length]; exact hl, fun a ha => h.lst r (r1.append r2) ha⟩
      · exact h.elim
    · exact h.elim
  · rename_i n k
    obtain ⟨rfl, _⟩ := ra.loc
    have e2 := rb.int; subst e2
    split at h
    · rename_i xs hx
      obtain ⟨vs, h1, r1⟩ := r.lst hx
      split at h
      · rename_i hl
        exact op_rep pins s σ H _ _ v u Q I rx ry ⟨_, k, vs, rfl, rfl, h1, hl.1, hl.2.1, by rw [← r1.length]; exact hl.2.2, fun a ha => h.lst r (reps_flat r1 _) ha⟩
      · exact h.elim
    · exact h.elim
  · exact h.elim

mutual
theorem toP_dp {K : PySem.W.Frag} {H : Hp} {f : Nat → Addr} {M : MH} (r : Rl K cl H f M) : ∀ (k : Nat) (d : D) (v : V) (p : PyData), Rep K H f M.length d v → toP M k d = some p → Dp K H v p
  | k, .non, v, p, h, e => by
    have := h.non; subst this
    unfold toP at e; cases e; exact .non
  | k, .bl b, v, p, h, e => by
    have := h.bl; subst this
    unfold toP at e; cases e; exact .bl b
  | k, .int i, v, p, h, e => by
    have := h.int; subst this
    unfold toP at e; cases e; exact .int i
  | k, .str x, v, p, h, e => by
    have := h.str; subst this
    unfold toP at e; cases e; exact .str x
  | k, .tup xs, v, p, h, e => by
    obtain ⟨a, vs, rfl, h1, h2⟩ := h.tup
    unfold toP at e
    cases q : toPs M k xs with
    | none => rw [q] at e; cases e
    | some ps =>
      rw [q] at e; cases e
      exact .tup h1 (toPs_dp r k xs vs ps h2 q)
  | k, .frl xs, v, p, h, e => by
    obtain ⟨a, vs, rfl, h1, h2⟩ := h.frl
    unfold toP at e
    cases q : toPs M k xs with
    | none => rw [q] at e; cases e
    | some ps =>
      rw [q] at e; cases e
      exact .lst h1.sql (toPs_dp r k xs vs ps h2 q)
  | 0, .loc n, v, p, h, e => by unfold toP at e; cases e
  | k + 1, .loc n, v, p, h, e => by
    obtain ⟨rfl, _⟩ := h.loc
    unfold toP at e
    split at e
    · rename_i xs hx
      obtain ⟨vs, h1, r1⟩ := r.lst hx
      cases q : toPs M k xs with
      | none => rw [q] at e; cases e
      | some ps =>
        rw [q] at e; cases e
        exact .lst (SqL.of h1) (toPs_dp r k xs vs ps r1 q)
    · cases e
theorem toPs_dp {K : PySem.W.Frag} {H : Hp} {f : Nat → Addr} {M : MH} (r : Rl K cl H f M) : ∀ (k : Nat) (ds : List D) (vs : List V) (ps : List PyData), Reps K H f M.length ds vs → toPs M k ds = some ps → DpAll K H vs ps
  | k, [], vs, ps, h, e => by
    have := h.nil'; subst this
    unfold toPs at e; cases e; exact .nil
  | k, d :: ds, vs, ps, h, e => by
    obtain ⟨v, w, rfl, h1, h2⟩ := h.cons'
    unfold toPs at e
    split at e
    · rename_i a t q1 q2
      cases e
      exact .cons (toP_dp r k d v a h1 q1) (toPs_dp r k ds w t h2 q2)
    · cases e
end

theorem op_cmp (hu : X.A.units + 64 < cLine) (op : CmpOp) : OpR X (compareOp op) (rB2 X.K cl W (cmpD op)) := by
  intro pins s σ H x y v u Q I rx ry h
  obtain ⟨a, b, f, M, σ', r, ra, rb, h⟩ := h
  unfold cmpD at h
  split at h
  · rename_i i j
    have e1 := ra.int; have e2 := rb.int; subst e1; subst e2
    exact op_lt pins s σ H _ _ v u Q I rx ry ⟨i, j, rfl, rfl, h.same r rep_bl⟩
  · rename_i i j
    have e1 := ra.int; have e2 := rb.int; subst e1; subst e2
    exact op_le pins s σ H _ _ v u Q I rx ry ⟨i, j, rfl, rfl, h.same r rep_bl⟩
  · rename_i i j
    have e1 := ra.int; have e2 := rb.int; subst e1; subst e2
    exact op_gt pins s σ H _ _ v u Q I rx ry ⟨i, j, rfl, rfl, h.same r rep_bl⟩
  · rename_i i j
    have e1 := ra.int; have e2 := rb.int; subst e1; subst e2
    exact op_ge pins s σ H _ _ v u Q I rx ry ⟨i, j, rfl, rfl, h.same r rep_bl⟩
  · rename_i i j
    have e1 := ra.int; have e2 := rb.int; subst e1; subst e2
    refine op_eq pins s σ H _ _ v u Q I rx ry ⟨rfl, ?_⟩
    have q := h.same r rep_bl
    simpa using q
  · rename_i i j
    have e1 := ra.int; have e2 := rb.int; subst e1; subst e2
    refine op_ne pins s σ H _ _ v u Q I rx ry ⟨rfl, ?_⟩
    have q := h.same r rep_bl
    simpa using q
  · rename_i i j
    have e1 := ra.str; have e2 := rb.str; subst e1; subst e2
    refine op_eq pins s σ H _ _ v u Q I rx ry ⟨rfl, ?_⟩
    have q := h.same r rep_bl
    simpa using q
  · rename_i i j
    have e1 := ra.str; have e2 := rb.str; subst e1; subst e2
    refine op_ne pins s σ H _ _ v u Q I rx ry ⟨rfl, ?_⟩
    have q := h.same r rep_bl
    simpa using q
  · rename_i i j
    have e1 := ra.bl; have e2 := rb.bl; subst e1; subst e2
    refine op_eq pins s σ H _ _ v u Q I rx ry ⟨rfl, ?_⟩
    have q := h.same r rep_bl
    simpa using q
  · rename_i i j
    have e1 := ra.bl; have e2 := rb.bl; subst e1; subst e2
    refine op_ne pins s σ H _ _ v u Q I rx ry ⟨rfl, ?_⟩
    have q := h.same r rep_bl
    simpa using q
  · rename_i i j
    have e1 := ra.bl; have e2 := rb.bl; subst e1; subst e2
    exact op_isBl pins s σ H _ _ v u Q I rx ry ⟨i, j, rfl, rfl, h.same r rep_bl⟩
  · rename_i i j
    have e1 := ra.bl; have e2 := rb.bl; subst e1; subst e2
    exact op_notBl pins s σ H _ _ v u Q I rx ry ⟨i, j, rfl, rfl, h.same r rep_bl⟩
  · have e2 := rb.non; subst e2
    refine op_isN pins s σ H _ _ v u Q I rx ry ⟨rfl, ?_⟩
    have q := h.same r rep_bl
    have e : a.isNon = decide (x = .non) := by
      cases a with
      | non => have := ra.non; subst this; rfl
      | bl _ => have := ra.bl; subst this; rfl
      | int _ => have := ra.int; subst this; rfl
      | str _ => have := ra.str; subst this; rfl
      | tup _ => obtain ⟨_, _, rfl, _⟩ := ra.tup; rfl
      | frl _ => obtain ⟨_, _, rfl, _⟩ := ra.frl; rfl
      | loc _ => obtain ⟨rfl, _⟩ := ra.loc; rfl
    rwa [e] at q
  · have e2 := rb.non; subst e2
    refine op_notN pins s σ H _ _ v u Q I rx ry ⟨rfl, ?_⟩
    have q := h.same r rep_bl
    have e : (!a.isNon) = !decide (x = .non) := by
      cases a with
      | non => have := ra.non; subst this; rfl
      | bl _ => have := ra.bl; subst this; rfl
      | int _ => have := ra.int; subst this; rfl
      | str _ => have := ra.str; subst this; rfl
      | tup _ => obtain ⟨_, _, rfl, _⟩ := ra.tup; rfl
      | frl _ => obtain ⟨_, _, rfl, _⟩ := ra.frl; rfl
      | loc _ => obtain ⟨rfl, _⟩ := ra.loc; rfl
    rwa [e] at q
  · split at h
    · rename_i c hc
      unfold eqD at hc
      split at hc
      · rename_i p q hp hq
        split at hc
        · rename_i hs
          cases hc
          exact op_eqD hu pins s σ H _ _ v u Q I rx ry ⟨p, q, toP_dp r 3 _ _ _ ra hp, toP_dp r 3 _ _ _ rb hq, hs.1, hs.2, h.same r rep_bl⟩
        · cases hc
      · cases hc
    · exact h.elim
  · split at h
    · rename_i c hc
      unfold eqD at hc
      split at hc
      · rename_i p q hp hq
        split at hc
        · rename_i hs
          cases hc
          exact op_neD hu pins s σ H _ _ v u Q I rx ry ⟨p, q, toP_dp r 3 _ _ _ ra hp, toP_dp r 3 _ _ _ rb hq, hs.1, hs.2, h.same r rep_bl⟩
        · cases hc
      · cases hc
    · exact h.elim
  · exact h.elim
theorem un_negD : UnR X (unaryOp .USub) (fun x H Q => ∃ a f M σ, Rl X.K cl H f M ∧ Rep X.K H f M.length a x ∧ PostE X.K cl W (rpD X.K) σ (match a with | .int i => .ok (.int (-i)) M | _ => .unk) H f M Q) := by
  intro pins s σ H x v Q I rx h
  obtain ⟨a, f, M, σ', r, ra, h⟩ := h
  split at h
  · rename_i i
    have e1 := ra.int; subst e1
    exact un_neg pins s σ H _ v Q I rx ⟨i, rfl, h.same r rep_int⟩
  · exact h.elim
theorem atI_rep {K : PySem.W.Frag} {H : Hp} {f : Nat → Addr} {n : Nat} {xs : List D} {vs : List V} (r : Reps K H f n xs vs) {i : Int} {d : D} (h : atI xs i = some d) : ∃ v, atI vs i = some v ∧ Rep K H f n d v := by
  unfold atI at h ⊢
  rw [← r.length]
  cases e : ixN xs.length i with
  | none => rw [e] at h; cases h
  | some j =>
    rw [e] at h
    exact r.get h
theorem ix_D : IxR X (rB2 X.K cl W idxD) := by
  intro value slice pins s σ H x y v u Q I rx ry h
  obtain ⟨a, b, f, M, σ', r, ra, rb, h⟩ := h
  unfold idxD at h
  split at h
  · rename_i xs i
    obtain ⟨p, vs, rfl, h1, r1⟩ := ra.tup
    have e2 := rb.int; subst e2
    split at h
    · rename_i d hd
      obtain ⟨w, hw, rw_⟩ := atI_rep r1 hd
      exact ix_tup value slice pins s σ H _ _ v u Q I rx ry ⟨p, vs, i, w, rfl, rfl, h1, hw, h.same r rw_⟩
    · exact h.elim
  · rename_i xs i
    obtain ⟨p, vs, rfl, h1, r1⟩ := ra.frl
    have e2 := rb.int; subst e2
    split at h
    · rename_i d hd
      obtain ⟨w, hw, rw_⟩ := atI_rep r1 hd
      exact ix_list value slice pins s σ H _ _ v u Q I rx ry ⟨p, vs, i, w, rfl, rfl, h1.sql, hw, h.same r rw_⟩
    · exact h.elim
  · rename_i n i
    obtain ⟨rfl, _⟩ := ra.loc
    have e2 := rb.int; subst e2
    split at h
    · rename_i xs hx
      obtain ⟨vs, h1, r1⟩ := r.lst hx
      split at h
      · rename_i d hd
        obtain ⟨w, hw, rw_⟩ := atI_rep r1 hd
        exact ix_list value slice pins s σ H _ _ v u Q I rx ry ⟨_, vs, i, w, rfl, rfl, SqL.of h1, hw, h.same r rw_⟩
      · exact h.elim
    · exact h.elim
  · exact h.elim
theorem cut_rep {K : PySem.W.Frag} {H : Hp} {f : Nat → Addr} {n : Nat} {xs : List D} {vs : List V} (r : Reps K H f n xs vs) (lo hi : Option Int) : Reps K H f n (cutD xs lo hi) (cutV vs lo hi) := by
  unfold cutD cutV
  rw [← r.length]
  exact (r.drop _).take _
theorem sl_D : SlR X (fun x lo hi H Q => ∃ a f M σ, Rl X.K cl H f M ∧ Rep X.K H f M.length a x ∧ PostE X.K cl W (rpD X.K) σ (slcD a lo hi M) H f M Q) := by
  have key : SlR X (fun x lo hi H Q => rSlA X.K x lo hi H Q ∨ rSlL X.K x lo hi H Q) := SlR.or sl_tupA sl_list
  intro pins s σ H x v vl vu lo hi sl Q I rx hs pl pu h
  obtain ⟨a, f, M, σ', r, ra, h⟩ := h
  refine key pins s σ H x v vl vu lo hi sl Q I rx hs pl pu ?_
  unfold slcD at h
  split at h
  · rename_i xs
    obtain ⟨p, vs, rfl, h1, r1⟩ := ra.tup
    refine .inl ⟨p, vs, rfl, h1, fun e => ?_, fun _ q hq => h.tup r (cut_rep r1 lo hi) hq⟩
    have ec : cutD xs lo hi = xs := by
      unfold cutD
      rw [r1.length, e.1, e.2, List.drop_zero, Nat.sub_zero, ← r1.length, List.take_length]
    rw [ec] at h
    exact h.same r ra
  · rename_i xs
    obtain ⟨p, vs, rfl, h1, r1⟩ := ra.frl
    exact .inr ⟨p, vs, rfl, h1.sql, fun q hq => h.lst r (cut_rep r1 lo hi) hq⟩
  · rename_i n
    obtain ⟨rfl, _⟩ := ra.loc
    split at h
    · rename_i xs hx
      obtain ⟨vs, h1, r1⟩ := r.lst hx
      exact .inr ⟨_, vs, rfl, SqL.of h1, fun q hq => h.lst r (cut_rep r1 lo hi) hq⟩
    · exact h.elim
  · exact h.elim
end
end RF

/-! RFd: built-ins by values. -/
namespace RF
open PySem PySem.Spec PyProof.Rows L2
def Bi.val : Bi → Value
  | .len => .builtin "len"
  | .abs => .builtin "abs"
  | .max => .builtin "max"
  | .min => .builtin "min"
  | .int => .type "int"
  | .bool => .type "bool"
  | .tuple => .type "tuple"
  | .list => .type "list"
  | .sum => .builtin "sum"
  | .all => .builtin "all"
  | .any => .builtin "any"
  | .gcd => .builtin "math.gcd"
theorem boolsOf_map {K : PySem.W.Frag} {H : Hp} {f : Nat → Addr} {n : Nat} : ∀ {ds : List D} {vs : List V} {bs : List Bool}, Reps K H f n ds vs → boolsOf ds = some bs → vs = bs.map V.bl
  | [], vs, bs, r, h => by
    have := r.nil'; subst this
    unfold boolsOf at h; cases h; rfl
  | .bl b :: ds, vs, bs, r, h => by
    obtain ⟨v, w, rfl, h1, h2⟩ := r.cons'
    have := h1.bl; subst this
    unfold boolsOf at h
    cases q : boolsOf ds with
    | none => rw [q] at h; cases h
    | some cs =>
      rw [q] at h; cases h
      rw [boolsOf_map h2 q]; rfl
  | .non :: ds, _, _, _, h => by simp [boolsOf] at h
  | .int _ :: ds, _, _, _, h => by simp [boolsOf] at h
  | .str _ :: ds, _, _, _, h => by simp [boolsOf] at h
  | .tup _ :: ds, _, _, _, h => by simp [boolsOf] at h
  | .frl _ :: ds, _, _, _, h => by simp [boolsOf] at h
  | .loc _ :: ds, _, _, _, h => by simp [boolsOf] at h
theorem intsOf_map {K : PySem.W.Frag} {H : Hp} {f : Nat → Addr} {n : Nat} : ∀ {ds : List D} {vs : List V} {bs : List Int}, Reps K H f n ds vs → intsOf ds = some bs → vs = bs.map V.int
  | [], vs, bs, r, h => by
    have := r.nil'; subst this
    unfold intsOf at h; cases h; rfl
  | .int b :: ds, vs, bs, r, h => by
    obtain ⟨v, w, rfl, h1, h2⟩ := r.cons'
    have := h1.int; subst this
    unfold intsOf at h
    cases q : intsOf ds with
    | none => rw [q] at h; cases h
    | some cs =>
      rw [q] at h; cases h
      rw [intsOf_map h2 q]; rfl
  | .non :: ds, _, _, _, h => by simp [intsOf] at h
  | .bl _ :: ds, _, _, _, h => by simp [intsOf] at h
  | .str _ :: ds, _, _, _, h => by simp [intsOf] at h
  | .tup _ :: ds, _, _, _, h => by simp [intsOf] at h
  | .frl _ :: ds, _, _, _, h => by simp [intsOf] at h
  | .loc _ :: ds, _, _, _, h => by simp [intsOf] at h
theorem fold_max : ∀ (r : List Int) (x : Int), x ≤ r.foldl (fun m y => if y > m then y else m) x ∧ (∀ y ∈ r, y ≤ r.foldl (fun m y => if y > m then y else m) x) ∧ (r.foldl (fun m y => if y > m then y else m) x = x ∨ r.foldl (fun m y => if y > m then y else m) x ∈ r)
  | [], x => ⟨Int.le_refl _, ⟨fun _ h => absurd h (by simp), .inl rfl⟩⟩
  | y :: r, x => by
    rw [List.foldl_cons]
    by_cases h : y > x
    · rw [if_pos h]
      obtain ⟨h1, h2, h3⟩ := fold_max r y
      refine ⟨by omega, fun z hz => ?_, .inr ?_⟩
      · rcases List.mem_cons.mp hz with e | hz
        · subst e; exact h1
        · exact h2 z hz
      · rcases h3 with e | m
        · rw [e]; exact List.mem_cons_self
        · exact List.mem_cons_of_mem _ m
    · rw [if_neg h]
      obtain ⟨h1, h2, h3⟩ := fold_max r x
      refine ⟨h1, fun z hz => ?_, ?_⟩
      · rcases List.mem_cons.mp hz with e | hz
        · subst e; omega
        · exact h2 z hz
      · rcases h3 with e | m
        · exact .inl e
        · exact .inr (List.mem_cons_of_mem _ m)
theorem maxOf_spec {ns : List Int} {z : Int} (h : maxOf ns = some z) : z ∈ ns ∧ ∀ y ∈ ns, y ≤ z := by
  cases ns with
  | nil => cases h
  | cons x r =>
    have e : r.foldl (fun m y => if y > m then y else m) x = z := Option.some.inj h
    obtain ⟨h1, h2, h3⟩ := fold_max r x
    rw [e] at h1 h2 h3
    refine ⟨?_, fun y hy => ?_⟩
    · rcases h3 with q | q
      · rw [q]; exact List.mem_cons_self
      · exact List.mem_cons_of_mem _ q
    · rcases List.mem_cons.mp hy with q | q
      · subst q; exact h1
      · exact h2 y q
section
variable {X : Cx} {cl : Cls0} {W : WX}
def rBi (K : PySem.W.Frag) (cl : Cls0) (W : WX) (b : Bi) : List V → Hp → VK → Prop := fun vs H Q => ∃ ds f M σ, Rl K cl H f M ∧ Reps K H f M.length ds vs ∧ PostE K cl W (rpD K) σ (b.sem ds M) H f M Q
def reL (b : Bi) (ds : List D) (M : MH) : RE D := match b.semL ds with
  | some d => .ok d M
  | none => .unk
def rBiL (K : PySem.W.Frag) (cl : Cls0) (W : WX) (b : Bi) : List V → Hp → VK → Prop := fun xs H Q => ∃ a vs ds f M σ, xs = [.ref a] ∧ SqL K H a vs ∧ Rl K cl H f M ∧ Reps K H f M.length ds vs ∧ PostE K cl W (rpD K) σ (reL b ds M) H f M Q
theorem call_biL (hc : X.calm = true) (b : Bi) : CallR X b.val (rBiL X.K cl W b) := by
  intro pins s σ H xs us Q I rx h
  obtain ⟨a, vs, ds, f, M, σ', rfl, hs, r, rp, h⟩ := h
  unfold reL at h
  split at h
  · rename_i d hd
    cases b with
    | len =>
      cases hd
      exact call_len_seq pins s σ H _ us Q I rx ⟨a, vs, rfl, .inl hs, by rw [← rp.length]; exact h.same r rep_int⟩
    | tuple =>
      cases hd
      exact call_tuple_of pins s σ H _ us Q I rx ⟨a, vs, rfl, .inl ⟨hs, fun l hl => h.tup r rp hl⟩⟩
    | all =>
      cases q : boolsOf ds with
      | none => rw [show Bi.semL .all ds = (boolsOf ds).map _ from rfl, q] at hd; cases hd
      | some bs =>
        rw [show Bi.semL .all ds = (boolsOf ds).map _ from rfl, q] at hd; cases hd
        have e := boolsOf_map rp q
        subst e
        exact cr_all hc pins s σ H _ us Q I rx ⟨a, bs, rfl, hs, h.same r rep_bl⟩
    | any =>
      cases q : boolsOf ds with
      | none => rw [show Bi.semL .any ds = (boolsOf ds).map _ from rfl, q] at hd; cases hd
      | some bs =>
        rw [show Bi.semL .any ds = (boolsOf ds).map _ from rfl, q] at hd; cases hd
        have e := boolsOf_map rp q
        subst e
        exact cr_any hc pins s σ H _ us Q I rx ⟨a, bs, rfl, hs, h.same r rep_bl⟩
    | sum =>
      cases q : intsOf ds with
      | none => rw [show Bi.semL .sum ds = (intsOf ds).map _ from rfl, q] at hd; cases hd
      | some bs =>
        rw [show Bi.semL .sum ds = (intsOf ds).map _ from rfl, q] at hd; cases hd
        have e := intsOf_map rp q
        subst e
        exact cr_sum hc pins s σ H _ us Q I rx ⟨a, bs, rfl, hs, h.same r rep_int⟩
    | max =>
      cases q : intsOf ds with
      | none => rw [show Bi.semL .max ds = (intsOf ds).bind _ from rfl, q] at hd; cases hd
      | some bs =>
        rw [show Bi.semL .max ds = (intsOf ds).bind _ from rfl, q] at hd
        cases q2 : maxOf bs with
        | none => simp [q2] at hd
        | some z =>
          have ez : d = .int z := by simp [q2] at hd; exact hd.symm
          subst ez
          have e := intsOf_map rp q
          subst e
          obtain ⟨m1, m2⟩ := maxOf_spec q2
          refine cr_max hc pins s σ H _ us Q I rx ⟨a, bs, rfl, hs, List.length_pos_of_mem m1, fun m hm hy => ?_⟩
          have : m = z := Int.le_antisymm (m2 m hm) (hy z m1)
          subst this
          exact h.same r rep_int
    | abs => cases hd
    | min => cases hd
    | int => cases hd
    | bool => cases hd
    | list => cases hd
    | gcd => cases hd
  · exact h.elim
theorem call_bi (hc : X.calm = true) (b : Bi) : CallR X b.val (rBi X.K cl W b) := by
  intro pins s σ H xs us Q I rx h
  obtain ⟨ds, f, M, σ', r, rp, h⟩ := h
  unfold Bi.sem at h
  split at h
  · obtain ⟨v, w, rfl, h1, h2⟩ := rp.cons'
    have := h2.nil'; subst this
    obtain ⟨a, vs, rfl, ha, hr⟩ := h1.tup
    exact call_len_seq pins s σ H _ us Q I rx ⟨a, vs, rfl, .inr ha, by rw [← hr.length]; exact h.same r rep_int⟩
  · obtain ⟨v, w, rfl, h1, h2⟩ := rp.cons'
    have := h2.nil'; subst this
    obtain ⟨a, vs, rfl, ha, hr⟩ := h1.frl
    exact call_len_seq pins s σ H _ us Q I rx ⟨a, vs, rfl, .inl ha.sql, by rw [← hr.length]; exact h.same r rep_int⟩
  · obtain ⟨v, w, rfl, h1, h2⟩ := rp.cons'
    have := h2.nil'; subst this
    have := h1.int; subst this
    exact call_abs pins s σ H _ us Q I rx ⟨_, rfl, h.same r rep_int⟩
  · obtain ⟨v, w, rfl, h1, h2⟩ := rp.cons'
    have := h2.nil'; subst this
    have := h1.int; subst this
    exact call_int1 pins s σ H _ us Q I rx (.inl ⟨_, rfl, h.same r rep_int⟩)
  · obtain ⟨v, w, rfl, h1, h2⟩ := rp.cons'
    have := h2.nil'; subst this
    have := h1.bl; subst this
    exact call_int1 pins s σ H _ us Q I rx (.inr ⟨_, rfl, h.same r rep_int⟩)
  · obtain ⟨v, w, rfl, h1, h2⟩ := rp.cons'
    obtain ⟨v2, w, rfl, h3, h4⟩ := h2.cons'
    have := h4.nil'; subst this
    have := h1.int; subst this
    have := h3.int; subst this
    exact call_max2 hc pins s σ H _ us Q I rx ⟨_, _, rfl, h.same r rep_int⟩
  · obtain ⟨v, w, rfl, h1, h2⟩ := rp.cons'
    obtain ⟨v2, w, rfl, h3, h4⟩ := h2.cons'
    have := h4.nil'; subst this
    have := h1.int; subst this
    have := h3.int; subst this
    exact call_min2 hc pins s σ H _ us Q I rx ⟨_, _, rfl, h.same r rep_int⟩
  · obtain ⟨v, w, rfl, h1, h2⟩ := rp.cons'
    obtain ⟨v2, w, rfl, h3, h4⟩ := h2.cons'
    have := h4.nil'; subst this
    have := h1.int; subst this
    have := h3.int; subst this
    exact cr_gcd pins s σ H _ us Q I rx ⟨_, _, rfl, h.same r rep_int⟩
  · obtain ⟨v, w, rfl, h1, h2⟩ := rp.cons'
    have := h2.nil'; subst this
    obtain ⟨a, vs, rfl, ha, hr⟩ := h1.tup
    exact call_tuple_of pins s σ H _ us Q I rx ⟨a, vs, rfl, .inr ⟨ha, h.same r h1⟩⟩
  · obtain ⟨v, w, rfl, h1, h2⟩ := rp.cons'
    have := h2.nil'; subst this
    obtain ⟨a, vs, rfl, ha, hr⟩ := h1.tup
    exact call_list_of pins s σ H _ us Q I rx ⟨a, vs, rfl, .inr ha, fun l hl => h.lst r hr hl⟩
  · obtain ⟨v, w, rfl, h1, h2⟩ := rp.cons'
    have := h2.nil'; subst this
    obtain ⟨a, vs, rfl, ha, hr⟩ := h1.frl
    exact call_list_of pins s σ H _ us Q I rx ⟨a, vs, rfl, .inl ha.sql, fun l hl => h.lst r hr hl⟩
  · obtain ⟨v, w, rfl, h1, h2⟩ := rp.cons'
    have := h2.nil'; subst this
    obtain ⟨rfl, _⟩ := h1.loc
    split at h
    · rename_i xs hx
      obtain ⟨vs, ha, hr⟩ := r.lst hx
      exact call_list_of pins s σ H _ us Q I rx ⟨_, vs, rfl, .inl (SqL.of ha), fun l hl => h.lst r hr hl⟩
    · exact h.elim
  · rename_i b' n _
    obtain ⟨v, w, rfl, h1, h2⟩ := rp.cons'
    have := h2.nil'; subst this
    obtain ⟨rfl, _⟩ := h1.loc
    split at h
    · rename_i xs hx
      obtain ⟨vs, ha, hr⟩ := r.lst hx
      exact call_biL hc _ pins s σ H _ us Q I rx ⟨_, vs, xs, f, M, σ', rfl, SqL.of ha, r, hr, h⟩
    · exact h.elim
  · exact h.elim

theorem rep_ty {K : PySem.W.Frag} {H : Hp} {f : Nat → Addr} {M : MH} (r : Rl K cl H f M) {d : D} {v : V} (h : Rep K H f M.length d v) {T : String} {b : Bool} (e : isD T M d = some b) :
    ∃ U, TyX K H v (.type U) ∧ ((d = .non ∧ U = "NoneType" ∧ b = (T == "NoneType")) ∨ (U = "bool" ∧ b = (T == "bool" || T == "int")) ∨ (U = "int" ∧ b = (T == "int")) ∨ (U = "str" ∧ b = (T == "str")) ∨ (U = "tuple" ∧ b = (T == "tuple")) ∨ (U = "list" ∧ b = (T == "list"))) := by
  cases d with
  | non => have := h.non; subst this; exact ⟨_, .base .non, .inl ⟨rfl, rfl, (Option.some.inj e).symm⟩⟩
  | bl c => have := h.bl; subst this; exact ⟨_, .base (.bl c), .inr (.inl ⟨rfl, (Option.some.inj e).symm⟩)⟩
  | int c => have := h.int; subst this; exact ⟨_, .base (.int c), .inr (.inr (.inl ⟨rfl, (Option.some.inj e).symm⟩))⟩
  | str c => have := h.str; subst this; exact ⟨_, .base (.str c), .inr (.inr (.inr (.inl ⟨rfl, (Option.some.inj e).symm⟩)))⟩
  | tup c =>
    obtain ⟨a, vs, rfl, ha, _⟩ := h.tup
    refine ⟨"tuple", ?_, .inr (.inr (.inr (.inr (.inl ⟨rfl, (Option.some.inj e).symm⟩))))⟩
    rcases ha with (ha | ⟨o, ha⟩) | ⟨o, its, n, hk, hcl, _⟩
    · exact .base (.tup ha)
    · exact .fTuple ha
    · exact .kTuple hk hcl
  | frl c => cases e
  | loc n =>
    obtain ⟨rfl, _⟩ := h.loc
    have e : (lstAt M n).map (fun _ => T == "list") = some b := e
    cases hx : lstAt M n with
    | none => rw [hx] at e; cases e
    | some xs =>
      rw [hx] at e
      obtain ⟨vs, ha, _⟩ := r.lst (lstAt_some hx)
      exact ⟨"list", .base (.lst ha), .inr (.inr (.inr (.inr (.inr ⟨rfl, (Option.some.inj e).symm⟩))))⟩
theorem kitS : ∀ (U T : String), (U = "NoneType" ∨ U = "bool" ∨ U = "int" ∨ U = "str" ∨ U = "tuple" ∨ U = "list") → (T = "bool" ∨ T = "int" ∨ T = "str" ∨ T = "tuple" ∨ T = "list") → kitB U T = some (U == T || (U == "bool" && T == "int")) := by
  intro U T hU hT
  rcases hU with rfl | rfl | rfl | rfl | rfl | rfl <;> rcases hT with rfl | rfl | rfl | rfl | rfl <;> decide +kernel
def isTs : List String := ["bool", "int", "str", "tuple", "list"]
theorem call_isD {T : String} (hT : T ∈ isTs) : CallR X (.builtin "isinstance") (fun xs H Q => ∃ v d f M σ, xs = [v, .ty T] ∧ Rl X.K cl H f M ∧ Rep X.K H f M.length d v ∧ PostE X.K cl W (rpD X.K) σ (match isD T M d with | some b => .ok (.bl b) M | none => .unk) H f M Q) := by
  intro pins s σ H xs us Q I rx h
  obtain ⟨v, d, f, M, σ', rfl, r, rd, h⟩ := h
  split at h
  · rename_i b hb
    obtain ⟨U, ty, hU⟩ := rep_ty r rd hb
    have hT' : T = "bool" ∨ T = "int" ∨ T = "str" ∨ T = "tuple" ∨ T = "list" := by simpa [isTs] using hT
    refine call_isi pins s σ H _ us Q I rx ⟨v, .ty T, .type U, .type T, b, rfl, .ty T, ty, kit_ty ?_, h.same r rep_bl⟩
    rcases hU with ⟨_, rfl, rfl⟩ | ⟨rfl, rfl⟩ | ⟨rfl, rfl⟩ | ⟨rfl, rfl⟩ | ⟨rfl, rfl⟩ | ⟨rfl, rfl⟩
    all_goals
      rw [kitS _ T (by simp) hT']
      rcases hT' with rfl | rfl | rfl | rfl | rfl <;> rfl
  · exact h.elim
theorem tru_D {K : PySem.W.Frag} {H : Hp} {f : Nat → Addr} {M : MH} (r : Rl K cl H f M) {d : D} {v : V} (h : Rep K H f M.length d v) {b : Bool} (e : truth M d = some b) : TruV K v H b := by
  cases d with
  | non => have := h.non; subst this; exact (Option.some.inj e).symm
  | bl c => have := h.bl; subst this; exact (Option.some.inj e).symm
  | int c => have := h.int; subst this; exact (Option.some.inj e).symm
  | str c =>
    have := h.str; subst this
    have e : (if c.length ≤ sizeLine then some (c.length != 0) else none) = some b := e
    split at e
    · rename_i hl
      refine ⟨hl, ?_⟩
      rw [← Option.some.inj e]
      cases c.length <;> rfl
    · cases e
  | tup c =>
    obtain ⟨a, vs, rfl, ha, hr⟩ := h.tup
    refine .inr (.inl ⟨vs, ha, ?_⟩)
    rw [← Option.some.inj e]
    have := hr.length
    cases c <;> cases vs <;> first | rfl | (simp at this)
  | frl c =>
    obtain ⟨a, vs, rfl, ha, hr⟩ := h.frl
    refine .inl ⟨vs, ha.sql, ?_⟩
    rw [← Option.some.inj e]
    have := hr.length
    cases c <;> cases vs <;> first | rfl | (simp at this)
  | loc n =>
    obtain ⟨rfl, _⟩ := h.loc
    have e : (lstAt M n).map (fun xs => !xs.isEmpty) = some b := e
    cases hx : lstAt M n with
    | none => rw [hx] at e; cases e
    | some xs =>
      rw [hx] at e
      obtain ⟨vs, ha, hr⟩ := r.lst (lstAt_some hx)
      refine .inl ⟨vs, SqL.of ha, ?_⟩
      rw [← Option.some.inj e]
      have := hr.length
      cases xs <;> cases vs <;> first | rfl | (simp at this)
end
end RF

/-! RFe: what a for walks: lists and tuples alike; enumerate of both. -/
namespace RF
open PySem PySem.Spec PyProof.Rows L2

section
variable {X : Cx} {tg : Expr}
def iSeq (K : PySem.W.Frag) (tl : TE) : TI := fun σ H R => tl σ H fun x H1 => ∃ a, x = .ref a ∧ ((∃ xs, SqL K H1 a xs ∧ R (Itl K a) H1) ∨ ∃ xs, SqT K H1 a xs ∧ R (Itt K a) H1)
theorem pi_seq {l : Expr} {tl : TE} (hl : PE X l tl) : PI X tg l (iSeq X.K tl) := by
  constructor
  intro pins s σ H R I h
  refine thn (hl.run pins s σ H _ I h) ?_
  rintro v s1 ⟨x, H1, I1, r1, a, rfl, q⟩
  cases r1
  have fp : ∀ b, b ∈ [s1.heap.objs.size] → FpOk X pins H1 b := fun b hb => by
    rw [List.mem_singleton] at hb
    rw [hb]
    exact I1.fpOk (Nat.le_refl _) (I1.hok.fresh (Nat.le_refl _))
  have kp : ∀ ob : Obj, L2.Inv X pins σ H1 { s1 with heap := s1.heap.push ob } := fun ob => I1.kept (t' := s1.toks) fun b o e => Heap.get?_push_of_some _ e
  rcases q with ⟨xs, hq, q⟩ | ⟨xs, hq, q⟩
  · obtain ⟨its, _, pl, _⟩ := I1.list hq
    exact wpAny_pyIter_list pl.isList ⟨_, _, _, _, H1, rfl, kp _, turn_list a _, ⟨_, Heap.get?_push_size _ rfl, rfl, rfl⟩, fp, q⟩
  · obtain ⟨its, _, pt, _⟩ := I1.tuple hq
    have pt' : s1.heap.IsTuple a its.toArray := pt
    exact wpAny_pyIter_tuple pt' ⟨_, _, _, _, H1, rfl, kp _, turn_tuple a _, ⟨_, Heap.get?_push_size _ rfl, rfl, rfl⟩, fp, q⟩
end

/-! ### enumerate(tuple) -/
set_option maxHeartbeats 1000000 in
theorem meets_enum_one {v : Value} {o : Obj} {H : Heap → Prop} (B : Begins v o H) :
    Meets (Builtin.«enumerate.__new__» ⟨[.type "enumerate", v], []⟩) (fun _ R s => H s.heap ∧
      R (.ok (.ret (.ref (s.heap.push o).objs.size))) { s with heap := (s.heap.push o).push { cls := .type "enumerate", data := .fields #[.none, .bool false, .ref s.heap.objs.size, rawInt 0, .none, .none] } }) :=
  .of_wp fun prog w A R s h => by
    obtain ⟨hp, g, d, tk, os⟩ := s
    obtain ⟨h1, h⟩ := h
    have hsub := sub_enumerate
    have go : ∀ {A' : Around} {E : Value → Shared → Prop} {Q : Value → Shared → Prop}, Q (.ref hp.objs.size) ⟨hp.push o, g, d, tk, os⟩ → wpAny (model prog w) A' (pyIter v) Q E ⟨hp, g, d, tk, os⟩ :=
      fun {A' E Q} q => B.iter prog w A' E ⟨hp, g, d, tk, os⟩ Q h1 q
    wp_walk using go
    refine wpAny_stack_any fun st => wpAny_pure ?_
    split
    · rename_i c _ _ _ _ _
      cases (c == Value.type "enumerate") <;> (wp_walk using go; exact ⟨_, rfl, h⟩)
    · wp_walk using go
      exact ⟨_, rfl, h⟩
theorem call_enum_one {prog : Program} {w : World} {A : Around} {E : Value → Shared → Prop} {s : Shared} {v : Value} {o : Obj} {H : Heap → Prop} {Q : Value → Shared → Prop} (B : Begins v o H) (h1 : H s.heap)
    (h : ∀ h', IsEnum h' (s.heap.objs.size + 1) s.heap.objs.size 0 .none → h'.get? s.heap.objs.size = some o → (∀ b o, s.heap.get? b = some o → h'.get? b = some o) → Q (.ref (s.heap.objs.size + 1)) { s with heap := h' }) :
    wpAny (model prog w) A (call (.type "enumerate") [v]) Q E s := by
  refine callType_new F.called_enumerate (by decide) (F.typeCall_enumerate_1 _) (F.newCall_enumerate_1 _) (fun obj => F.args_object_init_2 obj _) F.entry_enumerate_new (meets_enum_one B) ⟨h1, ?_⟩
  show _ ∧ _
  rw [show (s.heap.push o).objs.size = s.heap.objs.size + 1 from Heap.size_push ..]
  have he : IsEnum ((s.heap.push o).push { cls := .type "enumerate", data := .fields #[.none, .bool false, .ref s.heap.objs.size, rawInt 0, .none, .none] }) (s.heap.objs.size + 1) s.heap.objs.size 0 .none := by
    have q := Heap.get?_push_size (s.heap.push o) (o := { cls := .type "enumerate", data := .fields #[.none, .bool false, .ref s.heap.objs.size, rawInt 0, .none, .none] }) rfl
    rw [show (s.heap.push o).objs.size = s.heap.objs.size + 1 from Heap.size_push ..] at q
    exact q
  exact ⟨⟨_, he, rfl⟩, h _ he (Heap.get?_push_of_some _ (Heap.get?_push_size _ B.free)) fun b o x => Heap.get?_push_of_some _ (Heap.get?_push_of_some _ x)⟩

/-- the items of a tuple, each with its number in a new pair -/
def IteT (K : PySem.W.Frag) (a : Addr) : L2.It :=
  ⟨fun i H => ∃ (xs : List V) (x : V), SqT K H a xs ∧ xs[i]? = some x, fun i H v H' => ∃ T x, v = .ref T ∧ H T = none ∧ H' = upd H T (.tup [.int (i : Nat), x]) ∧ ∀ xs, SqT K H a xs → xs[i]? = some x, fun i H => ∃ xs : List V, SqT K H a xs ∧ xs.length = i⟩
theorem turn_enumT {P : Program} {w : World} {K : PySem.W.Frag} {elts : List Expr} {kk : Nat} {tpos : Pos} (a e it : Addr) :
    Turn P w K (.Tuple elts kk tpos) (IteT K a) [e, it] e (fun i h => (∃ old, IsEnum h e it ((i : Nat) : Int) old) ∧ h.IsTupleIter it a i ∧ e ≠ it) := by
  have two : ∀ {b : Addr}, b ∈ [e, it] → b = e ∨ b = it := fun hb => by simpa using hb
  have me : e ∈ [e, it] := List.mem_cons_self
  have mi : it ∈ [e, it] := List.mem_cons_of_mem _ List.mem_cons_self
  refine ⟨me, fun i h st b hb => ?_, fun i h h' st k => ?_, ?_, ?_, fun A i s Q E st h => ?_⟩
  · obtain ⟨⟨old, he⟩, ⟨o, ho, _, hd⟩, _⟩ := st
    rcases two hb with rfl | rfl
    · exact ⟨_, he, fun v q => nomatch q⟩
    · exact ⟨o, ho, fun v q => by rw [hd] at q; cases q⟩
  · obtain ⟨⟨old, he⟩, hi, hne⟩ := st
    exact ⟨⟨old, k e me _ he⟩, hi.at fun o q => k it mi o q, hne⟩
  · intro X hP hw hK hc i pins s σ H E I hf st hg
    subst hP; subst hw; subst hK
    obtain ⟨⟨old, he⟩, hit, hne⟩ := st
    obtain ⟨xs, x, hq, hx⟩ := hg
    obtain ⟨its, rv, p, hz⟩ := I.tuple hq
    obtain ⟨u, hu, ru⟩ := rv.get hx
    have pt : s.heap.IsTuple a its.toArray := p
    have hel : e < s.heap.objs.size := Heap.lt_size he
    have hil : it < s.heap.objs.size := by obtain ⟨_, q, _⟩ := hit; exact Heap.lt_size q
    have nai : a ≠ it := fun z => by
      obtain ⟨o, h1, h2, _⟩ := hit
      obtain ⟨o', h3, h4, _⟩ := pt
      rw [z, h1] at h3; cases h3
      rw [h2] at h4
      injection h4 with h5
      exact absurd h5 (by decide)
    have nae : a ≠ e := fun z => by
      obtain ⟨o', h3, h4, _⟩ := pt
      rw [z, he] at h3; cases h3
      injection h4 with h5
      exact absurd h5 (by decide)
    have hlt : i < its.toArray.size := by
      have := (List.getElem?_eq_some_iff.mp hu).1
      simpa using this
    refine wpAny_pyNext_enum_itemD (Draws.tuple (show X.A.in1.handled = none from I.ok.hd hc) it a nai its.toArray) he ⟨hit, pt⟩ hlt hne (by
      intro z
      rcases List.mem_cons.mp z with z | z
      · exact hne z
      · exact nae (List.mem_singleton.mp z).symm) fun y h' tk hy ho hst' hT hsz hk => ?_
    have ey : y = u := by
      have q : its[i]? = some y := by simpa using hy
      rw [hu] at q; exact (Option.some.inj q).symm
    subst ey
    refine ⟨_, rfl, wpAny_letOwnedTupleGo_enum (s := { s with heap := h', toks := tk + 1 }) ho fun h'' he' sb => ?_⟩
    have hT2 := (sb.2 _ (Nat.ne_of_gt hel)).trans hT
    have kk2 : ∀ b ob, b ∉ [e, it] → s.heap.get? b = some ob → h''.get? b = some ob := fun b ob hb q => by
      have b1 : b ≠ e := fun z => hb (z ▸ me)
      have b2 : b ≠ it := fun z => hb (z ▸ mi)
      exact (sb.2 b b1).trans (hk b ob b1 b2 q)
    have I1 := I.turnedNew (t' := tk + 1) (ch := [e, it]) (ob := .tup [.int (i : Nat), x]) kk2 hf (Nat.le_refl _)
      ⟨by show 2 ≤ sizeLine; decide, [.int i tk, y], .cons ⟨_, rfl⟩ (.cons ru .nil), ⟨_, hT2, rfl, _, rfl⟩⟩
    refine ⟨.ref s.heap.objs.size, _, I1, rfl, ⟨_, x, rfl, I.hok.fresh (Nat.le_refl _), rfl, fun ys hy2 => by rw [I.tuple_inj hy2 hq]; exact hx⟩, ⟨⟨y, ?_⟩, hst'.1.at fun o q => (sb.2 it (Ne.symm hne)).trans q, hne⟩, fun b hb => ?_⟩
    · rw [show ((i + 1 : Nat) : Int) = (i : Int) + 1 by omega]
      exact he'
    · have hb' : b < s.heap.objs.size := by
        rcases two hb with z | z <;> rw [z] <;> assumption
      rw [upd_ne (Nat.ne_of_lt hb')]
      exact (hf b hb).1
  · intro X hP hw hK hc i pins s σ H E I hf st hg
    subst hP; subst hw; subst hK
    obtain ⟨⟨old, he⟩, hit, hne⟩ := st
    obtain ⟨xs, hq, hx⟩ := hg
    obtain ⟨its, rv, p, hz⟩ := I.tuple hq
    have pt : s.heap.IsTuple a its.toArray := p
    obtain ⟨f0, f1, f2, f3, f4, f5⟩ := hf it mi
    have hl := rv.length
    have nai : a ≠ it := fun z => by
      obtain ⟨o, h1, h2, _⟩ := hit
      obtain ⟨o', h3, h4, _⟩ := pt
      rw [z, h1] at h3; cases h3
      rw [h2] at h4
      injection h4 with h5
      exact absurd h5 (by decide)
    have en : i = its.toArray.size := by
      rw [← hx, hl]; simp
    have dr := Draws.tuple (prog := X.prog) (w := X.w) (show X.A.in1.handled = none from I.ok.hd hc) it a nai its.toArray
    exact wpAny_pyNext_enum_endD dr he ⟨by rw [← en]; exact hit, pt⟩ fun h' eb => ⟨rfl, I.turned (t' := s.toks) (fun b o hb q => eb b o hb q) f0 f1 f3 f4 f5⟩
  · obtain ⟨⟨_, he⟩, _⟩ := st
    exact wpAny_pyIter_enum he h
def iEnumA (K : PySem.W.Frag) (ta : TA) : TI := fun σ H R => ta σ H fun vs H1 => ∃ a xs, vs = [.ref a] ∧ ((SqL K H1 a xs ∧ R (Ite K a) H1) ∨ (SqT K H1 a xs ∧ R (IteT K a) H1))
theorem pi_enumA {X : Cx} {e : Expr} {ta : TA} {p pos tpos : Pos} {elts : List Expr} {kk : Nat} (hg : Gl X "enumerate") (hm : X.mg "enumerate" = none) (ha : PA X [e] ta) (hs : starEach [e] X.env = [(false, eval e X.env)]) :
    PI X (.Tuple elts kk tpos) (.Call (.Name "enumerate" p) [e] [] pos) (iEnumA X.K ta) := by
  constructor
  intro pins s σ H R I h
  refine Call_ (ld_blt I hg hm boot_enumerate (PyProof.Rows.callWith_type1 (thn (ha.run pos pins s σ H _ I h) ?_) hs rfl))
  rintro us s1 ⟨vs, H1, I1, r1, a, xs, rfl, q⟩
  have two : ∀ {b : Addr}, b ∈ [s1.heap.objs.size + 1, s1.heap.objs.size] → FpOk X pins H1 b := fun {b} hb => by
    have hle : s1.heap.objs.size ≤ b := by
      rcases (show b = s1.heap.objs.size + 1 ∨ b = s1.heap.objs.size by simpa using hb) with z | z
      · rw [z]; exact Nat.le_add_right _ _
      · rw [z]; exact Nat.le_refl _
    exact I1.fpOk hle (I1.hok.fresh hle)
  cases r1 with
  | cons r rr =>
    cases rr
    cases r
    rcases q with ⟨hq, q⟩ | ⟨hq, q⟩
    · obtain ⟨its, _, pl, _⟩ := I1.list hq
      refine call_enumerate_list pl.isList fun h' he hit hsz hk => wpAny_pyIter_enum he ?_
      exact ⟨_, _, _, _, H1, rfl, I1.kept (t' := s1.toks) hk, turn_enum a _ _, ⟨⟨.none, he⟩, hit, Nat.succ_ne_self _⟩, fun b hb => two hb, q⟩
    · obtain ⟨its, _, pt, _⟩ := I1.tuple hq
      refine call_enum_one (begins_tuple a its.toArray) pt fun h' he hit hk => wpAny_pyIter_enum he ?_
      exact ⟨_, _, _, _, H1, rfl, I1.kept (t' := s1.toks) hk, turn_enumT a _ _, ⟨⟨.none, he⟩, ⟨_, hit, rfl, rfl⟩, Nat.succ_ne_self _⟩, fun b hb => two hb, q⟩
end RF

/-! RFf: the program's real syntax held against the small language. -/
namespace RF
open PySem PySem.Spec PyProof.Rows L2

/-! ### what a def promises -/
def spF (K : PySem.W.Frag) (cl : Cls0) (n : Nat) (F : FS) : Sp := fun vs H Q E => ∃ ds f M, ds.length = n ∧ Rl K cl H f M ∧ Reps K H f M.length ds vs ∧ PostE K cl (fun c d _ H => E c d H) (rpD K) [] (F ds M) H f M Q

inductive SC where
  | fn (x : Str) (n : Nat) (F : FS)
  | cst (x : Str) (d : D)
  | meth (C m : Str) (n : Nat) (F : FS)
  | mk (C : Str) (n : Nat) (F : FS)
  | fld (C f : Str)
  | gcd
  | dct (x : Str) (kvs : List (Str × D))
/-- a written dict of constants, texts as keys -/
def DgE (K : PySem.W.Frag) : List DictEntry → List (Str × D) → Prop
  | [], r => r = []
  | e :: es, r => ∃ z d rr u t, r = (z, d) :: rr ∧ e.key = .str z t ∧ RelV u e.val ∧ (∀ H f n, Rep K H f n d u) ∧ DgE K es rr
def DgOk (K : PySem.W.Frag) (w : World) (a : Addr) (kvs : List (Str × D)) : Prop :=
  ∃ es n, K.lookup a = some ⟨.type "dict", none, .dict es n, #[]⟩ ∧ PySem.W.KeysLit w.params es.toList ∧ (a == sysModules) = false ∧ DgE K es.toList kvs
def SC.Ok (X : Cx) (cl : Cls0) : SC → Prop
  | .fn x n F => ∃ k f fd ps, ps.length = n ∧ FnOk X.prog X.w X.K X.mg X.base (L2.CX X.prog X.w) k f fd ps (spF X.K cl n F) ∧ Room k X.A ∧ X.mg x = some (.ref f) ∧ PySem.W.keepIn X.K (.ref f) = true ∧ Binds X.K fd ps []
  | .cst x d => ∃ u v, X.mg x = some u ∧ RelV v u ∧ ∀ H f n, Rep X.K H f n d v
  | .meth C m n F => ∃ k f fd ps, ps.length = n + 1 ∧ FnOk X.prog X.w X.K X.mg X.base (L2.CX X.prog X.w) k f fd ps (spF X.K cl (n + 1) F) ∧ Room k X.A ∧ Cls X.K (cl C) ∧ Meth X.K (cl C) m f ∧ Binds X.K fd ps []
  | .mk C n F => ∃ k f fd ps, ps.length = n + 1 ∧ FnOk X.prog X.w X.K X.mg X.base (L2.CX X.prog X.w) k f fd ps (spF X.K cl (n + 1) F) ∧ Room (k + 1) X.A ∧ Mk X.K (cl C) f ∧ X.mg C = some (.ref (cl C)) ∧ Binds X.K fd ps []
  | .fld C f => Cls X.K (cl C) ∧ NoAttr X.K (cl C) f
  | .gcd => X.mg "gcd" = some (.builtin "math.gcd")
  | .dct x kvs => ∃ a, X.mg x = some (.ref a) ∧ DgOk X.K X.w a kvs

def Es.len : Es → Nat
  | .nil => 0
  | .cons _ r => r.len + 1
def Bi.sc : Bi → List SC
  | .gcd => [.gcd]
  | _ => []
mutual
def scE : E → List SC
  | .loc _ => []
  | .int _ => []
  | .bl _ => []
  | .non => []
  | .str _ => []
  | .glob x d => [.cst x d]
  | .tup es => scEs es
  | .lst es => scEs es
  | .bin _ a b => scE a ++ scE b
  | .neg a => scE a
  | .cmp _ a b => scE a ++ scE b
  | .cmp2 _ _ a b c => scE a ++ (scE b ++ scE c)
  | .and es => scEs es
  | .or es => scEs es
  | .not a => scE a
  | .ife c a b => scE c ++ (scE a ++ scE b)
  | .idx a i => scE a ++ scE i
  | .slc a lo hi => scE a ++ (scEo lo ++ scEo hi)
  | .fld o C f => .fld C f :: scE o
  | .call x F es => .fn x es.len F :: scEs es
  | .meth o C m F es => .meth C m es.len F :: (scE o ++ scEs es)
  | .mk C F es => .mk C es.len F :: scEs es
  | .bi b es => b.sc ++ scEs es
  | .isI _ a => scE a
  | .get x k kvs => .dct x kvs :: scE k
  | .app o e => scE o ++ scE e
  | .lc _ _ it c e => scIt it ++ (scEo c ++ scE e)
  | .blc b _ _ it c e => b.sc ++ (scIt it ++ (scEo c ++ scE e))
def scEs : Es → List SC
  | .nil => []
  | .cons e r => scE e ++ scEs r
def scEo : Eo → List SC
  | .none => []
  | .some e => scE e
def scIt : It → List SC
  | .seq e => scE e
  | .rng1 a => scE a
  | .rng2 a b => scE a ++ scE b
  | .rng3 a b c => scE a ++ (scE b ++ scE c)
  | .enum e => scE e
  | .zip a b => scE a ++ scE b
end

/-! ### the check -/
def kd (sc : Scope) (x : Str) (k : NameKind) : Bool := decide (sc.names.lookup x = some k)
def okName (x : Str) : Bool := !(x == ("__debug__" : Str)) && !(x == ("__classdict__" : Str)) && !(x == ("__name__" : Str))
def gl (sc : Scope) (x : Str) : Bool := kd sc x .globalImplicit && okName x
def fbOk (bs : Option Scope) (x : Str) : Bool := match bs with
  | none => true
  | some s => s.names.lookup x == some .cell
/-- a name that is stored -/
def chkSt (N : List Str) (sc : Scope) (bs : Option Scope) (i : Nat) (x : Str) : Bool := decide (N[i]? = some x) && (kd sc x .local || (kd sc x .cell && fbOk bs x))
def chkNm (N : List Str) (sc : Scope) (bs : Option Scope) (i : Nat) : Expr → Bool
  | .Name x _ => chkSt N sc bs i x
  | _ => false
def chkStEs (N : List Str) (sc : Scope) (bs : Option Scope) : List Nat → List Expr → Bool
  | [], [] => true
  | i :: is, e :: es => chkNm N sc bs i e && chkStEs N sc bs is es
  | _, _ => false
def chkTg (N : List Str) (sc : Scope) (bs : Option Scope) : Tg → Expr → Bool
  | .nm i, e => chkNm N sc bs i e
  | .tup is, e => match e with
    | .Tuple es _ _ => chkStEs N sc bs is es
    | _ => false
def Tg.slots : Tg → List Nat
  | .nm i => [i]
  | .tup is => is
def isIf : E → Bool
  | .ife _ _ _ => true
  | _ => false
def Es.noIf : Es → Bool
  | .nil => true
  | .cons e r => !isIf e && r.noIf
def Es.isNil : Es → Bool
  | .nil => true
  | _ => false
def isTup : Expr → Bool
  | .Tuple _ _ _ => true
  | _ => false
/-- attributes of what is no bare call -/
def noCall0 : Expr → Bool
  | .Call (.Name _ _) [] [] _ => false
  | _ => true
mutual
def chkE (N : List Str) (sc : Scope) (wi : Bool) : E → Expr → Bool
  | .loc i, e => match e with
    | .Name x _ => decide (N[i]? = some x) && (kd sc x .local || (kd sc x .cell || kd sc x .free)) && okName x
    | _ => false
  | .int i, e => match e with
    | .Constant (.int j) _ _ => decide (j = i)
    | _ => false
  | .bl i, e => match e with
    | .Constant (.bool j) _ _ => decide (j = i)
    | _ => false
  | .non, e => match e with
    | .Constant .none _ _ => true
    | _ => false
  | .str i, e => match e with
    | .Constant (.str j) _ _ => decide (j = i)
    | _ => false
  | .glob y _, e => match e with
    | .Name x _ => decide (x = y) && gl sc x
    | _ => false
  | .tup es, e => match e with
    | .Tuple l _ _ => chkEs N sc wi es l
    | _ => false
  | .lst es, e => match e with
    | .List l _ => chkEs N sc wi es l
    | _ => false
  | .bin op a b, e => match e with
    | .BinOp l o r _ => decide (o = op) && (chkE N sc wi a l && chkE N sc wi b r)
    | _ => false
  | .neg a, e => match e with
    | .UnaryOp .USub l _ => chkE N sc wi a l
    | _ => false
  | .cmp op a b, e => match e with
    | .Compare l [o] [r] _ => decide (o = op) && (chkE N sc wi a l && chkE N sc wi b r)
    | _ => false
  | .cmp2 op op' a b c, e => match e with
    | .Compare l [o, o'] [r, t] _ => (decide (o = op) && decide (o' = op')) && (chkE N sc wi a l && (chkE N sc wi b r && chkE N sc wi c t))
    | _ => false
  | .and es, e => match e with
    | .BoolOp .And l _ => !es.isNil && es.noIf && chkEs N sc wi es l
    | _ => false
  | .or es, e => match e with
    | .BoolOp .Or l _ => !es.isNil && es.noIf && chkEs N sc wi es l
    | _ => false
  | .not a, e => match e with
    | .UnaryOp .Not l _ => !isIf a && chkE N sc wi a l
    | _ => false
  | .ife c a b, e => match e with
    | .IfExp t l r _ => !isIf c && (chkE N sc wi c t && (chkE N sc wi a l && chkE N sc wi b r))
    | _ => false
  | .idx a i, e => match e with
    | .Subscript l r _ => chkE N sc wi a l && chkE N sc wi i r
    | _ => false
  | .slc a lo hi, e => match e with
    | .Subscript l (.Slice u v none _) _ => chkE N sc wi a l && (chkEo N sc wi lo u && chkEo N sc wi hi v)
    | _ => false
  | .fld o _ f, e => match e with
    | .Attribute l g _ => decide (g = f) && (noCall0 l && chkE N sc wi o l)
    | _ => false
  | .call y _ es, e => match e with
    | .Call (.Name x _) l [] _ => decide (x = y) && gl sc x && !es.isNil && chkEs N sc wi es l
    | _ => false
  | .meth o _ m _ es, e => match e with
    | .Call (.Attribute l g ap) r [] cp => decide (g = m) && wi && (ap.endLine == cp.line) && decide (es.len < 20) && noCall0 l && (chkE N sc wi o l && chkEs N sc wi es r)
    | _ => false
  | .mk y _ es, e => match e with
    | .Call (.Name x _) l [] _ => decide (x = y) && wi && gl sc x && chkEs N sc wi es l
    | _ => false
  | .bi b es, e => match e with
    | .Call (.Name x _) l [] _ => decide (x = b.name) && gl sc x && !es.isNil && chkEs N sc wi es l
    | _ => false
  | .isI T a, e => match e with
    | .Call (.Name x _) [l, .Name t _] [] _ => decide (x = ("isinstance" : Str)) && gl sc x && decide (t = (Str.ofString T)) && gl sc t && decide (T ∈ isTs) && chkE N sc wi a l
    | _ => false
  | .get y k _, e => match e with
    | .Call (.Attribute (.Name x _) g ap) [r] [] cp => decide (x = y) && gl sc x && decide (g = ("get" : Str)) && (ap.endLine == cp.line) && chkE N sc wi k r
    | _ => false
  | .app o a, e => match e with
    | .Call (.Attribute l g ap) [r] [] cp => decide (g = ("append" : Str)) && (ap.endLine == cp.line) && noCall0 l && (chkE N sc wi o l && chkE N sc wi a r)
    | _ => false
  | .lc own tg it c a, e => match e with
    | .ListComp r [⟨tge, ite, ifs, 0⟩] scope _ => blkC N sc scope own && chkTg N (relS scope sc) (some scope) tg tge && (tg.slots.all fun i => decide (i ∈ own.map (·.2))) &&
        chkIt N sc wi it ite && (match it with | .enum _ => isTup tge | .zip _ _ => isTup tge | _ => true) && chkC N (relS scope sc) true c ifs && chkE N (relS scope sc) true a r
    | _ => false
  | .blc b own tg it c a, e => match e with
    | .Call (.Name x _) [.ListComp r [⟨tge, ite, ifs, 0⟩] scope _] [] _ => decide (x = b.name) && gl sc x && blkC N sc scope own && chkTg N (relS scope sc) (some scope) tg tge && (tg.slots.all fun i => decide (i ∈ own.map (·.2))) &&
        chkIt N sc wi it ite && (match it with | .enum _ => isTup tge | .zip _ _ => isTup tge | _ => true) && chkC N (relS scope sc) true c ifs && chkE N (relS scope sc) true a r
    | _ => false
def chkEs (N : List Str) (sc : Scope) (wi : Bool) : Es → List Expr → Bool
  | .nil, l => match l with
    | [] => true
    | _ => false
  | .cons a r, l => match l with
    | e :: t => chkE N sc wi a e && chkEs N sc wi r t
    | _ => false
def chkEo (N : List Str) (sc : Scope) (wi : Bool) : Eo → Option Expr → Bool
  | .none, e => match e with
    | none => true
    | _ => false
  | .some a, e => match e with
    | some x => chkE N sc wi a x
    | _ => false
def chkC (N : List Str) (sc : Scope) (wi : Bool) : Eo → List Expr → Bool
  | .none, e => match e with
    | [] => true
    | _ => false
  | .some a, e => match e with
    | [x] => !isIf a && chkE N sc wi a x
    | _ => false
def chkIt (N : List Str) (sc : Scope) (wi : Bool) : It → Expr → Bool
  | .seq a, e => chkE N sc wi a e
  | .rng1 a, e => match e with
    | .Call (.Name x _) [l] [] _ => decide (x = ("range" : Str)) && gl sc x && chkE N sc wi a l
    | _ => false
  | .rng2 a b, e => match e with
    | .Call (.Name x _) [l, r] [] _ => decide (x = ("range" : Str)) && gl sc x && (chkE N sc wi a l && chkE N sc wi b r)
    | _ => false
  | .rng3 a b c, e => match e with
    | .Call (.Name x _) [l, r, t] [] _ => decide (x = ("range" : Str)) && gl sc x && (chkE N sc wi a l && (chkE N sc wi b r && chkE N sc wi c t))
    | _ => false
  | .enum a, e => match e with
    | .Call (.Name x _) [l] [] _ => decide (x = ("enumerate" : Str)) && gl sc x && chkE N sc wi a l
    | _ => false
  | .zip a b, e => match e with
    | .Call (.Name x _) [l, r] [] _ => decide (x = ("zip" : Str)) && gl sc x && (chkE N sc wi a l && chkE N sc wi b r)
    | _ => false
end

def biNames : List Str := ["len", "abs", "max", "min", "int", "bool", "tuple", "list", "sum", "all", "any", "range", "enumerate", "zip", "isinstance", "str"]
structure Ctx (X : Cx) (cl : Cls0) (W : WX) (N : List Str) (sc : Scope) (bs : Option Scope) (wi : Bool) : Prop where
  eN : X.N = N
  nd : N.Nodup
  eS : X.env.scope = sc
  kind : sc.kind = .function
  calm : X.calm = true
  tk : Takes X W
  po : PassesOwn (model X.prog X.w) X.A X.env X.xe
  hu : X.A.units + 64 < cLine
  fn : ∀ x, fbOk bs x = true → X.fn x = true
  wi : wi = true → ∀ c d σ σ' H, W c d σ H → W c d σ' H
  bn : ∀ x ∈ biNames, X.mg x = none

/-! ### the model's own side conditions, by the form of the syntax -/
def plE : Expr → Bool
  | .Starred _ _ => false
  | .Set _ _ _ => false
  | .Slice _ _ _ _ => false
  | _ => true
theorem chkE_pl {N : List Str} {sc : Scope} {wi : Bool} {m : E} {e : Expr} (h : chkE N sc wi m e = true) : plE e = true := by
  cases m <;> (unfold chkE at h; (try split at h) <;> first | rfl | exact absurd h Bool.false_ne_true)
theorem star_pl {e : Expr} {es : List Expr} {env : Env} (h : plE e = true) : starEach (e :: es) env = (false, eval e env) :: starEach es env := by
  cases e <;> first | rfl | exact absurd h Bool.false_ne_true
theorem behind_pl {op : CmpOp} {e : Expr} (h : plE e = true) : behindInMarks op e = false := by
  cases e <;> first | rfl | exact absurd h Bool.false_ne_true
theorem fold_pl {e : Expr} {env : Env} (h : plE e = true) : ∀ x, foldedSetIterable e env x = pure x := by
  cases e <;> first | (intro x; rfl) | exact absurd h Bool.false_ne_true
theorem sub_pl {e : Expr} (h : plE e = true) : PlainIx e := by
  cases e <;> first | (intro o i; rfl) | exact absurd h Bool.false_ne_true
theorem chkEs_pl {N : List Str} {sc : Scope} {wi : Bool} : ∀ {m : Es} {l : List Expr}, chkEs N sc wi m l = true → ∀ e ∈ l, plE e = true
  | .nil, l, h, e, he => by
    unfold chkEs at h
    split at h
    · exact absurd he (by simp)
    · exact absurd h Bool.false_ne_true
  | .cons a r, l, h, e, he => by
    unfold chkEs at h
    split at h
    · rename_i x t
      rw [Bool.and_eq_true] at h
      rcases List.mem_cons.mp he with z | z
      · subst z; exact chkE_pl h.1
      · exact chkEs_pl h.2 e z
    · exact absurd h Bool.false_ne_true
theorem plain_star {env : Env} {pos : Pos} : ∀ {es : List Expr}, (∀ e ∈ es, plE e = true) → (backTo pos (starEach es env)).any (·.1) = false
  | [], _ => rfl
  | e :: es, h => by
    rw [star_pl (h e List.mem_cons_self)]
    show ((false, _) :: backTo pos (starEach es env)).any (·.1) = false
    rw [List.any_cons, plain_star fun x hx => h x (List.mem_cons_of_mem _ hx)]
    rfl
theorem plain_all {env : Env} {pos : Pos} : ∀ {es : List Expr}, (∀ e ∈ es, plE e = true) → (backTo pos (starEach es env)).all (fun x => !x.1) = true
  | [], _ => rfl
  | e :: es, h => by
    rw [star_pl (h e List.mem_cons_self)]
    show ((false, _) :: backTo pos (starEach es env)).all (fun x => !x.1) = true
    rw [List.all_cons, plain_all fun x hx => h x (List.mem_cons_of_mem _ hx)]
    rfl
theorem chkEs_len {N : List Str} {sc : Scope} {wi : Bool} : ∀ {m : Es} {l : List Expr}, chkEs N sc wi m l = true → l.length = m.len
  | .nil, l, h => by
    unfold chkEs at h
    split at h
    · rfl
    · exact absurd h Bool.false_ne_true
  | .cons a r, l, h => by
    unfold chkEs at h
    split at h
    · rename_i x t
      rw [Bool.and_eq_true] at h
      show t.length + 1 = r.len + 1
      rw [chkEs_len h.2]
    · exact absurd h Bool.false_ne_true
theorem evEs_len : ∀ {m : Es} {δ : Ev} {M M' : MH} {ds : List D}, evEs m δ M = .ok ds M' → ds.length = m.len
  | .nil, δ, M, M', ds, h => by unfold evEs at h; cases h; rfl
  | .cons a r, δ, M, M', ds, h => by
    unfold evEs at h
    cases q : evE a δ M with
    | ok d M1 =>
      rw [q] at h
      cases q2 : evEs r δ M1 with
      | ok es M2 =>
        have h' : RE.ok (d :: es) M2 = .ok ds M' := by simpa [RE.bind, q2] using h
        cases h'
        show es.length + 1 = r.len + 1
        rw [evEs_len q2]
      | exc _ _ => simp [RE.bind, q2] at h
      | unk => simp [RE.bind, q2] at h
    | exc _ _ => rw [q] at h; cases h
    | unk => rw [q] at h; cases h
theorem attrBase {e : Expr} {f : Str} {env : Env} (h : noCall0 e = true) : attributeBase e f env (eval e env) = eval e env := by
  unfold attributeBase
  split
  · rename_i id _ _
    exact absurd h Bool.false_ne_true
  · rfl
end RF

/-! RFg: each form of an expression, by its parts. -/
namespace RF
open PySem PySem.Spec PyProof.Rows L2
section
variable {K : PySem.W.Frag} {cl : Cls0} {W : WX} {σ : L2.St} {H : Hp} {f : Nat → Addr} {M : MH} {δ : Ev}
theorem tE_step {α β : Type} {rq : Hp → (Nat → Addr) → MH → α → β → Prop} {g : Ev → MH → RE D} {k : D → MH → RE α} {Q : β → Hp → Prop} (a : At K cl δ σ H f M) (h : PostE K cl W rq σ ((g δ M).bind k) H f M Q) {R : VK}
    (w : ∀ v H1 f1 M1 d, g δ M = .ok d M1 → Ext H f M H1 f1 M1 → At K cl δ σ H1 f1 M1 → Rep K H1 f1 M1.length d v → PostE K cl W rq σ (k d M1) H1 f1 M1 Q → R v H1) : tE K cl W g σ H R :=
  ⟨δ, f, M, a, (PostE.bind a h).imp fun v H1 ⟨f1, M1, d, e, x, a1, r, q⟩ => w v H1 f1 M1 d e x a1 r q⟩
theorem tA_step {α β : Type} {rq : Hp → (Nat → Addr) → MH → α → β → Prop} {g : Ev → MH → RE (List D)} {k : List D → MH → RE α} {Q : β → Hp → Prop} (a : At K cl δ σ H f M) (h : PostE K cl W rq σ ((g δ M).bind k) H f M Q) {R : List V → Hp → Prop}
    (w : ∀ v H1 f1 M1 d, g δ M = .ok d M1 → Ext H f M H1 f1 M1 → At K cl δ σ H1 f1 M1 → Reps K H1 f1 M1.length d v → PostE K cl W rq σ (k d M1) H1 f1 M1 Q → R v H1) : tA K cl W g σ H R :=
  ⟨δ, f, M, a, (PostE.bind a h).imp fun v H1 ⟨f1, M1, d, e, x, a1, r, q⟩ => w v H1 f1 M1 d e x a1 r q⟩
theorem tT_step {α β : Type} {rq : Hp → (Nat → Addr) → MH → α → β → Prop} {g : Ev → MH → RE Bool} {k : Bool → MH → RE α} {Q : β → Hp → Prop} (a : At K cl δ σ H f M) (h : PostE K cl W rq σ ((g δ M).bind k) H f M Q) {R : Bool → Hp → Prop}
    (w : ∀ H1 f1 M1 d, g δ M = .ok d M1 → Ext H f M H1 f1 M1 → At K cl δ σ H1 f1 M1 → PostE K cl W rq σ (k d M1) H1 f1 M1 Q → R d H1) : tT K cl W g σ H R :=
  ⟨δ, f, M, a, (PostE.bind a h).imp fun v H1 ⟨f1, M1, d, e, x, a1, r, q⟩ => by
    have r : v = d := r
    subst r
    exact w H1 f1 M1 v e x a1 q⟩
theorem tE_mono {g : Ev → MH → RE D} {Q Q' : VK} (h : tE K cl W g σ H Q) (w : ∀ v H', Q v H' → Q' v H') : tE K cl W g σ H Q' :=
  let ⟨δ, f, M, a, h⟩ := h; ⟨δ, f, M, a, h.imp w⟩
theorem bind_ok {α : Type} (r : RE α) : r.bind (fun a M => .ok a M) = r := by cases r <;> rfl
theorem bind_assoc {α β γ : Type} (r : RE α) (k : α → MH → RE β) (l : β → MH → RE γ) : (r.bind k).bind l = r.bind fun a M => (k a M).bind l := by cases r <;> rfl
end

/-- truth of a value, as a step -/
noncomputable def thT (d : D) (M : MH) : RE Bool := match truth M d with
  | some b => .ok b M
  | none => .unk
noncomputable def evT (m : E) : Ev → MH → RE Bool := fun δ M => (evE m δ M).bind thT

section
variable {X : Cx} {cl : Cls0} {W : WX} {N : List Str} {sc : Scope} {bs : Option Scope} {wi : Bool} {a b c : Expr} {pos : Pos} {ga gb gc : Ev → MH → RE D}
theorem Ctx.gl (cx : Ctx X cl W N sc bs wi) {x : Str} (h : RF.gl sc x = true) : Gl X x ∧ (x == ("__debug__" : Str)) = false ∧ x ≠ "__name__" := by
  unfold RF.gl kd okName at h
  simp only [Bool.and_eq_true, decide_eq_true_eq, Bool.not_eq_true'] at h
  obtain ⟨h1, ⟨h2, h3⟩, h4⟩ := h
  refine ⟨?_, h2, fun e => ?_⟩
  · show X.env.scope.names.lookup x = _
    rw [cx.eS]; exact h1
  · subst e
    exact absurd h4 (by decide)
theorem Ctx.vis (cx : Ctx X cl W N sc bs wi) {x : Str} (h : (kd sc x .local || (kd sc x .cell || kd sc x .free)) = true) : Vis X.env.scope x := by
  unfold kd at h
  simp only [Bool.or_eq_true, decide_eq_true_eq] at h
  unfold Vis
  rw [cx.eS]
  exact h
theorem Ctx.sto (cx : Ctx X cl W N sc bs wi) {i : Nat} {x : Str} (h : chkSt N sc bs i x = true) : X.N[i]? = some x ∧ L2.Loc X.env.scope x ∧ (X.fn x = true ∨ X.env.scope.names.lookup x = some .local) := by
  unfold chkSt kd at h
  simp only [Bool.and_eq_true, Bool.or_eq_true, decide_eq_true_eq] at h
  obtain ⟨h1, h2⟩ := h
  unfold L2.Loc
  rw [cx.eS, cx.eN]
  rcases h2 with h2 | ⟨h2, h3⟩
  · exact ⟨h1, .inl h2, .inr h2⟩
  · exact ⟨h1, .inr h2, .inl (cx.fn x h3)⟩
theorem Ctx.nd' (cx : Ctx X cl W N sc bs wi) : X.N.Nodup := by rw [cx.eN]; exact cx.nd

theorem g_loc {i : Nat} {x : Str} (hN : X.N[i]? = some x) (hv : Vis X.env.scope x) (hd : (x == ("__debug__" : Str)) = false) (hcd : (x == ("__classdict__" : Str)) = false) : PE X (.Name x pos) (tE X.K cl W (evE (.loc i))) :=
  (pe_var hN hv hd hcd).weak fun σ H Q ⟨δ, f, M, at_, h⟩ => by
    unfold evE at h
    split at h
    · rename_i d hd
      obtain ⟨v, h1, h2⟩ := at_.e.get i d hd
      exact ⟨v, h1, h.same at_.r h2⟩
    · exact h.elim
theorem g_c {v : V} {d : D} {e : Expr} (hp : PE X e (tC v)) (hr : ∀ H f n, Rep X.K H f n d v) : PE X e (tE X.K cl W fun _ M => .ok d M) :=
  hp.weak fun σ H Q ⟨δ, f, M, at_, h⟩ => h.same at_.r (hr _ _ _)
theorem g_tup {l : List Expr} {k : Nat} {g : Ev → MH → RE (List D)} (ha : PA X l (tA X.K cl W g)) : PE X (.Tuple l k pos) (tE X.K cl W fun δ M => (g δ M).bind fun ds M => if ds.length ≤ sizeLine then .ok (.tup ds) M else .unk) :=
  (pe_tup ha).weak fun σ H Q ⟨δ, f, M, at_, h⟩ => tA_step at_ h fun vs H1 f1 M1 ds _ x a1 r h => by
    split at h
    · rename_i hl
      exact ⟨by rw [← r.length]; exact hl, fun p hp => h.tup a1.r r hp⟩
    · exact h.elim
theorem g_lst {l : List Expr} {g : Ev → MH → RE (List D)} (ha : PA X l (tA X.K cl W g)) : PE X (.List l pos) (tE X.K cl W fun δ M => (g δ M).bind fun ds M => if ds.length ≤ sizeLine then .ok (.loc M.length) (M ++ [.lst ds]) else .unk) :=
  (pe_lst ha).weak fun σ H Q ⟨δ, f, M, at_, h⟩ => tA_step at_ h fun vs H1 f1 M1 ds _ x a1 r h => by
    split at h
    · rename_i hl
      exact ⟨by rw [← r.length]; exact hl, fun p hp => h.lst a1.r r hp⟩
    · exact h.elim
theorem g_op {g : D → D → MH → RE D} {op : Operator} (hop : OpR X (binaryOp op) (rB2 X.K cl W g)) (ha : PE X a (tE X.K cl W ga)) (hb : PE X b (tE X.K cl W gb)) :
    PE X (.BinOp a op b pos) (tE X.K cl W fun δ M => (ga δ M).bind fun x M => (gb δ M).bind fun y M => g x y M) :=
  (pe_op hop ha hb).weak fun σ H Q ⟨δ, f, M, at_, h⟩ => tE_step at_ h fun v H1 f1 M1 d _ x a1 rv h => tE_step a1 h fun u H2 f2 M2 d2 _ x2 a2 ru h =>
    ⟨d, d2, f2, M2, σ, a2.r, Rep.mv (x2.mv a1.r) _ _ rv, ru, h⟩
theorem g_neg (ha : PE X a (tE X.K cl W ga)) : PE X (.UnaryOp .USub a pos) (tE X.K cl W fun δ M => (ga δ M).bind fun x M => match x with | .int i => .ok (.int (-i)) M | _ => .unk) :=
  (pe_un (un_negD (cl := cl) (W := W)) ha).weak fun σ H Q ⟨δ, f, M, at_, h⟩ => tE_step at_ h fun v H1 f1 M1 d _ x a1 rv h => ⟨d, f1, M1, σ, a1.r, rv, h⟩
theorem g_cmp (hu : X.A.units + 64 < cLine) {op : CmpOp} (hm : behindInMarks op b = false) (ha : PE X a (tE X.K cl W ga)) (hb : PE X b (tE X.K cl W gb)) :
    PE X (.Compare a [op] [b] pos) (tE X.K cl W fun δ M => (ga δ M).bind fun x M => (gb δ M).bind fun y M => cmpD op x y M) :=
  (pe_cmpR (op_cmp (cl := cl) (W := W) hu op) ha hb hm).weak fun σ H Q ⟨δ, f, M, at_, h⟩ => tE_step at_ h fun v H1 f1 M1 d _ x a1 rv h => tE_step a1 h fun u H2 f2 M2 d2 _ x2 a2 ru h =>
    ⟨d, d2, f2, M2, σ, a2.r, Rep.mv (x2.mv a1.r) _ _ rv, ru, h⟩
theorem truth_post {K : PySem.W.Frag} {σ : L2.St} {H : Hp} {f : Nat → Addr} {M : MH} {d : D} {Q : Bool → Hp → Prop} (r : Rl K cl H f M) (h : PostE K cl W rpB σ (thT d M) H f M Q) : ∃ b, truth M d = some b ∧ Q b H := by
  unfold thT at h
  split at h
  · rename_i b hb
    exact ⟨b, hb, h _ _ _ (Ext.refl _ _ _) r rfl⟩
  · exact h.elim
theorem cmp_bl {op : CmpOp} {x y d : D} {M M' : MH} (h : cmpD op x y M = .ok d M') : ∃ c, d = .bl c := by
  unfold cmpD at h
  split at h <;> first | exact ⟨_, (by injection h with h1 _; exact h1.symm)⟩ | (split at h <;> first | exact ⟨_, (by injection h with h1 _; exact h1.symm)⟩ | cases h) | cases h
theorem t_cmp (hu : X.A.units + 64 < cLine) {op : CmpOp} (hm : behindInMarks op b = false) (ha : PE X a (tE X.K cl W ga)) (hb : PE X b (tE X.K cl W gb)) :
    PT X (.Compare a [op] [b] pos) (tT X.K cl W fun δ M => ((ga δ M).bind fun x M => (gb δ M).bind fun y M => cmpD op x y M).bind thT) :=
  (pt_cmpR (op_cmp (cl := cl) (W := W) hu op) ha hb hm).weak fun σ H Q ⟨δ, f, M, at_, h⟩ => by
    dsimp only at h
    rw [bind_assoc] at h
    refine tE_step at_ h fun v H1 f1 M1 d _ x a1 rv h => ?_
    rw [bind_assoc] at h
    refine tE_step a1 h fun u H2 f2 M2 d2 _ x2 a2 ru h => ⟨d, d2, f2, M2, σ, a2.r, Rep.mv (x2.mv a1.r) _ _ rv, ru, ?_⟩
    refine (PostE.bind (rp := rpD X.K) a2 h).imp fun w H3 ⟨f3, M3, d3, e3, x3, a3, r3, h⟩ => ?_
    obtain ⟨k, hk, q⟩ := truth_post a3.r h
    obtain ⟨c', rfl⟩ := cmp_bl e3
    have := r3.bl
    subst this
    cases hk
    exact ⟨_, rfl, q⟩
theorem marks2 {op op' : CmpOp} {b c : Expr} (h : behindInMarks op' c = false) : lastMarks [op, op'] [b, c] = false := h
theorem g_cmp2 (hu : X.A.units + 64 < cLine) {op op' : CmpOp} (hm : behindInMarks op' c = false) (ha : PE X a (tE X.K cl W ga)) (hb : PE X b (tE X.K cl W gb)) (hc : PE X c (tE X.K cl W gc)) :
    PE X (.Compare a [op, op'] [b, c] pos) (tE X.K cl W fun δ M => (ga δ M).bind fun x M => (gb δ M).bind fun y M => (cmpD op x y M).bind fun z M => match z with
      | .bl true => (gc δ M).bind fun w M => cmpD op' y w M
      | .bl false => .ok (.bl false) M
      | _ => .unk) :=
  (pe_chain (op_cmp (cl := cl) (W := W) hu op) (op_cmp (cl := cl) (W := W) hu op') ha hb hc (marks2 hm)).weak fun σ H Q ⟨δ, f, M, at_, h⟩ => by
    refine tE_step at_ h fun v H1 f1 M1 d _ x a1 rv h => tE_step a1 h fun u H2 f2 M2 d2 _ x2 a2 ru h => ⟨d, d2, f2, M2, σ, a2.r, Rep.mv (x2.mv a1.r) _ _ rv, ru, ?_⟩
    refine (PostE.bind (rp := rpD X.K) a2 h).imp fun w H3 ⟨f3, M3, d3, e3, x3, a3, r3, h⟩ => ?_
    obtain ⟨c, rfl⟩ := cmp_bl e3
    have := r3.bl
    subst this
    refine ⟨c, rfl, ?_⟩
    cases c with
    | true =>
      refine iteT (tE_step a3 h fun w4 H4 f4 M4 d4 _ x4 a4 r4 h => ?_)
      exact ⟨d2, d4, f4, M4, σ, a4.r, Rep.mv (x4.mv a3.r) _ _ (Rep.mv (x3.mv a2.r) _ _ ru), r4, h⟩
    | false => exact iteF (h.same a3.r rep_bl)
theorem t_cmp2 (hu : X.A.units + 64 < cLine) {op op' : CmpOp} (hm : behindInMarks op' c = false) (ha : PE X a (tE X.K cl W ga)) (hb : PE X b (tE X.K cl W gb)) (hc : PE X c (tE X.K cl W gc)) :
    PT X (.Compare a [op, op'] [b, c] pos) (tT X.K cl W fun δ M => ((ga δ M).bind fun x M => (gb δ M).bind fun y M => (cmpD op x y M).bind fun z M => match z with
      | .bl true => (gc δ M).bind fun w M => cmpD op' y w M
      | .bl false => .ok (.bl false) M
      | _ => .unk).bind thT) :=
  (pt_chain (op_cmp (cl := cl) (W := W) hu op) (op_cmp (cl := cl) (W := W) hu op') ha hb hc (marks2 hm)).weak fun σ H Q ⟨δ, f, M, at_, h⟩ => by
    dsimp only at h
    rw [bind_assoc] at h
    refine tE_step at_ h fun v H1 f1 M1 d _ x a1 rv h => ?_
    rw [bind_assoc] at h
    refine tE_step a1 h fun u H2 f2 M2 d2 _ x2 a2 ru h => ⟨d, d2, f2, M2, σ, a2.r, Rep.mv (x2.mv a1.r) _ _ rv, ru, ?_⟩
    rw [bind_assoc] at h
    refine (PostE.bind (rp := rpD X.K) a2 h).imp fun w H3 ⟨f3, M3, d3, e3, x3, a3, r3, h⟩ => ?_
    obtain ⟨c, rfl⟩ := cmp_bl e3
    have := r3.bl
    subst this
    refine ⟨c, rfl, ?_⟩
    cases c with
    | true =>
      refine iteT ?_
      have h : PostE X.K cl W rpB σ (((gc δ M3).bind fun w M => cmpD op' d2 w M).bind thT) H3 f3 M3 Q := h
      rw [bind_assoc] at h
      refine tE_step a3 h fun w4 H4 f4 M4 d4 _ x4 a4 r4 h => ?_
      refine ⟨d2, d4, f4, M4, σ, a4.r, Rep.mv (x4.mv a3.r) _ _ (Rep.mv (x3.mv a2.r) _ _ ru), r4, ?_⟩
      refine (PostE.bind (rp := rpD X.K) a4 h).imp fun w5 H5 ⟨f5, M5, d5, e5, x5, a5, r5, h⟩ => ?_
      obtain ⟨k, hk, q⟩ := truth_post a5.r h
      obtain ⟨c', rfl⟩ := cmp_bl e5
      have := r5.bl
      subst this
      cases hk
      exact ⟨_, rfl, q⟩
    | false =>
      obtain ⟨k, hk, q⟩ := truth_post (d := .bl false) a3.r h
      cases hk
      exact iteF ⟨_, rfl, q⟩
/-- any value as a test -/
theorem t_any {e : Expr} (he : PE X e (tE X.K cl W ga)) (ht : ∀ whole, isTrue e X.env whole = (do let v ← whole; standAt e.pos; holding [v] (truthy v))) : PT X e (tT X.K cl W fun δ M => (ga δ M).bind thT) :=
  (pt_truth he ht).weak fun σ H Q ⟨δ, f, M, at_, h⟩ => tE_step at_ h fun v H1 f1 M1 d _ x a1 rv h => by
    obtain ⟨b, hb, q⟩ := truth_post a1.r h
    exact ⟨b, tru_D a1.r rv hb, q⟩
theorem g_not (ha : PE X a (tE X.K cl W ga)) : PE X (.UnaryOp .Not a pos) (tE X.K cl W fun δ M => (ga δ M).bind fun x M => match x with | .bl b => .ok (.bl (!b)) M | _ => .unk) :=
  (pe_not ha).weak fun σ H Q ⟨δ, f, M, at_, h⟩ => tE_step at_ h fun v H1 f1 M1 d _ x a1 rv h => by
    split at h
    · have := rv.bl; subst this
      exact ⟨_, rfl, h.same a1.r rep_bl⟩
    · exact h.elim
theorem t_not (ha : PT X a (tT X.K cl W fun δ M => (ga δ M).bind thT)) : PT X (.UnaryOp .Not a pos) (tT X.K cl W fun δ M => ((ga δ M).bind fun x M => match x with | .bl b => .ok (.bl (!b)) M | _ => .unk).bind thT) :=
  (pt_not ha).weak fun σ H Q ⟨δ, f, M, at_, h⟩ => by
    dsimp only at h
    rw [bind_assoc] at h
    refine ⟨δ, f, M, at_, ?_⟩
    show PostE X.K cl W rpB σ ((ga δ M).bind thT) H f M _
    cases q : ga δ M with
    | ok d M1 =>
      rw [q] at h
      cases d with
      | bl b =>
        intro v H' f' x r e
        have e : v = b := e
        subst e
        exact h (!v) H' f' x r rfl
      | _ => exact h.elim
    | exc e M1 => rw [q] at h; exact h
    | unk => rw [q] at h; exact h.elim
theorem g_ife (hc : PT X c (tT X.K cl W fun δ M => (gc δ M).bind thT)) (ha : PE X a (tE X.K cl W ga)) (hb : PE X b (tE X.K cl W gb)) : PE X (.IfExp c a b pos) (tE X.K cl W fun δ M => (gc δ M).bind fun x M => match truth M x with
    | some true => ga δ M
    | some false => gb δ M
    | none => .unk) :=
  (pe_ifExp hc ha hb).weak fun σ H Q ⟨δ, f, M, at_, h⟩ => by
    have e : ((gc δ M).bind fun x M => match truth M x with | some true => ga δ M | some false => gb δ M | none => .unk) = ((gc δ M).bind thT).bind fun k M => if k = true then ga δ M else gb δ M := by
      rw [bind_assoc]
      congr 1
      funext x M
      unfold thT
      cases truth M x with
      | none => rfl
      | some k => cases k <;> rfl
    dsimp only at h
    rw [e] at h
    refine tT_step (g := fun δ M => (gc δ M).bind thT) at_ h fun H1 f1 M1 k _ x a1 h => ?_
    cases k with
    | true => exact iteT ⟨δ, f1, M1, a1, h⟩
    | false => exact iteF ⟨δ, f1, M1, a1, h⟩
theorem g_idx (hs : PlainIx b) (ha : PE X a (tE X.K cl W ga)) (hb : PE X b (tE X.K cl W gb)) : PE X (.Subscript a b pos) (tE X.K cl W fun δ M => (ga δ M).bind fun x M => (gb δ M).bind fun y M => idxD x y M) :=
  (pe_ix (ix_D (cl := cl) (W := W)) ha hb hs).weak fun σ H Q ⟨δ, f, M, at_, h⟩ => tE_step at_ h fun v H1 f1 M1 d _ x a1 rv h => tE_step a1 h fun u H2 f2 M2 d2 _ x2 a2 ru h =>
    ⟨d, d2, f2, M2, σ, a2.r, Rep.mv (x2.mv a1.r) _ _ rv, ru, h⟩
/-- the part of a slice -/
def tO (K : PySem.W.Frag) (cl : Cls0) (W : WX) (g : Ev → MH → RE (Option Int)) : L2.St → Hp → (Option Int → Hp → Prop) → Prop := fun σ H Q => ∃ δ f M, At K cl δ σ H f M ∧ PostE K cl W (fun _ _ _ x y => y = x) σ (g δ M) H f M Q
theorem g_slc {lo hi : Option Expr} {gl_ gh : Ev → MH → RE (Option Int)} {p2 : Pos} (ha : PE X a (tE X.K cl W ga)) (hl : PO X lo (tO X.K cl W gl_)) (hh : PO X hi (tO X.K cl W gh)) :
    PE X (.Subscript a (.Slice lo hi none p2) pos) (tE X.K cl W fun δ M => (ga δ M).bind fun x M => (gl_ δ M).bind fun l M => (gh δ M).bind fun h M => slcD x l h M) :=
  (pe_slice (sl_D (cl := cl) (W := W)) ha hl hh).weak fun σ H Q ⟨δ, f, M, at_, h⟩ => tE_step at_ h fun v H1 f1 M1 d _ x a1 rv h =>
    ⟨δ, f1, M1, a1, (PostE.bind a1 h).imp fun l H2 ⟨f2, M2, l', _, x2, a2, el, h⟩ => ⟨δ, f2, M2, a2, (PostE.bind a2 h).imp fun u H3 ⟨f3, M3, u', _, x3, a3, eu, h⟩ => by
      have el : l = l' := el
      have eu : u = u' := eu
      subst el; subst eu
      exact ⟨d, f3, M3, σ, a3.r, Rep.mv (x3.mv a2.r) _ _ (Rep.mv (x2.mv a1.r) _ _ rv), h⟩⟩⟩
theorem po_noneD : PO X none (tO X.K cl W fun _ M => .ok none M) := ⟨fun pins s σ H Q I ⟨δ, f, M, at_, h⟩ => po_none.run pins s σ H Q I (h _ _ _ (Ext.refl _ _ _) at_.r rfl)⟩
theorem po_someD (ha : PE X a (tE X.K cl W ga)) : PO X (some a) (tO X.K cl W fun δ M => (ga δ M).bind fun d M => match d with | .int i => .ok (some i) M | _ => .unk) :=
  ⟨fun pins s σ H Q I ⟨δ, f, M, at_, h⟩ => (po_some ha).run pins s σ H Q I (tE_step at_ h fun v H1 f1 M1 d _ x a1 rv h => by
    split at h
    · have := rv.int; subst this
      exact ⟨_, rfl, h _ _ _ (Ext.refl _ _ _) a1.r rfl⟩
    · exact h.elim)⟩
theorem repF_look {K : PySem.W.Frag} {H : Hp} {f : Nat → Addr} {n : Nat} {x : Str} : ∀ {fs : List (Str × D)} {gs : List (Str × V)}, RepF K H f n fs gs → (∀ d, fs.lookup x = some d → ∃ v, gs.lookup x = some v ∧ Rep K H f n d v) ∧ (fs.lookup x = none → gs.lookup x = none)
  | [], gs, h => by
    unfold RepF at h; subst h
    exact ⟨fun d e => (nomatch e), fun _ => rfl⟩
  | (y, d) :: fs, gs, h => by
    unfold RepF at h
    obtain ⟨v, r, rfl, h1, h2⟩ := h
    rw [List.lookup_cons, List.lookup_cons]
    cases q : x == y with
    | true => exact ⟨fun d' e => ⟨v, rfl, by cases e; exact h1⟩, fun e => nomatch e⟩
    | false => exact repF_look h2
theorem g_fld {C g : Str} (hc : Cls X.K (cl C)) (hn : NoAttr X.K (cl C) g) (hb : attributeBase a g X.env (eval a X.env) = eval a X.env) (ha : PE X a (tE X.K cl W ga)) : PE X (.Attribute a g pos) (tE X.K cl W fun δ M => (ga δ M).bind fun x M => fldD x C g M) :=
  (pe_fld ha hb).weak fun σ H Q ⟨δ, f, M, at_, h⟩ => tE_step at_ h fun v H1 f1 M1 d _ x a1 rv h => by
    unfold fldD at h
    split at h
    · obtain ⟨rfl, _⟩ := rv.loc
      split at h
      · rename_i C' fs hM
        split at h
        · rename_i hC
          rw [hC] at hM
          obtain ⟨dx, gs, hH, hF⟩ := a1.r.ins hM
          split at h
          · rename_i d2 hd2
            obtain ⟨u, hu, ru⟩ := (repF_look hF).1 d2 hd2
            exact ⟨_, _, dx, gs, u, rfl, hH, hc, hn, hu, h.same a1.r ru⟩
          · exact h.elim
        · exact h.elim
      · exact h.elim
    · exact h.elim
/-! arguments -/
theorem a_nil : PA X [] (tA X.K cl W fun _ M => .ok [] M) := (pa_nil).weak fun σ H Q ⟨δ, f, M, at_, h⟩ => h _ _ _ (Ext.refl _ _ _) at_.r Reps.nil
theorem a_cons {l : List Expr} {g : Ev → MH → RE (List D)} (hs : starEach (a :: l) X.env = (false, eval a X.env) :: starEach l X.env) (ha : PE X a (tE X.K cl W ga)) (hl : PA X l (tA X.K cl W g)) :
    PA X (a :: l) (tA X.K cl W fun δ M => (ga δ M).bind fun d M => (g δ M).bind fun ds M => .ok (d :: ds) M) :=
  (pa_cons ha hl hs).weak fun σ H Q ⟨δ, f, M, at_, h⟩ => tE_step at_ h fun v H1 f1 M1 d _ x a1 rv h => tA_step a1 h fun vs H2 f2 M2 ds _ x2 a2 rvs h =>
    h _ _ _ (Ext.refl _ _ _) a2.r (Reps.cons (Rep.mv (x2.mv a1.r) _ _ rv) rvs)
/-! calls -/
theorem g_call {x : Str} {p : Pos} {l : List Expr} {F : FS} {n : Nat} {g : Ev → MH → RE (List D)} (tk : Takes X W) (ok : SC.Ok X cl (.fn x n F)) (hg : Gl X x) (hdb : (x == ("__debug__" : Str)) = false)
    (hs : starEach (a :: l) X.env = (false, eval a X.env) :: starEach l X.env) (hpl : (backTo pos (starEach l X.env)).any (·.1) = false) (hlen : ∀ δ M ds M', g δ M = .ok ds M' → ds.length = n) (ha : PA X (a :: l) (tA X.K cl W g)) :
    PE X (.Call (.Name x p) (a :: l) [] pos) (tE X.K cl W fun δ M => (g δ M).bind fun ds M => F ds M) := by
  obtain ⟨k, fa, fd, ps, hn, FO, hr, hm, hk, hb⟩ := ok
  refine (pe_callSD (E := WE W) (dvs := []) FO hr hg hm hk hb .nil (fun σ => passAt tk σ) ha hdb hs hpl).weak fun σ H Q ⟨δ, f, M, at_, h⟩ => tA_step at_ h fun vs H1 f1 M1 ds e x a1 r h => ?_
  rw [List.append_nil]
  exact ⟨ds, f1, M1, hlen _ _ _ _ e, a1.r, r, h.reW fun c d H q => q⟩
theorem takes_pass {E : XK} (tk : Takes X W) (w : ∀ c d σ H, E c d H → W c d σ H) : Passes (L2.CX X.prog X.w) X E := passes_call tk w
theorem tMeth_post {C m : Str} {F : FS} {n : Nat} {g : Ev → MH → RE (List D)} (hwi : ∀ c d σ σ' H, W c d σ H → W c d σ' H) (hlen : ∀ δ M ds M', g δ M = .ok ds M' → ds.length = n) {σ : L2.St} {H : Hp} {Q : VK}
    (h : tE X.K cl W (fun δ M => (ga δ M).bind fun x M => match x with
      | .loc j => match M[j]? with
        | some (.ins C' fs) => if C' = C ∧ fs.lookup m = none then (g δ M).bind fun ds M => F (x :: ds) M else .unk
        | _ => .unk
      | _ => .unk) σ H Q) : tMeth (cl C) m (spF X.K cl (n + 1) F) [] (fun c d H => ∀ σ, W c d σ H) (tE X.K cl W ga) (tA X.K cl W g) σ H Q := by
  obtain ⟨δ, f, M, at_, h⟩ := h
  refine tE_step at_ h fun v H1 f1 M1 d _ x a1 rv h => ?_
  split at h
  · rename_i j _
    obtain ⟨rfl, hj⟩ := rv.loc
    split at h
    · rename_i C' fs hM
      split at h
      · rename_i hC
        obtain ⟨hC, hl⟩ := hC
        rw [hC] at hM
        obtain ⟨dx, gs, hH, hF⟩ := a1.r.ins hM
        refine ⟨_, dx, gs, rfl, hH, (repF_look hF).2 hl, tA_step a1 h fun vs H2 f2 M2 ds e x2 a2 r h => ?_⟩
        rw [List.append_nil]
        refine ⟨.loc j :: ds, f2, M2, by rw [List.length_cons, hlen _ _ _ _ e], a2.r, Reps.cons (Rep.mv (x2.mv a1.r) _ _ rv) r, h.reW fun c d H q σ' => hwi _ _ _ _ _ q⟩
      · exact h.elim
    · exact h.elim
  · exact h.elim
theorem g_meth {C m : Str} {o : Expr} {ap : Pos} {l : List Expr} {F : FS} {n : Nat} {g : Ev → MH → RE (List D)} (tk : Takes X W) (hwi : ∀ c d σ σ' H, W c d σ H → W c d σ' H) (ok : SC.Ok X cl (.meth C m n F))
    (hs : starEach (a :: l) X.env = (false, eval a X.env) :: starEach l X.env) (hpl : (backTo pos (starEach l X.env)).any (·.1) = false) (hlen : ∀ δ M ds M', g δ M = .ok ds M' → ds.length = n) {pl : Sem Bool}
    (ht : eval (.Call (.Attribute o m ap) (a :: l) [] pos) X.env = (do
      let ov ← eval o X.env
      standAt ap.atName
      let (f, first) ← holding [ov] (getMethod ov m pl)
      callWith pos f first (backTo pos (starEach (a :: l) X.env)) (backToKw pos (keywordEach [] X.env))))
    (ho : PE X o (tE X.K cl W ga)) (ha : PA X (a :: l) (tA X.K cl W g)) :
    PE X (.Call (.Attribute o m ap) (a :: l) [] pos) (tE X.K cl W fun δ M => (ga δ M).bind fun x M => match x with
      | .loc j => match M[j]? with
        | some (.ins C' fs) => if C' = C ∧ fs.lookup m = none then (g δ M).bind fun ds M => F (x :: ds) M else .unk
        | _ => .unk
      | _ => .unk) := by
  obtain ⟨k, fa, fd, ps, hn, FO, hr, hc, hm, hb⟩ := ok
  exact (pe_meth (dvs := []) (E := fun c d H => ∀ σ, W c d σ H) ho hc hm FO hr hb .nil (takes_pass tk fun c d σ H q => q σ) ha hs hpl ht).weak fun σ H Q h => tMeth_post hwi hlen h
theorem g_meth0 {C m : Str} {o : Expr} {ap : Pos} {F : FS} (tk : Takes X W) (hwi : ∀ c d σ σ' H, W c d σ H → W c d σ' H) (ok : SC.Ok X cl (.meth C m 0 F)) {pl : Sem Bool}
    (ht : eval (.Call (.Attribute o m ap) [] [] pos) X.env = (do
      let ov ← eval o X.env
      standAt ap.atName
      let (f, first) ← holding [ov] (getMethod ov m pl)
      callWith pos f first (backTo pos (starEach [] X.env)) (backToKw pos (keywordEach [] X.env))))
    (ho : PE X o (tE X.K cl W ga)) :
    PE X (.Call (.Attribute o m ap) [] [] pos) (tE X.K cl W fun δ M => (ga δ M).bind fun x M => match x with
      | .loc j => match M[j]? with
        | some (.ins C' fs) => if C' = C ∧ fs.lookup m = none then (RE.ok [] M).bind fun ds M => F (x :: ds) M else .unk
        | _ => .unk
      | _ => .unk) := by
  obtain ⟨k, fa, fd, ps, hn, FO, hr, hc, hm, hb⟩ := ok
  refine (pe_meth0 (dvs := []) (E := fun c d H => ∀ σ, W c d σ H) ho hc hm FO hr hb .nil (takes_pass tk fun c d σ H q => q σ) ht).weak fun σ H Q h => ?_
  have q := tMeth_post (n := 0) (g := fun _ M => .ok [] M) hwi (fun δ M ds M' e => by cases e; rfl) h
  obtain ⟨δ, f, M, at_, q⟩ := q
  refine ⟨δ, f, M, at_, q.imp fun v H1 ⟨j, dx, fs, e, h1, h2, δ', f', M', a', h3⟩ => ⟨j, dx, fs, e, h1, h2, ?_⟩⟩
  exact h3 _ _ _ (Ext.refl _ _ _) a'.r Reps.nil
end
end RF

/-! RFh: instances made, built-ins called, what is walked. -/
namespace RF
open PySem PySem.Spec PyProof.Rows L2
section
variable {X : Cx} {cl : Cls0} {W : WX} {a b c : Expr} {pos : Pos} {ga gb gc : Ev → MH → RE D}
theorem tMake_post {C : Str} {F : FS} {n : Nat} {g : Ev → MH → RE (List D)} (hwi : ∀ c d σ σ' H, W c d σ H → W c d σ' H) (hlen : ∀ δ M ds M', g δ M = .ok ds M' → ds.length = n) {σ : L2.St} {H : Hp} {Q : VK}
    (h : tE X.K cl W (fun δ M => (g δ M).bind fun ds M => (F (.loc M.length :: ds) (M ++ [.ins C []])).bind fun r M' => match r with
      | .non => .ok (.loc M.length) M'
      | _ => .unk) σ H Q) : tMake (cl C) (spF X.K cl (n + 1) F) [] (fun c d H => ∀ σ, W c d σ H) (tA X.K cl W g) σ H Q := by
  obtain ⟨δ, f, M, at_, h⟩ := h
  refine tA_step at_ h fun vs H1 f1 M1 ds e x a1 r h => fun p dx hp hdx hne => ?_
  have e1 : Ext H1 f1 M1 (upd H1 dx (.own p)) f1 M1 := Ext.laid hdx
  have r1 := a1.r.laid (o := .own p) hdx
  have hp1 : (upd H1 dx (.own p)) p = none := by rw [upd_ne (Ne.symm hne)]; exact hp
  have e2 : Ext (upd H1 dx (.own p)) f1 M1 (upd (upd H1 dx (.own p)) p (.ins (cl C) dx [])) f1 M1 := Ext.laid hp1
  have r2 := r1.laid (o := .ins (cl C) dx []) hp1
  have e12 := e1.trans r1 e2
  have r3 : Rl X.K cl (upd (upd H1 dx (.own p)) p (.ins (cl C) dx [])) (setf f1 M1.length p) (M1 ++ [.ins C []]) := r2.take_in (r1.outN hp1) ⟨dx, [], upd_same, by unfold RepF; rfl⟩
  have e3 : Ext H1 f1 M1 (upd (upd H1 dx (.own p)) p (.ins (cl C) dx [])) (setf f1 M1.length p) (M1 ++ [.ins C []]) := e12.take_in hp
  have lM : M1.length < (M1 ++ [MO.ins C []]).length := by rw [List.length_append, List.length_singleton]; omega
  rw [List.append_nil]
  have rp := rep_loc (K := X.K) (H := upd (upd H1 dx (.own p)) p (.ins (cl C) dx [])) (f := setf f1 M1.length p) lM
  rw [setf_same] at rp
  refine ⟨.loc M1.length :: ds, _, _, by rw [List.length_cons, hlen _ _ _ _ e], r3, Reps.cons rp (Reps.mv (e3.mv a1.r) _ _ r), ?_⟩
  refine ((PostE.bind (rp := rpD X.K) (a1.mv e3 r3) (h.mono e3 r3)).imp fun v H4 ⟨f4, M4, d4, _, x4, a4, r4, h⟩ => ?_).reW fun c d H q σ' => hwi _ _ _ _ _ q
  split at h
  · refine ⟨r4.non, ?_⟩
    have q := h.same a4.r (rep_loc (Nat.lt_of_lt_of_le lM x4.le))
    rw [x4.same _ lM, setf_same] at q
    exact q
  · exact h.elim
theorem g_mk {C : Str} {p : Pos} {l : List Expr} {F : FS} {n : Nat} {g : Ev → MH → RE (List D)} (tk : Takes X W) (hwi : ∀ c d σ σ' H, W c d σ H → W c d σ' H) (ok : SC.Ok X cl (.mk C n F)) (hg : Gl X C) (hdb : (C == ("__debug__" : Str)) = false)
    (hs : starEach (a :: l) X.env = (false, eval a X.env) :: starEach l X.env) (hpl : (backTo pos (starEach l X.env)).any (·.1) = false) (hlen : ∀ δ M ds M', g δ M = .ok ds M' → ds.length = n) (ha : PA X (a :: l) (tA X.K cl W g)) :
    PE X (.Call (.Name C p) (a :: l) [] pos) (tE X.K cl W fun δ M => (g δ M).bind fun ds M => (F (.loc M.length :: ds) (M ++ [.ins C []])).bind fun r M' => match r with
      | .non => .ok (.loc M.length) M'
      | _ => .unk) := by
  obtain ⟨k, fa, fd, ps, hn, FO, hr, hm, hk, hb⟩ := ok
  exact (pe_make (dvs := []) (E := fun c d H => ∀ σ, W c d σ H) hm FO hr hg hk hb .nil (takes_pass tk fun c d σ H q => q σ) ha hdb hs hpl).weak fun σ H Q h => tMake_post hwi hlen h
theorem g_mk0 {C : Str} {p : Pos} {F : FS} (tk : Takes X W) (hwi : ∀ c d σ σ' H, W c d σ H → W c d σ' H) (ok : SC.Ok X cl (.mk C 0 F)) (hg : Gl X C) (hdb : (C == ("__debug__" : Str)) = false) :
    PE X (.Call (.Name C p) [] [] pos) (tE X.K cl W fun δ M => (RE.ok [] M).bind fun ds M => (F (.loc M.length :: ds) (M ++ [.ins C []])).bind fun r M' => match r with
      | .non => .ok (.loc M.length) M'
      | _ => .unk) := by
  obtain ⟨k, fa, fd, ps, hn, FO, hr, hm, hk, hb⟩ := ok
  refine (pe_make0 (dvs := []) (E := fun c d H => ∀ σ, W c d σ H) hm FO hr hg hk hb .nil (takes_pass tk fun c d σ H q => q σ) hdb).weak fun σ H Q h => ?_
  obtain ⟨δ, f, M, at_, h⟩ := tMake_post (n := 0) (g := fun _ M => .ok [] M) hwi (fun δ M ds M' e => by cases e; rfl) h
  exact h _ _ _ (Ext.refl _ _ _) at_.r Reps.nil

/-! ### built-ins -/
theorem g_bi {bi : Bi} {p : Pos} {l : List Expr} {t : TA} (hc : X.calm = true) (hbn : ∀ x ∈ biNames, X.mg x = none) (hgcd : ∀ s ∈ bi.sc, SC.Ok X cl s) (hg : Gl X bi.name) (hdb : (bi.name == ("__debug__" : Str)) = false) (hnn : bi.name ≠ "__name__")
    (hs : starEach (a :: l) X.env = (false, eval a X.env) :: starEach l X.env) (hpl : (backTo pos (starEach l X.env)).any (·.1) = false) (ha : PA X (a :: l) t) {r : List V → Hp → VK → Prop} (hr : CallR X bi.val r) :
    PE X (.Call (.Name bi.name p) (a :: l) [] pos) (tCB r t) := by
  cases bi with
  | len => exact pe_callB hr hg (hbn _ (by simp [biNames, Bi.name])) PySem.boot_len ha hnn hdb hs hpl
  | abs => exact pe_callB hr hg (hbn _ (by simp [biNames, Bi.name])) boot_abs ha hnn hdb hs hpl
  | max => exact pe_callB hr hg (hbn _ (by simp [biNames, Bi.name])) boot_max ha hnn hdb hs hpl
  | min => exact pe_callB hr hg (hbn _ (by simp [biNames, Bi.name])) boot_min ha hnn hdb hs hpl
  | sum => exact pe_callB hr hg (hbn _ (by simp [biNames, Bi.name])) boot_sum ha hnn hdb hs hpl
  | all => exact pe_callB hr hg (hbn _ (by simp [biNames, Bi.name])) boot_all ha hnn hdb hs hpl
  | any => exact pe_callB hr hg (hbn _ (by simp [biNames, Bi.name])) boot_any ha hnn hdb hs hpl
  | int => exact pe_callTy hr hg (hbn _ (by simp [biNames, Bi.name])) PyProof.Rows.boot_int ha hnn hdb hs hpl
  | bool => exact pe_callTy hr hg (hbn _ (by simp [biNames, Bi.name])) PyProof.Rows.boot_bool ha hnn hdb hs hpl
  | tuple => exact pe_callTy hr hg (hbn _ (by simp [biNames, Bi.name])) PyProof.Rows.boot_tuple ha hnn hdb hs hpl
  | list => exact pe_callTy hr hg (hbn _ (by simp [biNames, Bi.name])) PyProof.Rows.boot_list ha hnn hdb hs hpl
  | gcd => exact pe_callBfun hr hg (hgcd _ List.mem_cons_self) ha hdb hs hpl
theorem g_biD {bi : Bi} {p : Pos} {l : List Expr} {g : Ev → MH → RE (List D)} (hc : X.calm = true) (hbn : ∀ x ∈ biNames, X.mg x = none) (hgcd : ∀ s ∈ bi.sc, SC.Ok X cl s) (hg : Gl X bi.name) (hdb : (bi.name == ("__debug__" : Str)) = false) (hnn : bi.name ≠ "__name__")
    (hs : starEach (a :: l) X.env = (false, eval a X.env) :: starEach l X.env) (hpl : (backTo pos (starEach l X.env)).any (·.1) = false) (ha : PA X (a :: l) (tA X.K cl W g)) :
    PE X (.Call (.Name bi.name p) (a :: l) [] pos) (tE X.K cl W fun δ M => (g δ M).bind fun ds M => bi.sem ds M) :=
  (g_bi hc hbn hgcd hg hdb hnn hs hpl ha (call_bi (cl := cl) (W := W) hc bi)).weak fun σ H Q ⟨δ, f, M, at_, h⟩ => tA_step at_ h fun vs H1 f1 M1 ds e x a1 r h => ⟨ds, f1, M1, σ, a1.r, r, h⟩
theorem g_isI {T : String} {p p2 : Pos} (hT : T ∈ isTs) (hbn : ∀ x ∈ biNames, X.mg x = none) (hg : Gl X "isinstance") (hgt : Gl X (Str.ofString T)) (hdb : ((Str.ofString T) == ("__debug__" : Str)) = false) (hnn : Str.ofString T ≠ "__name__")
    (hs : starEach [a, .Name (Str.ofString T) p2] X.env = (false, eval a X.env) :: starEach [.Name (Str.ofString T) p2] X.env) (ha : PE X a (tE X.K cl W ga)) :
    PE X (.Call (.Name "isinstance" p) [a, .Name (Str.ofString T) p2] [] pos) (tE X.K cl W fun δ M => (ga δ M).bind fun x M => match isD T M x with
      | some b => .ok (.bl b) M
      | none => .unk) := by
  have hb : bootBuiltins (Str.ofString T) = some (.type T) := by
    have hT' : T = "bool" ∨ T = "int" ∨ T = "str" ∨ T = "tuple" ∨ T = "list" := by simpa [isTs] using hT
    rcases hT' with rfl | rfl | rfl | rfl | rfl
    · exact PyProof.Rows.boot_bool
    · exact PyProof.Rows.boot_int
    · exact PyProof.Rows.boot_str
    · exact PyProof.Rows.boot_tuple
    · exact PyProof.Rows.boot_list
  have hm : X.mg (Str.ofString T) = none := by
    have hT' : T = "bool" ∨ T = "int" ∨ T = "str" ∨ T = "tuple" ∨ T = "list" := by simpa [isTs] using hT
    rcases hT' with rfl | rfl | rfl | rfl | rfl <;> exact hbn _ (by simp [biNames])
  refine (pe_callB (call_isD (cl := cl) (W := W) hT) hg (hbn _ (by simp [biNames])) boot_isinstance (pa_cons ha (pa_cons (pe_bltn (v := .ty T) hgt hm hb rfl hnn hdb) pa_nil) hs) (by decide) (by decide) hs rfl).weak fun σ H Q ⟨δ, f, M, at_, h⟩ => tE_step at_ h fun v H1 f1 M1 d _ x a1 rv h => ?_
  exact ⟨v, d, f1, M1, σ, rfl, a1.r, rv, h⟩
theorem DgE.find {K : PySem.W.Frag} {z : Str} : ∀ {es : List DictEntry} {kvs : List (Str × D)}, DgE K es kvs →
    (∀ d, kvs.lookup z = some d → ∃ e u, es.find? (fun e => Value.isStrOf z e.key) = some e ∧ RelV u e.val ∧ ∀ H f n, Rep K H f n d u) ∧ (kvs.lookup z = none → es.find? (fun e => Value.isStrOf z e.key) = none)
  | [], kvs, h => by
    unfold DgE at h; subst h
    exact ⟨fun d e => (nomatch e), fun _ => rfl⟩
  | e :: es, kvs, h => by
    unfold DgE at h
    obtain ⟨y, d, rr, u, t, rfl, hk, hr, hp, h⟩ := h
    have ih := DgE.find (z := z) h
    rw [List.lookup_cons, List.find?_cons, hk]
    have q : Value.isStrOf z (Value.str y t) = (z == y) := (show Value.isStrOf z (Value.str y t) = (y == z) from rfl).trans BEq.comm
    rw [q]
    cases e1 : z == y with
    | true => exact ⟨fun d' e' => ⟨e, u, rfl, hr, by cases e'; exact hp⟩, fun e' => nomatch e'⟩
    | false => exact ih
theorem g_get {x : Str} {p ap : Pos} {ad : Addr} {kvs : List (Str × D)} (hg : Gl X x) (hd : (x == ("__debug__" : Str)) = false) (hm : X.mg x = some (.ref ad)) (ok : DgOk X.K X.w ad kvs) (hline : (ap.endLine == pos.line) = true) (hs : starEach [a] X.env = (false, eval a X.env) :: starEach [] X.env) (ha : PE X a (tE X.K cl W ga)) :
    PE X (.Call (.Attribute (.Name x p) "get" ap) [a] [] pos) (tE X.K cl W fun δ M => (ga δ M).bind fun y M => getD y kvs M) := by
  obtain ⟨es, n, hl, hk, low, hE⟩ := ok
  have base : attributeBase (.Name x p) "get" X.env (eval (.Name x p) X.env) = eval (.Name x p) X.env := rfl
  refine ⟨fun pins s σ H Q I ⟨δ, f, M, at_, h⟩ => ?_⟩
  refine wpAny_Call_method base (by rw [hs]; rfl) hline PySem.F.plainAttrs_dict PySem.F.slot_dict_get PySem.F.type_dict_get (thn ((pe_glob (v := .ref ad) hg hm rfl hd).run pins s σ H (fun v H1 => v = .ref ad ∧ H1 = H) I ⟨rfl, rfl⟩) fun u s1 ⟨x1, H1, I1, rx, ex, eH⟩ => ?_)
  subst ex
  subst eH
  obtain rfl : u = Value.ref ad := rx
  refine ⟨(PySem.W.mapOf_K (prog := X.prog) (w := X.w) I1.kIn hl hk).typeIs, fun a e => by cases e; exact ⟨_, I1.kIn _ _ hl, rfl⟩, ?_⟩
  rw [hs]
  refine Calls.callWith_builtin rfl (Calls.evalArgs_plain (Calls.spliced_cons (thn (ha.run pins s1 σ H1 _ I1 (tE_step at_ h fun v H2 f2 M2 d _ x2 a2 rv h => (⟨f2, M2, d, a2, rv, h⟩ : ∃ f2 M2 d, At X.K cl δ σ H2 f2 M2 ∧ Rep X.K H2 f2 M2.length d v ∧ PostE X.K cl W (rpD X.K) σ (getD d kvs M2) H2 f2 M2 Q))) fun iv s2 ⟨y, H2, I2, ry, f2, M2, d, a2, rv, q⟩ => Calls.spliced_nil ?_)))
  have hm2 := PySem.W.mapOf_K (prog := X.prog) (w := X.w) I2.kIn hl hk
  unfold getD at q
  split at q
  · rename_i z
    have := rv.str; subst this
    obtain ⟨t, rfl⟩ := (show ∃ t, iv = Value.str z t from ry)
    refine call_meetsIn PySem.F.slot_dict_get hm2.typeIs PySem.F.entry_dict_get (PySem.F.args_dict_get_2 _ _) (meets_dict_get (strKind X.prog X.w) ad (strKind_is X.prog X.w z t) low) ⟨_, hm2, ?_⟩
    have fb : findBy Value.isStrOf es z = (es.toList.find? fun e => Value.isStrOf z e.key).map (·.val) := by
      obtain ⟨l⟩ := es
      unfold findBy
      rw [List.find?_toArray]
    obtain ⟨f1, f0⟩ := DgE.find (z := z) hE
    rw [fb]
    split at q
    · rename_i d' e'
      obtain ⟨e, u, q1, q2, q3⟩ := f1 d' e'
      rw [q1]
      exact ⟨u, H2, I2.tok _, q2, q.same a2.r (q3 _ _ _)⟩
    · rename_i e'
      rw [f0 e']
      exact ⟨.non, H2, I2.tok _, rfl, q.same a2.r rep_non⟩
  · exact q.elim
theorem g_app {o : Expr} {ap : Pos} (hbase : attributeBase o "append" X.env (eval o X.env) = eval o X.env) (hline : (ap.endLine == pos.line) = true) (hs : starEach [a] X.env = (false, eval a X.env) :: starEach [] X.env) (ho : PE X o (tE X.K cl W ga)) (ha : PE X a (tE X.K cl W gb)) :
    PE X (.Call (.Attribute o "append" ap) [a] [] pos) (tE X.K cl W fun δ M => (ga δ M).bind fun x M => match x with
      | .loc n => match M[n]? with
        | some (.lst _) => (gb δ M).bind fun y M => appD x y M
        | _ => .unk
      | _ => .unk) := by
  refine (pe_bm PySem.F.plainAttrs_list PySem.F.slot_list_append PySem.F.type_list_append mt_append ho (pa_cons ha pa_nil hs) hbase (by rw [hs]; rfl) hline hs rfl).weak fun σ H Q ⟨δ, f, M, at_, h⟩ => tE_step at_ h fun v H1 f1 M1 d _ x a1 rv h => ?_
  split at h
  · rename_i n _
    obtain ⟨rfl, hn⟩ := rv.loc
    split at h
    · rename_i zs hM
      obtain ⟨vs, hH, _⟩ := a1.r.lst hM
      refine ⟨.inl ⟨rfl, vs, SqL.of hH⟩, tE_step a1 h fun y H2 f2 M2 e _ x2 a2 ry h => ?_⟩
      have h : PostE X.K cl W (rpD X.K) σ (match M2[n]? with
        | some (.lst xs) => if xs.length < sizeLine then .ok .non (M2.set n (.lst (xs ++ [e]))) else .unk
        | _ => .unk) H2 f2 M2 Q := h
      split at h
      · rename_i xs hM2
        split at h
        · rename_i hl
          obtain ⟨ws, hW, hR⟩ := a2.r.lst hM2
          have hn2 : n < M2.length := (List.getElem?_eq_some_iff.mp hM2).1
          rw [← x2.same n hn]
          refine ⟨_, ws, y, rfl, rfl, hW, by rw [← hR.length]; exact hl, ?_⟩
          have mv := Mv.upd (K := X.K) (f := f2) (o := .lst (ws ++ [y])) ⟨_, hW, trivial⟩ M2.length
          exact h _ _ _ (Ext.write hn2) (a2.r.write hn2 ⟨_, upd_same, (Reps.mv mv _ _ hR).append (Reps.cons (Rep.mv mv _ _ ry) Reps.nil)⟩) rep_non
        · exact h.elim
      · exact h.elim
    · exact h.elim
  · exact h.elim
end

/-! ### what is walked -/
structure Wk (K : PySem.W.Frag) (cl : Cls0) (J : L2.It) (items : List D) (gd : Gd) (H0 : Hp) (f0 : Nat → Addr) (M0 : MH) : Prop where
  go : ∀ i d H f M, items[i]? = some d → Ext H0 f0 M0 H f M → Rl K cl H f M → gdOk M gd → J.go i H ∧ ∀ x H', J.yld i H x H' → Ext H f M H' f M ∧ Rl K cl H' f M ∧ Rep K H' f M.length d x
  stop : ∀ H f M, Ext H0 f0 M0 H f M → Rl K cl H f M → gdOk M gd → J.stop items.length H
abbrev rpI (K : PySem.W.Frag) (cl : Cls0) : Hp → (Nat → Addr) → MH → (List D × Gd) → L2.It → Prop := fun H f M p J => Wk K cl J p.1 p.2 H f M
def tI (K : PySem.W.Frag) (cl : Cls0) (W : WX) (g : Ev → MH → RE (List D × Gd)) : TI := fun σ H R => ∃ δ f M, At K cl δ σ H f M ∧ PostE K cl W (rpI K cl) σ (g δ M) H f M R

def SqX (t : Bool) (K : PySem.W.Frag) (H : Hp) (a : Addr) (vs : List V) : Prop := if t = true then SqT K H a vs else SqL K H a vs
def Src (K : PySem.W.Frag) (cl : Cls0) (t : Bool) (a : Addr) (xs : List D) (gd : Gd) (H0 : Hp) (f0 : Nat → Addr) (M0 : MH) : Prop :=
  ∀ H f M, Ext H0 f0 M0 H f M → Rl K cl H f M → gdOk M gd → ∃ vs, SqX t K H a vs ∧ Reps K H f M.length xs vs
theorem seqOf_src {K : PySem.W.Frag} {cl : Cls0} {H : Hp} {f : Nat → Addr} {M : MH} (r : Rl K cl H f M) {d : D} {v : V} (rd : Rep K H f M.length d v) {p : List D × Gd} (h : seqOf d M = some p) :
    ∃ a vs, v = .ref a ∧ SqX d.isTup K H a vs ∧ Src K cl d.isTup a p.1 p.2 H f M ∧ gdOk M p.2 := by
  unfold seqOf at h
  split at h
  · cases h
    obtain ⟨a, vs, rfl, h1, h2⟩ := rd.tup
    exact ⟨a, vs, rfl, h1, fun H1 f1 M1 x r1 _ => ⟨vs, x.sqt r h1, Reps.mv (x.mv r) _ _ h2⟩, trivial⟩
  · cases h
    obtain ⟨a, vs, rfl, h1, h2⟩ := rd.frl
    exact ⟨a, vs, rfl, h1.sql, fun H1 f1 M1 x r1 _ => ⟨vs, (x.sqf r h1).sql, Reps.mv (x.mv r) _ _ h2⟩, trivial⟩
  · rename_i n
    obtain ⟨rfl, hn⟩ := rd.loc
    split at h
    · rename_i xs hM
      cases h
      obtain ⟨vs, h1, h2⟩ := r.lst hM
      refine ⟨_, vs, rfl, SqL.of h1, fun H1 f1 M1 x r1 g => ?_, hM, trivial⟩
      obtain ⟨ws, h3, h4⟩ := r1.lst g.1
      rw [x.same n hn] at h3
      exact ⟨ws, SqL.of h3, h4⟩
    · cases h
  · cases h
theorem gdOk_append {M : MH} : ∀ {g g' : Gd}, gdOk M (g ++ g') ↔ gdOk M g ∧ gdOk M g'
  | [], g' => ⟨fun h => ⟨trivial, h⟩, fun h => h.2⟩
  | (n, xs) :: g, g' => by
    show (M[n]? = some (.lst xs) ∧ gdOk M (g ++ g')) ↔ (M[n]? = some (.lst xs) ∧ gdOk M g) ∧ gdOk M g'
    rw [gdOk_append, and_assoc]
section
variable {K : PySem.W.Frag} {cl : Cls0} {H : Hp} {f : Nat → Addr} {M : MH}
theorem new_pair {x y : V} {d e : D} {T : Addr} (r : Rl K cl H f M) (hT : H T = none) (rx : Rep K H f M.length d x) (ry : Rep K H f M.length e y) :
    Ext H f M (upd H T (.tup [x, y])) f M ∧ Rl K cl (upd H T (.tup [x, y])) f M ∧ Rep K (upd H T (.tup [x, y])) f M.length (.tup [d, e]) (.ref T) := by
  have x1 : Ext H f M (upd H T (.tup [x, y])) f M := Ext.laid hT
  exact ⟨x1, r.laid hT, rep_tup (SqT.of upd_same) (Reps.mv (x1.mv r) _ _ (Reps.cons rx (Reps.cons ry Reps.nil)))⟩
theorem wk_list {a : Addr} {xs : List D} {gd : Gd} (s : Src K cl false a xs gd H f M) : Wk K cl (Itl K a) xs gd H f M where
  go := fun i d H1 f1 M1 hi x r g => by
    obtain ⟨vs, h1, h2⟩ := s H1 f1 M1 x r g
    obtain ⟨v, hv, rv⟩ := h2.get hi
    refine ⟨⟨vs, v, h1, hv⟩, fun y H' ⟨e, q⟩ => ?_⟩
    subst e
    have := (q vs h1).symm.trans hv
    cases this
    exact ⟨Ext.refl _ _ _, r, rv⟩
  stop := fun H1 f1 M1 x r g => by
    obtain ⟨vs, h1, h2⟩ := s H1 f1 M1 x r g
    exact ⟨vs, h1, Nat.le_of_eq h2.length.symm⟩
theorem wk_tup {a : Addr} {xs : List D} {gd : Gd} (s : Src K cl true a xs gd H f M) : Wk K cl (Itt K a) xs gd H f M where
  go := fun i d H1 f1 M1 hi x r g => by
    obtain ⟨vs, h1, h2⟩ := s H1 f1 M1 x r g
    obtain ⟨v, hv, rv⟩ := h2.get hi
    refine ⟨⟨vs, v, h1, hv⟩, fun y H' ⟨e, q⟩ => ?_⟩
    subst e
    have := (q vs h1).symm.trans hv
    cases this
    exact ⟨Ext.refl _ _ _, r, rv⟩
  stop := fun H1 f1 M1 x r g => by
    obtain ⟨vs, h1, h2⟩ := s H1 f1 M1 x r g
    exact ⟨vs, h1, Nat.le_of_eq h2.length.symm⟩
theorem enum_get : ∀ {xs : List D} {k i : Nat} {d : D}, (enumFrom k xs)[i]? = some d → ∃ e, xs[i]? = some e ∧ d = .tup [.int ((k + i : Nat) : Int), e]
  | [], k, i, d, h => by simp [enumFrom] at h
  | x :: xs, k, 0, d, h => by simp [enumFrom] at h; exact ⟨x, by simp, by simp [h]⟩
  | x :: xs, k, i + 1, d, h => by
    have h : (enumFrom (k + 1) xs)[i]? = some d := by simpa [enumFrom] using h
    obtain ⟨e, h1, h2⟩ := enum_get h
    exact ⟨e, by simpa using h1, by rw [h2]; congr 4; omega⟩
theorem enum_len : ∀ {xs : List D} {k : Nat}, (enumFrom k xs).length = xs.length
  | [], k => rfl
  | x :: xs, k => by
    show (enumFrom (k + 1) xs).length + 1 = xs.length + 1
    rw [enum_len]
theorem wk_enumL {a : Addr} {xs : List D} {gd : Gd} (s : Src K cl false a xs gd H f M) : Wk K cl (Ite K a) (enumFrom 0 xs) gd H f M where
  go := fun i d H1 f1 M1 hi x r g => by
    obtain ⟨e, he, rfl⟩ := enum_get hi
    obtain ⟨vs, h1, h2⟩ := s H1 f1 M1 x r g
    obtain ⟨v, hv, rv⟩ := h2.get he
    refine ⟨⟨vs, v, h1, hv⟩, fun y H' ⟨T, w, e1, hT, e2, q⟩ => ?_⟩
    subst e1; subst e2
    have := (q vs h1).symm.trans hv
    cases this
    rw [Nat.zero_add]
    exact new_pair r hT rep_int rv
  stop := fun H1 f1 M1 x r g => by
    obtain ⟨vs, h1, h2⟩ := s H1 f1 M1 x r g
    exact ⟨vs, h1, by rw [enum_len, h2.length]; exact Nat.le_refl _⟩
theorem wk_enumT {a : Addr} {xs : List D} {gd : Gd} (s : Src K cl true a xs gd H f M) : Wk K cl (IteT K a) (enumFrom 0 xs) gd H f M where
  go := fun i d H1 f1 M1 hi x r g => by
    obtain ⟨e, he, rfl⟩ := enum_get hi
    obtain ⟨vs, h1, h2⟩ := s H1 f1 M1 x r g
    obtain ⟨v, hv, rv⟩ := h2.get he
    refine ⟨⟨vs, v, h1, hv⟩, fun y H' ⟨T, w, e1, hT, e2, q⟩ => ?_⟩
    subst e1; subst e2
    have := (q vs h1).symm.trans hv
    cases this
    rw [Nat.zero_add]
    exact new_pair r hT rep_int rv
  stop := fun H1 f1 M1 x r g => by
    obtain ⟨vs, h1, h2⟩ := s H1 f1 M1 x r g
    exact ⟨vs, h1, by rw [enum_len, h2.length]⟩
theorem zip_get : ∀ {xs ys : List D} {i : Nat} {d : D}, (zipD xs ys)[i]? = some d → ∃ e g, xs[i]? = some e ∧ ys[i]? = some g ∧ d = .tup [e, g]
  | [], ys, i, d, h => by simp [zipD] at h
  | x :: xs, [], i, d, h => by simp [zipD] at h
  | x :: xs, y :: ys, 0, d, h => by simp [zipD] at h; exact ⟨x, y, by simp, by simp, h.symm⟩
  | x :: xs, y :: ys, i + 1, d, h => by
    have h : (zipD xs ys)[i]? = some d := by simpa [zipD] using h
    obtain ⟨e, g, h1, h2, h3⟩ := zip_get h
    exact ⟨e, g, by simpa using h1, by simpa using h2, h3⟩
theorem zip_len : ∀ {xs ys : List D}, (zipD xs ys).length = min xs.length ys.length
  | [], ys => by simp [zipD]
  | x :: xs, [] => by simp [zipD]
  | x :: xs, y :: ys => by
    show (zipD xs ys).length + 1 = min (xs.length + 1) (ys.length + 1)
    rw [zip_len]; omega
theorem wk_zipL {a b : Addr} {xs ys : List D} {gd gd' : Gd} (s : Src K cl false a xs gd H f M) (s' : Src K cl false b ys gd' H f M) : Wk K cl (Itz K a b) (zipD xs ys) (gd ++ gd') H f M where
  go := fun i d H1 f1 M1 hi x r g => by
    obtain ⟨g1, g2⟩ := gdOk_append.mp g
    obtain ⟨e, e', he, he', rfl⟩ := zip_get hi
    obtain ⟨vs, h1, h2⟩ := s H1 f1 M1 x r g1
    obtain ⟨v, hv, rv⟩ := h2.get he
    obtain ⟨ws, h3, h4⟩ := s' H1 f1 M1 x r g2
    obtain ⟨w, hw, rw_⟩ := h4.get he'
    refine ⟨⟨vs, ws, v, w, h1, h3, hv, hw⟩, fun y H' ⟨T, p, q, e1, hT, e2, q1, q2⟩ => ?_⟩
    subst e1; subst e2
    have := (q1 vs h1).symm.trans hv
    cases this
    have := (q2 ws h3).symm.trans hw
    cases this
    exact new_pair r hT rv rw_
  stop := fun H1 f1 M1 x r g => by
    obtain ⟨g1, g2⟩ := gdOk_append.mp g
    obtain ⟨vs, h1, h2⟩ := s H1 f1 M1 x r g1
    obtain ⟨ws, h3, h4⟩ := s' H1 f1 M1 x r g2
    refine ⟨vs, ws, h1, h3, ?_⟩
    rw [zip_len, ← h2.length, ← h4.length]
    omega
theorem wk_zipT {a b : Addr} {xs ys : List D} {gd gd' : Gd} (s : Src K cl true a xs gd H f M) (s' : Src K cl true b ys gd' H f M) : Wk K cl (RZ.ItzT K a b) (zipD xs ys) (gd ++ gd') H f M where
  go := fun i d H1 f1 M1 hi x r g => by
    obtain ⟨g1, g2⟩ := gdOk_append.mp g
    obtain ⟨e, e', he, he', rfl⟩ := zip_get hi
    obtain ⟨vs, h1, h2⟩ := s H1 f1 M1 x r g1
    obtain ⟨v, hv, rv⟩ := h2.get he
    obtain ⟨ws, h3, h4⟩ := s' H1 f1 M1 x r g2
    obtain ⟨w, hw, rw_⟩ := h4.get he'
    refine ⟨⟨vs, ws, v, w, h1, h3, hv, hw⟩, fun y H' ⟨T, p, q, e1, hT, e2, q1, q2⟩ => ?_⟩
    subst e1; subst e2
    have := (q1 vs h1).symm.trans hv
    cases this
    have := (q2 ws h3).symm.trans hw
    cases this
    exact new_pair r hT rv rw_
  stop := fun H1 f1 M1 x r g => by
    obtain ⟨g1, g2⟩ := gdOk_append.mp g
    obtain ⟨vs, h1, h2⟩ := s H1 f1 M1 x r g1
    obtain ⟨ws, h3, h4⟩ := s' H1 f1 M1 x r g2
    refine ⟨vs, ws, h1, h3, ?_⟩
    rw [zip_len, ← h2.length, ← h4.length]
    omega
theorem rng_get {lo c : Int} {n i : Nat} {d : D} (h : (rngD lo c n)[i]? = some d) : i < n ∧ d = .int (lo + (i : Int) * c) := by
  unfold rngD at h
  rw [List.getElem?_map] at h
  by_cases hi : i < n
  · rw [List.getElem?_range hi] at h
    cases h
    exact ⟨hi, rfl⟩
  · rw [List.getElem?_eq_none (by simpa using hi)] at h
    cases h
theorem wk_rng {lo : Int} {n : Nat} : Wk K cl (Itr lo n) (rngD lo 1 n) [] H f M where
  go := fun i d H1 f1 M1 hi x r g => by
    obtain ⟨h1, rfl⟩ := rng_get hi
    refine ⟨h1, fun y H' ⟨e, q⟩ => ?_⟩
    subst e; subst q
    rw [Int.mul_one]
    exact ⟨Ext.refl _ _ _, r, rep_int⟩
  stop := fun H1 f1 M1 x r g => by unfold rngD; rw [List.length_map, List.length_range]; exact Nat.le_refl _
theorem wk_rngC {lo c : Int} {n : Nat} : Wk K cl (Itc lo c n) (rngD lo c n) [] H f M where
  go := fun i d H1 f1 M1 hi x r g => by
    obtain ⟨h1, rfl⟩ := rng_get hi
    refine ⟨h1, fun y H' ⟨e, q⟩ => ?_⟩
    subst e; subst q
    exact ⟨Ext.refl _ _ _, r, rep_int⟩
  stop := fun H1 f1 M1 x r g => by unfold rngD; rw [List.length_map, List.length_range]; exact Nat.le_refl _
end
section
variable {X : Cx} {cl : Cls0} {W : WX} {a b c tg : Expr} {pos : Pos} {ga gb gc : Ev → MH → RE D}
theorem i_seq (ha : PE X a (tE X.K cl W ga)) : PI X tg a (tI X.K cl W fun δ M => (ga δ M).bind fun d M => match seqOf d M with
    | some p => .ok p M
    | none => .unk) :=
  (pi_seq ha).weak fun σ H R ⟨δ, f, M, at_, h⟩ => tE_step at_ h fun v H1 f1 M1 d _ x a1 rv h => by
    split at h
    · rename_i p hp
      obtain ⟨q, vs, rfl, h1, s, g⟩ := seqOf_src a1.r rv hp
      refine ⟨q, rfl, ?_⟩
      cases ht : d.isTup with
      | true =>
        rw [ht] at h1 s
        exact .inr ⟨vs, h1, h _ _ _ (Ext.refl _ _ _) a1.r (wk_tup s)⟩
      | false =>
        rw [ht] at h1 s
        exact .inl ⟨vs, h1, h _ _ _ (Ext.refl _ _ _) a1.r (wk_list s)⟩
    · exact h.elim
theorem i_enum {p tpos : Pos} {elts : List Expr} {kk : Nat} (hbn : ∀ x ∈ biNames, X.mg x = none) (hg : Gl X "enumerate") (hs : starEach [a] X.env = (false, eval a X.env) :: starEach [] X.env) (ha : PE X a (tE X.K cl W ga)) :
    PI X (.Tuple elts kk tpos) (.Call (.Name "enumerate" p) [a] [] pos) (tI X.K cl W fun δ M => (ga δ M).bind fun d M => match seqOf d M with
      | some p => .ok (enumFrom 0 p.1, p.2) M
      | none => .unk) :=
  (pi_enumA hg (hbn _ (by simp [biNames])) (pa_cons ha pa_nil hs) hs).weak fun σ H R ⟨δ, f, M, at_, h⟩ => tE_step at_ h fun v H1 f1 M1 d _ x a1 rv h => by
    split at h
    · rename_i p hp
      obtain ⟨q, vs, rfl, h1, s, g⟩ := seqOf_src a1.r rv hp
      refine ⟨q, vs, rfl, ?_⟩
      cases ht : d.isTup with
      | true =>
        rw [ht] at h1 s
        exact .inr ⟨h1, h _ _ _ (Ext.refl _ _ _) a1.r (wk_enumT s)⟩
      | false =>
        rw [ht] at h1 s
        exact .inl ⟨h1, h _ _ _ (Ext.refl _ _ _) a1.r (wk_enumL s)⟩
    · exact h.elim
theorem i_zip {p tpos : Pos} {elts : List Expr} {kk : Nat} (hbn : ∀ x ∈ biNames, X.mg x = none) (hg : Gl X "zip") (hs : starEach [a, b] X.env = (false, eval a X.env) :: starEach [b] X.env) (hs2 : starEach [b] X.env = (false, eval b X.env) :: starEach [] X.env) (hpl : (backTo pos (starEach [b] X.env)).any (·.1) = false)
    (ha : PE X a (tE X.K cl W ga)) (hb : PE X b (tE X.K cl W gb)) :
    PI X (.Tuple elts kk tpos) (.Call (.Name "zip" p) [a, b] [] pos) (tI X.K cl W fun δ M => (ga δ M).bind fun x M => (gb δ M).bind fun y M => match seqOf x M, seqOf y M with
      | some p, some q => if x.isTup = y.isTup then .ok (zipD p.1 q.1, p.2 ++ q.2) M else .unk
      | _, _ => .unk) :=
  (RZ.pi_zipA hg (hbn _ (by simp [biNames])) (pa_cons ha (pa_cons hb pa_nil hs2) hs) hs hpl).weak fun σ H R ⟨δ, f, M, at_, h⟩ => tE_step at_ h fun v H1 f1 M1 d _ x a1 rv h => tE_step a1 h fun w H2 f2 M2 e _ x2 a2 rw_ h => by
    split at h
    · rename_i p q hp hq
      split at h
      · rename_i ht
        obtain ⟨pa, vs, rfl, h1, s, g⟩ := seqOf_src a2.r (Rep.mv (x2.mv a1.r) _ _ rv) hp
        obtain ⟨qa, ws, rfl, h1', s', g'⟩ := seqOf_src a2.r rw_ hq
        refine ⟨pa, qa, vs, ws, rfl, ?_⟩
        rw [← ht] at h1' s'
        cases htt : d.isTup with
        | true =>
          rw [htt] at h1 s h1' s'
          exact .inr ⟨h1, h1', h _ _ _ (Ext.refl _ _ _) a2.r (wk_zipT s s')⟩
        | false =>
          rw [htt] at h1 s h1' s'
          exact .inl ⟨h1, h1', h _ _ _ (Ext.refl _ _ _) a2.r (wk_zipL s s')⟩
      · exact h.elim
    · exact h.elim
open Classical in
theorem i_rng1 {p : Pos} (hbn : ∀ x ∈ biNames, X.mg x = none) (hg : Gl X "range") (hs : starEach [a] X.env = (false, eval a X.env) :: starEach [] X.env) (ha : PE X a (tE X.K cl W ga)) :
    PI X tg (.Call (.Name "range" p) [a] [] pos) (tI X.K cl W fun δ M => (ga δ M).bind fun x M => match x with
      | .int j => if okR j then .ok (rngD 0 1 j.toNat, []) M else .unk
      | _ => .unk) :=
  (pi_range1 hg (hbn _ (by simp [biNames])) (pa_cons ha pa_nil hs) hs).weak fun σ H R ⟨δ, f, M, at_, h⟩ => tE_step at_ h fun v H1 f1 M1 d _ x a1 rv h => by
    split at h
    · have := rv.int; subst this
      split at h
      · rename_i hj
        exact ⟨_, rfl, hj.1, hj.2, h _ _ _ (Ext.refl _ _ _) a1.r wk_rng⟩
      · exact h.elim
    · exact h.elim
open Classical in
theorem i_rng2 {p : Pos} (hbn : ∀ x ∈ biNames, X.mg x = none) (hg : Gl X "range") (hs : starEach [a, b] X.env = (false, eval a X.env) :: starEach [b] X.env) (hs2 : starEach [b] X.env = (false, eval b X.env) :: starEach [] X.env) (ha : PE X a (tE X.K cl W ga)) (hb : PE X b (tE X.K cl W gb)) :
    PI X tg (.Call (.Name "range" p) [a, b] [] pos) (tI X.K cl W fun δ M => (ga δ M).bind fun x M => (gb δ M).bind fun y M => match x, y with
      | .int i, .int j => if okR i ∧ okR j then .ok (rngD i 1 (j - i).toNat, []) M else .unk
      | _, _ => .unk) :=
  (pi_range2 hg (hbn _ (by simp [biNames])) (pa_cons ha (pa_cons hb pa_nil hs2) hs) (by rw [hs, hs2]; rfl) (by rw [hs2]; rfl)).weak fun σ H R ⟨δ, f, M, at_, h⟩ => tE_step at_ h fun v H1 f1 M1 d _ x a1 rv h => tE_step a1 h fun w H2 f2 M2 e _ x2 a2 rw_ h => by
    split at h
    · have := rv.int; subst this
      have := rw_.int; subst this
      split at h
      · rename_i hj
        exact ⟨_, _, rfl, ⟨hj.1.1, hj.1.2, hj.2.1, hj.2.2⟩, h _ _ _ (Ext.refl _ _ _) a2.r wk_rng⟩
      · exact h.elim
    · exact h.elim
open Classical in
theorem i_rng3 {p : Pos} (hbn : ∀ x ∈ biNames, X.mg x = none) (hg : Gl X "range") (hs : starEach [a, b, c] X.env = (false, eval a X.env) :: starEach [b, c] X.env) (hs2 : starEach [b, c] X.env = (false, eval b X.env) :: starEach [c] X.env) (hs3 : starEach [c] X.env = (false, eval c X.env) :: starEach [] X.env)
    (ha : PE X a (tE X.K cl W ga)) (hb : PE X b (tE X.K cl W gb)) (hc : PE X c (tE X.K cl W gc)) :
    PI X tg (.Call (.Name "range" p) [a, b, c] [] pos) (tI X.K cl W fun δ M => (ga δ M).bind fun x M => (gb δ M).bind fun y M => (gc δ M).bind fun z M => match x, y, z with
      | .int i, .int j, .int k => if okR3 i j k then .ok (rngD i k (Builtin.Range.rangeSize i j k).toNat, []) M else .unk
      | _, _, _ => .unk) :=
  (pi_range3 hg (hbn _ (by simp [biNames])) (pa_cons ha (pa_cons hb (pa_cons hc pa_nil hs3) hs2) hs) hs (by rw [hs2, hs3]; rfl)).weak fun σ H R ⟨δ, f, M, at_, h⟩ => tE_step at_ h fun v H1 f1 M1 d _ x a1 rv h => tE_step a1 h fun w H2 f2 M2 e _ x2 a2 rw_ h => tE_step a2 h fun w3 H3 f3 M3 e3 _ x3 a3 r3 h => by
    split at h
    · have := rv.int; subst this
      have := rw_.int; subst this
      have := r3.int; subst this
      split at h
      · rename_i hj
        exact ⟨_, _, _, _, rfl, ⟨hj.1, hj.2.1, hj.2.2.1, (Int.toNat_of_nonneg hj.2.2.2).symm⟩, h _ _ _ (Ext.refl _ _ _) a3.r wk_rngC⟩
      · exact h.elim
    · exact h.elim
end
end RF

/-! RFi: targets, list comprehensions. -/
namespace RF
open PySem PySem.Spec PyProof.Rows L2
theorem _root_.L2.PG.weak {X : Cx} {e : Expr} {t t' : TG} (h : PG X e t) (w : ∀ v σ H Q, t' v σ H Q → t v σ H Q) : PG X e t' := ⟨fun pins s σ H v u Q I r q => h.run pins s σ H v u Q I r (w v σ H Q q)⟩
theorem _root_.L2.PGs.weak {X : Cx} {e : List Expr} {t t' : TGs} (h : PGs X e t) (w : ∀ v σ H Q, t' v σ H Q → t v σ H Q) : PGs X e t' := ⟨fun pins s σ H v u Q I r q => h.run pins s σ H v u Q I r (w v σ H Q q)⟩
theorem _root_.L2.PTs.weak {X : Cx} {e : List Expr} {t t' : TT} (h : PTs X e t) (w : ∀ σ H Q, t' σ H Q → t σ H Q) : PTs X e t' := ⟨fun pins s σ H Q I q => h.run pins s σ H Q I (w σ H Q q)⟩
def tG (K : PySem.W.Frag) (cl : Cls0) (tg : Tg) : TG := fun v σ H Q => ∃ δ f M d δ', At K cl δ σ H f M ∧ Rep K H f M.length d v ∧ bindTg tg d δ = some δ' ∧ ∀ σ', At K cl δ' σ' H f M → (∀ i, i ∉ tg.slots → σ'[i]? = σ[i]?) → σ'.length = σ.length → Q σ' H
def setsD (is : List Nat) (ds : List D) (δ : Ev) : Ev := (is.zip ds).foldl (fun δ p => δ.set p.1 (some p.2)) δ
def setsV (is : List Nat) (vs : List V) (σ : L2.St) : L2.St := (is.zip vs).foldl (fun σ p => σ.set p.1 (some p.2)) σ
theorem sets_rep {K : PySem.W.Frag} {H : Hp} {f : Nat → Addr} {n : Nat} : ∀ {is : List Nat} {ds : List D} {vs : List V} {δ : Ev} {σ : L2.St}, Reps K H f n ds vs → RepE K H f n δ σ → RepE K H f n (setsD is ds δ) (setsV is vs σ)
  | [], ds, vs, δ, σ, r, e => e
  | i :: is, [], vs, δ, σ, r, e => by
    have := r.nil'; subst this; exact e
  | i :: is, d :: ds, vs, δ, σ, r, e => by
    obtain ⟨v, w, rfl, h1, h2⟩ := r.cons'
    exact sets_rep (is := is) h2 (e.set i h1)
theorem sets_out : ∀ {is : List Nat} {vs : List V} {σ : L2.St}, (∀ i, i ∉ is → (setsV is vs σ)[i]? = σ[i]?) ∧ (setsV is vs σ).length = σ.length
  | [], vs, σ => ⟨fun _ _ => rfl, rfl⟩
  | j :: is, [], σ => ⟨fun _ _ => rfl, rfl⟩
  | j :: is, v :: vs, σ => by
    obtain ⟨h1, h2⟩ := sets_out (is := is) (vs := vs) (σ := σ.set j (some v))
    refine ⟨fun i hi => ?_, by rw [show setsV (j :: is) (v :: vs) σ = setsV is vs (σ.set j (some v)) from rfl, h2, List.length_set]⟩
    have a1 : i ≠ j := fun e => hi (e ▸ List.mem_cons_self)
    have a2 : i ∉ is := fun e => hi (List.mem_cons_of_mem _ e)
    rw [show setsV (j :: is) (v :: vs) σ = setsV is vs (σ.set j (some v)) from rfl, h1 i a2, List.getElem?_set_ne (Ne.symm a1)]
section
variable {X : Cx} {cl : Cls0} {W : WX} {N : List Str} {sc : Scope} {bs : Option Scope} {wi : Bool}
theorem chkSt_names (cx : Ctx X cl W N sc bs wi) : ∀ {is : List Nat} {es : List Expr}, chkStEs N sc bs is es = true →
    PGs X es (fun vs σ H Q => vs.length = is.length ∧ Q (setsV is vs σ) H) ∧ (assignEach es X.env).length = is.length ∧ (assignEach es X.env).findIdx? (·.1) = none
  | [], [], h => ⟨(pgs_nil (X := X)).weak fun v σ H Q q => ⟨List.length_eq_zero_iff.mp q.1, by
      have := List.length_eq_zero_iff.mp q.1
      subst this
      exact q.2⟩, rfl, rfl⟩
  | [], e :: es, h => absurd h Bool.false_ne_true
  | i :: is, [], h => absurd h Bool.false_ne_true
  | i :: is, e :: es, h => by
    have h : (chkNm N sc bs i e && chkStEs N sc bs is es) = true := h
    rw [Bool.and_eq_true] at h
    obtain ⟨h1, h2⟩ := h
    obtain ⟨q1, q2, q3⟩ := chkSt_names cx h2
    cases e <;> first | exact absurd h1 Bool.false_ne_true | skip
    rename_i x p
    obtain ⟨a1, a2, a3⟩ := cx.sto h1
    refine ⟨(pgs_cons (pg_name cx.nd' a1 a2 a3) q1 rfl).weak fun vs σ H Q q => ?_, ?_, ?_⟩
    · obtain ⟨hl, q⟩ := q
      cases vs with
      | nil => cases hl
      | cons v vs => exact ⟨v, vs, rfl, by simpa using hl, q⟩
    · show (assignEach es X.env).length + 1 = is.length + 1
      rw [q2]
    · show ((false, _) :: assignEach es X.env).findIdx? (·.1) = none
      rw [List.findIdx?_cons, q3]
      rfl
theorem g_tg (cx : Ctx X cl W N sc bs wi) {tg : Tg} {tge : Expr} (h : chkTg N sc bs tg tge = true) : PG X tge (tG X.K cl tg) := by
  cases tg with
  | nm i =>
    have h : chkNm N sc bs i tge = true := h
    cases tge <;> first | exact absurd h Bool.false_ne_true | skip
    · rename_i x p
      obtain ⟨a1, a2, a3⟩ := cx.sto h
      refine (pg_name cx.nd' a1 a2 a3).weak fun v σ H Q ⟨δ, f, M, d, δ', at_, rd, hb, q⟩ => ?_
      cases hb
      refine q _ ⟨at_.r, at_.e.set i rd⟩ (fun j hj => ?_) (by rw [List.length_set])
      rw [List.getElem?_set_ne]
      intro e
      subst e
      exact hj (by simp [Tg.slots])
  | tup is =>
    cases tge <;> first | exact absurd h Bool.false_ne_true | skip
    · rename_i es k p
      obtain ⟨q1, q2, q3⟩ := chkSt_names cx h
      refine (pg_tup cx.calm q1 q2 q3).weak fun v σ H Q ⟨δ, f, M, d, δ', at_, rd, hb, q⟩ => ?_
      cases d <;> first | cases hb | skip
      rename_i ds
      have hb : (if ds.length = is.length then some (setsD is ds δ) else none) = some δ' := hb
      split at hb
      · rename_i hl
        cases hb
        obtain ⟨a, vs, rfl, h1, h2⟩ := rd.tup
        refine ⟨a, vs, rfl, h1, by rw [← h2.length]; exact hl, by rw [← h2.length]; exact hl, ?_⟩
        exact q _ ⟨at_.r, sets_rep h2 at_.e⟩ sets_out.1 sets_out.2
      · cases hb
theorem relS_eq (scope : Scope) (env : Env) : relabel scope env = relS scope env.scope := rfl
theorem Ctx.blk (cx : Ctx X cl W N sc bs wi) {scope : Scope} (hk : scope.kind = .function) (s : Shared) (H : Hp) (C : Addr) (cells : List (Str × Addr)) (fp : List Addr) :
    Ctx (X.blk s H scope (compEnvC scope cells C X.env) fp) cl (fun _ _ _ _ => False) N (relS scope sc) (some scope) true where
  eN := cx.eN
  nd := cx.nd
  eS := by
    show relabel scope X.env = relS scope sc
    rw [relS_eq, cx.eS]
  kind := hk
  calm := cx.calm
  tk := takes0
  po := PassesOwn.never
  hu := cx.hu
  fn := fun x h => h
  wi := fun _ _ _ _ _ _ h => h
  bn := cx.bn
end
theorem wipe_rep {K : PySem.W.Frag} {H : Hp} {f : Nat → Addr} {n : Nat} {δ : Ev} {σ : L2.St} (r : RepE K H f n δ σ) : ∀ vs : List Nat, RepE K H f n (wipeD δ vs) (wipe σ vs)
  | [] => r
  | v :: vs => (wipe_rep r vs).unset v
theorem wipe_get {σ : L2.St} {i : Nat} : ∀ {vs : List Nat}, (wipe σ vs)[i]? = if i ∈ vs then (if i < σ.length then some none else none) else σ[i]?
  | [] => by simp [wipe]
  | v :: vs => by
    show ((wipe σ vs).set v none)[i]? = _
    by_cases e : v = i
    · subst e
      rw [if_pos List.mem_cons_self]
      by_cases hl : v < σ.length
      · rw [List.getElem?_set_self (by rw [wipe_length]; exact hl), if_pos hl]
      · rw [List.getElem?_eq_none (by rw [List.length_set, wipe_length]; omega), if_neg hl]
    · rw [List.getElem?_set_ne e, wipe_get]
      by_cases hm : i ∈ vs
      · rw [if_pos hm, if_pos (List.mem_cons_of_mem _ hm)]
      · rw [if_neg hm, if_neg]
        intro z
        rcases List.mem_cons.mp z with z | z
        · exact e z.symm
        · exact hm z
theorem wipe_eq {σ σ' : L2.St} {vs : List Nat} (h : ∀ i, i ∉ vs → σ'[i]? = (wipe σ vs)[i]?) (hl : σ'.length = (wipe σ vs).length) : wipe σ' vs = wipe σ vs := by
  apply List.ext_getElem?
  intro i
  rw [wipe_length] at hl
  rw [wipe_get]
  by_cases hm : i ∈ vs
  · rw [if_pos hm, wipe_get, if_pos hm, hl]
  · rw [if_neg hm, h i hm]
theorem Ext.over {Hb H : Hp} {fb f : Nat → Addr} {Mb M : MH} {a : Addr} {o : HO} (x : Ext Hb fb Mb H f M) (ha : Hb a = none) : Ext Hb fb Mb (upd H a o) f M :=
  ⟨x.le, x.same, x.new, fun c u h ho => by rw [upd_ne (ne_of_none h ha)]; exact x.keep c u h ho⟩

section
variable {X : Cx} {cl : Cls0} {W : WX}
theorem lc_run {own : List (Str × Nat)} {tg : Tg} {gI : Ev → MH → RE (List D × Gd)} {gc : Ev → MH → RE Bool} {ge : Ev → MH → RE D} (hsl : ∀ i ∈ tg.slots, i ∈ own.map (·.2)) {α β : Type} {rq : Hp → (Nat → Addr) → MH → α → β → Prop}
    {k : List D → MH → RE α} {δ : Ev} {σ : L2.St} {H : Hp} {f : Nat → Addr} {M : MH} {Q0 : β → Hp → Prop} (at_ : At X.K cl δ σ H f M)
    (h : PostE X.K cl W rq σ ((gI δ M).bind fun p M => (lcLoop p.2 (lcTurn tg gc ge (wipeD δ (own.map (·.2)))) p.1 [] M).bind k) H f M Q0) {R : VK}
    (fin : ∀ a Hb fb Mb H1 f1 M1 ds ws, Ext Hb fb Mb H1 f1 M1 → At X.K cl δ σ H1 f1 M1 → Hb a = none → H1 a = some (.lst ws) → (∀ i, i < M1.length → f1 i ≠ a) → Reps X.K H1 f1 M1.length ds ws → PostE X.K cl W rq σ (k ds M1) Hb fb Mb Q0 → R (.ref a) H1) :
    tLc (tI X.K cl W gI) (tG X.K cl tg) (tT X.K cl (fun _ _ _ _ => False) gc) (tE X.K cl (fun _ _ _ _ => False) ge) (own.map (·.2)) σ H R := by
  refine ⟨δ, f, M, at_, (PostE.bind (rp := rpI X.K cl) at_ h).imp fun J Hb ⟨fb, Mb, p, _, xb, ab, wk, h⟩ => fun a ha => ?_⟩
  obtain ⟨items, gd⟩ := p
  have wk : Wk X.K cl J items gd Hb fb Mb := wk
  have h : PostE X.K cl W rq σ ((lcLoop gd (lcTurn tg gc ge (wipeD δ (own.map (·.2)))) items [] Mb).bind k) Hb fb Mb Q0 := h
  generalize hT : lcLoop gd (lcTurn tg gc ge (wipeD δ (own.map (·.2)))) items [] Mb = T at h
  have notunk : T ≠ .unk := fun e => by rw [e] at h; exact h
  refine ⟨fun i m H => m = items.length - i ∧ i ≤ items.length ∧ ∃ f' M' acc ws, Ext Hb fb Mb H f' M' ∧ At X.K cl δ σ H f' M' ∧ H a = some (.lst ws) ∧ (∀ j, j < M'.length → f' j ≠ a) ∧ Reps X.K H f' M'.length acc ws ∧
      lcLoop gd (lcTurn tg gc ge (wipeD δ (own.map (·.2)))) (items.drop i) acc M' = T,
    ⟨items.length, by simp, Nat.zero_le _, fb, Mb, [], [], Ext.laid ha, ab.mv (Ext.laid ha) (ab.r.laid ha), upd_same, ab.r.outN ha, Reps.nil, by rw [List.drop_zero]; exact hT⟩, ?_⟩
  rintro i m H ⟨rfl, hi, f', M', acc, ws, x1, a1, hH, hout, hR, hL⟩
  by_cases hlt : i < items.length
  · have hd : items.drop i = items[i] :: items.drop (i + 1) := List.drop_eq_getElem_cons hlt
    have hit : items[i]? = some items[i] := List.getElem?_eq_getElem hlt
    generalize items[i] = d at hd hit
    rw [hd] at hL
    unfold lcLoop at hL
    split at hL
    · rename_i hg
      obtain ⟨go, yld⟩ := wk.go i d H f' M' hit x1 a1.r hg
      refine .inr ⟨go, fun H' => i + 1 ≤ items.length ∧ ∃ f' M' acc ws, Ext Hb fb Mb H' f' M' ∧ At X.K cl δ σ H' f' M' ∧ H' a = some (.lst ws) ∧ (∀ j, j < M'.length → f' j ≠ a) ∧ Reps X.K H' f' M'.length acc ws ∧
        lcLoop gd (lcTurn tg gc ge (wipeD δ (own.map (·.2)))) (items.drop (i + 1)) acc M' = T, fun H' q => ⟨items.length - (i + 1), by omega, rfl, q⟩, fun x H' hy => ?_⟩
      obtain ⟨xy, ry, rx⟩ := yld x H' hy
      have a2 : At X.K cl δ σ H' f' M' := a1.mv xy ry
      have hH2 : H' a = some (.lst ws) := xy.keep a _ hH hout
      have x2 : Ext Hb fb Mb H' f' M' := x1.trans a1.r xy
      have hR2 := Reps.mv (xy.mv a1.r) _ _ hR
      cases q : lcTurn tg gc ge (wipeD δ (own.map (·.2))) d M' with
      | exc e M3 => rw [q] at hL; exact absurd hL.symm notunk
      | unk => rw [q] at hL; exact absurd hL.symm notunk
      | ok o M3 =>
        rw [q] at hL
        unfold lcTurn at q
        split at q
        · rename_i δ' hb
          refine ⟨wipeD δ (own.map (·.2)), f', M', d, δ', ⟨ry, wipe_rep a2.e _⟩, rx, hb, fun σ' as hs hl => ⟨wipe_eq (fun j hj => hs j fun z => hj (hsl j z)) hl, ?_⟩⟩
          refine ⟨δ', f', M', as, ?_⟩
          cases q1 : gc δ' M' with
          | exc e M4 => rw [q1] at q; cases q
          | unk => rw [q1] at q; cases q
          | ok kb M4 =>
            rw [q1] at q
            refine PostE.of fun v H3 f3 x3 r3 e => ?_
            have e : v = kb := e
            subst e
            have hH3 : H3 a = some (.lst ws) := x3.keep a _ hH2 hout
            have hout3 := x3.out hH2 hout
            have x30 : Ext Hb fb Mb H3 f3 M4 := x2.trans ry x3
            have a3 : At X.K cl δ σ H3 f3 M4 := a2.mv x3 r3
            have hR3 := Reps.mv (x3.mv ry) _ _ hR2
            cases v with
            | true =>
              have q : ((ge δ' M4).bind fun y M => RE.ok (some y) M) = .ok o M3 := q
              refine iteT ⟨δ', f3, M4, as.mv x3 r3, ?_⟩
              cases q2 : ge δ' M4 with
              | exc e M5 => rw [q2] at q; cases q
              | unk => rw [q2] at q; cases q
              | ok y M5 =>
                rw [q2] at q
                cases q
                refine PostE.of fun v H4 f4 x4 r4 rv => ?_
                have hH4 : H4 a = some (.lst ws) := x4.keep a _ hH3 hout3
                have hout4 := x4.out hH3 hout3
                have hL : (if acc.length < sizeLine then lcLoop gd (lcTurn tg gc ge (wipeD δ (own.map (·.2)))) (items.drop (i + 1)) (acc ++ [y]) M3 else .unk) = T := hL
                split at hL
                · rename_i hsz
                  have hR4 := Reps.mv (x4.mv r3) _ _ hR3
                  have mv := Mv.upd (K := X.K) (f := f4) (o := .lst (ws ++ [v])) ⟨_, hH4, trivial⟩ M3.length
                  have a4 : At X.K cl δ σ H4 f4 M3 := a3.mv x4 r4
                  refine ⟨ws, hH4, by rw [← hR4.length]; exact hsz, hlt, f4, M3, acc ++ [y], ws ++ [v], (x30.trans r3 x4).over ha, ⟨r4.at mv hout4, a4.e.mv mv⟩, upd_same, hout4, ?_, hL⟩
                  exact (Reps.mv mv _ _ hR4).append (Reps.cons (Rep.mv mv _ _ rv) Reps.nil)
                · exact absurd hL.symm notunk
            | false =>
              have q : RE.ok none M4 = RE.ok o M3 := q
              cases q
              exact iteF ⟨hlt, f3, _, acc, ws, x30, a3, hH3, hout3, hR3, hL⟩
        · cases q
    · exact absurd hL.symm notunk
  · have e : i = items.length := by omega
    subst e
    rw [List.drop_length] at hL
    unfold lcLoop at hL
    split at hL
    · rename_i hg
      refine .inl ⟨wk.stop H f' M' x1 a1.r hg, ?_⟩
      rw [← hL] at h
      exact fin a Hb fb Mb H f' M' acc ws x1 a1 ha hH hout hR h
    · exact absurd hL.symm notunk
end
end RF

/-! RFj: every expression that passes the check means what the small language says. -/
namespace RF
open PySem PySem.Spec PyProof.Rows L2
theorem meth_eval {o : Expr} {m : Str} {ap pos : Pos} {args : List Expr} {env : Env} (h0 : noCall0 o = true) (hpl : (backTo pos (starEach args env)).all (fun x => !x.1) = true) (hn : args.length < 20) (hl : (ap.endLine == pos.line) = true) :
    eval (.Call (.Attribute o m ap) args [] pos) env = (do
      let ov ← eval o env
      standAt ap.atName
      let (f, first) ← holding [ov] (getMethod ov m (do return (← importBound o env).getD true))
      callWith pos f first (backTo pos (starEach args env)) (backToKw pos (keywordEach [] env))) := by
  have e1 : eval (.Call (.Attribute o m ap) args [] pos) env = (do
      let ov ← attributeBase o m env (eval o env)
      standAt ap.atName
      methodCall o m ap pos env ov (args.length + 0) (backTo pos (starEach args env)) (backToKw pos (keywordEach [] env))) := rfl
  have hf : methodCallForm (args.length + 0) (backTo pos (starEach args env)) (backToKw pos (keywordEach [] env)) = true := by
    unfold methodCallForm
    rw [hpl]
    show (true && true && decide (args.length + 0 + 0 < 30)) = true
    rw [decide_eq_true (by omega)]
    rfl
  have hp : methodCallPos true o env ap pos = pure pos := by
    unfold methodCallPos
    rw [hl]
    rfl
  rw [e1, attrBase h0]
  unfold methodCall
  rw [hf, hp]
  rfl
structure SnE (X : Cx) (cl : Cls0) (W : WX) (m : E) (e : Expr) : Prop where
  pe : PE X e (tE X.K cl W (evE m))
  pt : isIf m = false → PT X e (tT X.K cl W (evT m))
structure SnEs (X : Cx) (cl : Cls0) (W : WX) (m : Es) (l : List Expr) : Prop where
  pa : PA X l (tA X.K cl W (evEs m))
  an : m.isNil = false → m.noIf = true → ∀ pos, PE X (.BoolOp .And l pos) (tE X.K cl W (evAnd m)) ∧ PW X (.BoolOp .And l pos) (tT X.K cl W fun δ M => (evAnd m δ M).bind thT)
  or : m.isNil = false → m.noIf = true → ∀ pos, PE X (.BoolOp .Or l pos) (tE X.K cl W (evOr m)) ∧ PW X (.BoolOp .Or l pos) (tT X.K cl W fun δ M => (evOr m δ M).bind thT)
theorem SnE.any {X : Cx} {cl : Cls0} {W : WX} {m : E} {e : Expr} (h : PE X e (tE X.K cl W (evE m))) (ht : ∀ whole, isTrue e X.env whole = (do let v ← whole; standAt e.pos; holding [v] (truthy v))) : SnE X cl W m e := ⟨h, fun _ => t_any h ht⟩
theorem _root_.L2.PW.weak {X : Cx} {e : Expr} {t t' : TT} (h : PW X e t) (w : ∀ σ H Q, t' σ H Q → t σ H Q) : PW X e t' := ⟨fun wh pins s σ H Q I q => h.run wh pins s σ H Q I (w σ H Q q)⟩
section
variable {X : Cx} {cl : Cls0} {W : WX} {a b : Expr} {rest : List Expr} {pos : Pos} {ga gb : Ev → MH → RE D}
def gAnd (ga gb : Ev → MH → RE D) : Ev → MH → RE D := fun δ M => (ga δ M).bind fun d M => match d with
    | .bl true => gb δ M
    | .bl false => .ok (.bl false) M
    | _ => .unk
def gOr (ga gb : Ev → MH → RE D) : Ev → MH → RE D := fun δ M => (ga δ M).bind fun d M => match d with
    | .bl true => .ok (.bl true) M
    | .bl false => gb δ M
    | _ => .unk
theorem g_and (ha : PE X a (tE X.K cl W ga)) (hb : PE X (.BoolOp .And (b :: rest) pos) (tE X.K cl W gb)) : PE X (.BoolOp .And (a :: b :: rest) pos) (tE X.K cl W (gAnd ga gb)) :=
  (pe_and ha hb).weak fun σ H Q ⟨δ, f, M, at_, h⟩ => tE_step at_ h fun v H1 f1 M1 d _ x a1 rv h => by
    split at h
    · have := rv.bl; subst this
      exact ⟨_, rfl, iteT ⟨δ, f1, M1, a1, h⟩⟩
    · have := rv.bl; subst this
      exact ⟨_, rfl, iteF (h.same a1.r rep_bl)⟩
    · exact h.elim
theorem g_or (ha : PE X a (tE X.K cl W ga)) (hb : PE X (.BoolOp .Or (b :: rest) pos) (tE X.K cl W gb)) : PE X (.BoolOp .Or (a :: b :: rest) pos) (tE X.K cl W (gOr ga gb)) :=
  (pe_or ha hb).weak fun σ H Q ⟨δ, f, M, at_, h⟩ => tE_step at_ h fun v H1 f1 M1 d _ x a1 rv h => by
    split at h
    · have := rv.bl; subst this
      exact ⟨_, rfl, iteT (h.same a1.r rep_bl)⟩
    · have := rv.bl; subst this
      exact ⟨_, rfl, iteF ⟨δ, f1, M1, a1, h⟩⟩
    · exact h.elim
theorem w_and (ha : PT X a (tT X.K cl W fun δ M => (ga δ M).bind thT)) (hb : PW X (.BoolOp .And (b :: rest) pos) (tT X.K cl W fun δ M => (gb δ M).bind thT)) : PW X (.BoolOp .And (a :: b :: rest) pos) (tT X.K cl W fun δ M => (gAnd ga gb δ M).bind thT) :=
  (pw_and ha hb).weak fun σ H Q ⟨δ, f, M, at_, h⟩ => by
    refine ⟨δ, f, M, at_, ?_⟩
    show PostE X.K cl W rpB σ ((ga δ M).bind thT) H f M _
    have h : PostE X.K cl W rpB σ ((gAnd ga gb δ M).bind thT) H f M Q := h
    unfold gAnd at h
    rw [bind_assoc] at h
    cases q : ga δ M with
    | ok d M1 =>
      rw [q] at h
      cases d with
      | bl k =>
        intro v H' f' x r e
        have e : v = k := e
        subst e
        cases v with
        | true =>
          have h : PostE X.K cl W rpB σ ((gb δ M1).bind thT) H f M Q := h
          exact iteT ⟨δ, f', M1, at_.mv x r, h.mono x r⟩
        | false =>
          have h : PostE X.K cl W rpB σ (.ok false M1) H f M Q := h
          exact iteF (h false H' f' x r rfl)
      | _ => exact h.elim
    | exc e M1 => rw [q] at h; exact h
    | unk => rw [q] at h; exact h.elim
theorem w_or (ha : PT X a (tT X.K cl W fun δ M => (ga δ M).bind thT)) (hb : PW X (.BoolOp .Or (b :: rest) pos) (tT X.K cl W fun δ M => (gb δ M).bind thT)) : PW X (.BoolOp .Or (a :: b :: rest) pos) (tT X.K cl W fun δ M => (gOr ga gb δ M).bind thT) :=
  (pw_or ha hb).weak fun σ H Q ⟨δ, f, M, at_, h⟩ => by
    refine ⟨δ, f, M, at_, ?_⟩
    show PostE X.K cl W rpB σ ((ga δ M).bind thT) H f M _
    have h : PostE X.K cl W rpB σ ((gOr ga gb δ M).bind thT) H f M Q := h
    unfold gOr at h
    rw [bind_assoc] at h
    cases q : ga δ M with
    | ok d M1 =>
      rw [q] at h
      cases d with
      | bl k =>
        intro v H' f' x r e
        have e : v = k := e
        subst e
        cases v with
        | true =>
          have h : PostE X.K cl W rpB σ (.ok true M1) H f M Q := h
          exact iteT (h true H' f' x r rfl)
        | false =>
          have h : PostE X.K cl W rpB σ ((gb δ M1).bind thT) H f M Q := h
          exact iteF ⟨δ, f', M1, at_.mv x r, h.mono x r⟩
      | _ => exact h.elim
    | exc e M1 => rw [q] at h; exact h
    | unk => rw [q] at h; exact h.elim
end
theorem okName_db {x : Str} (h : okName x = true) : (x == ("__debug__" : Str)) = false ∧ (x == ("__classdict__" : Str)) = false := by
  unfold okName at h
  simp only [Bool.and_eq_true, Bool.not_eq_true'] at h
  exact ⟨h.1.1, h.1.2⟩
theorem blk_kind {N : List Str} {sc scope : Scope} {own : List (Str × Nat)} (h : blkC N sc scope own = true) : scope.kind = .function := (blkOk_by h).kind

variable {N : List Str} {cl : Cls0}
theorem lc_parts {X : Cx} {W : WX} {sc : Scope} {bs : Option Scope} {wi : Bool} (cx : Ctx X cl W N sc bs wi) {own : List (Str × Nat)} {tg : Tg} {tge ite r : Expr} {ifs : List Expr} {scope : Scope} {p : Pos} {gI : Ev → MH → RE (List D × Gd)} {gc : Ev → MH → RE Bool} {ge : Ev → MH → RE D}
    (hb : blkC N sc scope own = true) (htg : chkTg N (relS scope sc) (some scope) tg tge = true) (hpl : plE ite = true) (hi : PI X tge ite (tI X.K cl W gI))
    (hc : ∀ {Y : Cx}, Ctx Y cl (fun _ _ _ _ => False) N (relS scope sc) (some scope) true → Y.K = X.K → (∀ s, SC.Ok X cl s → SC.Ok Y cl s) → PTs Y ifs (tT X.K cl (fun _ _ _ _ => False) gc))
    (he : ∀ {Y : Cx}, Ctx Y cl (fun _ _ _ _ => False) N (relS scope sc) (some scope) true → Y.K = X.K → (∀ s, SC.Ok X cl s → SC.Ok Y cl s) → PE Y r (tE X.K cl (fun _ _ _ _ => False) ge)) :
    PE X (.ListComp r [⟨tge, ite, ifs, 0⟩] scope p) (tLc (tI X.K cl W gI) (tG X.K cl tg) (tT X.K cl (fun _ _ _ _ => False) gc) (tE X.K cl (fun _ _ _ _ => False) ge) (own.map (·.2))) := by
  have bk : BlkOk X.N X.env.scope scope own := by rw [cx.eN, cx.eS]; exact blkOk_by hb
  have hk := blk_kind hb
  have ok : ∀ (s : Shared) (H : Hp) (C : Addr) (cells : List (Str × Addr)) (fp : List Addr), ∀ c, SC.Ok X cl c → SC.Ok (X.blk s H scope (compEnvC scope cells C X.env) fp) cl c := fun _ _ _ _ _ c h => by cases c <;> exact h
  exact pe_lc cx.calm cx.nd' hi bk (fun s H C cells fp => g_tg (cx.blk hk s H C cells fp) htg) (fun s H C cells fp => hc (cx.blk hk s H C cells fp) rfl (ok s H C cells fp)) (fun s H C cells fp => he (cx.blk hk s H C cells fp) rfl (ok s H C cells fp)) (fold_pl hpl)
theorem g_lc {X : Cx} {W : WX} {own : List (Str × Nat)} {tg : Tg} {gI : Ev → MH → RE (List D × Gd)} {gc : Ev → MH → RE Bool} {ge : Ev → MH → RE D} (hsl : ∀ i ∈ tg.slots, i ∈ own.map (·.2)) {e : Expr}
    (h : PE X e (tLc (tI X.K cl W gI) (tG X.K cl tg) (tT X.K cl (fun _ _ _ _ => False) gc) (tE X.K cl (fun _ _ _ _ => False) ge) (own.map (·.2)))) :
    PE X e (tE X.K cl W fun δ M => (gI δ M).bind fun p M => (lcLoop p.2 (lcTurn tg gc ge (wipeD δ (own.map (·.2)))) p.1 [] M).bind fun ds M => .ok (.loc M.length) (M ++ [.lst ds])) :=
  h.weak fun σ H Q ⟨δ, f, M, at_, q⟩ => lc_run hsl at_ q fun a Hb fb Mb H1 f1 M1 ds ws x1 a1 ha hH hout hR q => by
    have e := rep_loc (K := X.K) (H := H1) (f := setf f1 M1.length a) (n := (M1 ++ [MO.lst ds]).length) (i := M1.length) (by rw [List.length_append, List.length_singleton]; omega)
    rw [setf_same] at e
    exact q _ _ (setf f1 M1.length a) (x1.take_in ha) (a1.r.take_in hout ⟨ws, hH, hR⟩) e
theorem chkIt_pl {sc : Scope} {wi : Bool} {it : It} {e : Expr} (h : chkIt N sc wi it e = true) : plE e = true := by
  cases it with
  | seq a => unfold chkIt at h; exact chkE_pl h
  | _ => unfold chkIt at h; split at h <;> first | rfl | exact absurd h Bool.false_ne_true
end RF

/-! RFk: the soundness of expressions. -/
namespace RF
open PySem PySem.Spec PyProof.Rows L2
variable {N : List Str} {cl : Cls0}
theorem mem_l {α : Type} {P : α → Prop} {a b : List α} (h : ∀ x ∈ a ++ b, P x) : ∀ x ∈ a, P x := fun x hx => h x (List.mem_append_left _ hx)
theorem mem_r {α : Type} {P : α → Prop} {a b : List α} (h : ∀ x ∈ a ++ b, P x) : ∀ x ∈ b, P x := fun x hx => h x (List.mem_append_right _ hx)
theorem nil_chk {sc : Scope} {wi : Bool} {es : Es} {l : List Expr} (hn : es.isNil = false) (h : chkEs N sc wi es l = true) : ∃ a t, l = a :: t := by
  cases es with
  | nil => cases hn
  | cons e r =>
    unfold chkEs at h
    split at h
    · exact ⟨_, _, rfl⟩
    · exact absurd h Bool.false_ne_true
mutual
theorem sndE : ∀ (m : E) {X : Cx} {W : WX} {sc : Scope} {bs : Option Scope} {wi : Bool} (cx : Ctx X cl W N sc bs wi) (e : Expr), (∀ s ∈ scE m, SC.Ok X cl s) → chkE N sc wi m e = true → SnE X cl W m e
  | .loc i, X, W, sc, bs, wi, cx, e, hs, h => by
    unfold chkE at h
    split at h
    · simp only [Bool.and_eq_true, decide_eq_true_eq] at h
      obtain ⟨⟨h1, h2⟩, h3⟩ := h
      obtain ⟨d1, d2⟩ := okName_db h3
      exact .any (g_loc (by rw [cx.eN]; exact h1) (cx.vis h2) d1 d2) fun _ => rfl
    · exact absurd h Bool.false_ne_true
  | .int i, X, W, sc, bs, wi, cx, e, hs, h => by
    unfold chkE at h
    split at h
    · have := of_decide_eq_true h
      subst this
      exact .any (g_c pe_int fun _ _ _ => rep_int) fun _ => rfl
    · exact absurd h Bool.false_ne_true
  | .bl i, X, W, sc, bs, wi, cx, e, hs, h => by
    unfold chkE at h
    split at h
    · have := of_decide_eq_true h
      subst this
      exact .any (g_c pe_bl fun _ _ _ => rep_bl) fun _ => rfl
    · exact absurd h Bool.false_ne_true
  | .non, X, W, sc, bs, wi, cx, e, hs, h => by
    unfold chkE at h
    split at h
    · exact .any (g_c pe_non fun _ _ _ => rep_non) fun _ => rfl
    · exact absurd h Bool.false_ne_true
  | .str i, X, W, sc, bs, wi, cx, e, hs, h => by
    unfold chkE at h
    split at h
    · have := of_decide_eq_true h
      subst this
      exact .any (g_c pe_str fun _ _ _ => rep_str) fun _ => rfl
    · exact absurd h Bool.false_ne_true
  | .glob y d, X, W, sc, bs, wi, cx, e, hs, h => by
    unfold chkE at h
    split at h
    · simp only [Bool.and_eq_true, decide_eq_true_eq] at h
      obtain ⟨rfl, h2⟩ := h
      obtain ⟨u, v, h3, h4, h5⟩ := hs _ List.mem_cons_self
      obtain ⟨g1, g2, _⟩ := cx.gl h2
      exact .any (g_c (pe_glob g1 h3 h4 g2) h5) fun _ => rfl
    · exact absurd h Bool.false_ne_true
  | .tup es, X, W, sc, bs, wi, cx, e, hs, h => by
    unfold chkE at h
    split at h
    · exact .any (g_tup (sndEs es cx _ hs h).pa) fun _ => rfl
    · exact absurd h Bool.false_ne_true
  | .lst es, X, W, sc, bs, wi, cx, e, hs, h => by
    unfold chkE at h
    split at h
    · exact .any (g_lst (sndEs es cx _ hs h).pa) fun _ => rfl
    · exact absurd h Bool.false_ne_true
  | .bin op a b, X, W, sc, bs, wi, cx, e, hs, h => by
    unfold chkE at h
    split at h
    · simp only [Bool.and_eq_true, decide_eq_true_eq] at h
      obtain ⟨rfl, h1, h2⟩ := h
      exact .any (g_op (op_bin _) (sndE a cx _ (mem_l hs) h1).pe (sndE b cx _ (mem_r hs) h2).pe) fun _ => rfl
    · exact absurd h Bool.false_ne_true
  | .neg a, X, W, sc, bs, wi, cx, e, hs, h => by
    unfold chkE at h
    split at h
    · exact .any (g_neg (sndE a cx _ hs h).pe) fun _ => rfl
    · exact absurd h Bool.false_ne_true
  | .cmp op a b, X, W, sc, bs, wi, cx, e, hs, h => by
    unfold chkE at h
    split at h
    · simp only [Bool.and_eq_true, decide_eq_true_eq] at h
      obtain ⟨rfl, h1, h2⟩ := h
      have pa := (sndE a cx _ (mem_l hs) h1).pe
      have pb := (sndE b cx _ (mem_r hs) h2).pe
      have bh := fun op => behind_pl (op := op) (chkE_pl h2)
      exact ⟨g_cmp cx.hu (bh _) pa pb, fun _ => t_cmp cx.hu (bh _) pa pb⟩
    · exact absurd h Bool.false_ne_true
  | .cmp2 op op' a b c, X, W, sc, bs, wi, cx, e, hs, h => by
    unfold chkE at h
    split at h
    · simp only [Bool.and_eq_true, decide_eq_true_eq] at h
      obtain ⟨⟨rfl, rfl⟩, h1, h2, h3⟩ := h
      have pa := (sndE a cx _ (mem_l hs) h1).pe
      have pb := (sndE b cx _ (mem_l (mem_r hs)) h2).pe
      have pc := (sndE c cx _ (mem_r (mem_r hs)) h3).pe
      have bh := fun op => behind_pl (op := op) (chkE_pl h3)
      exact ⟨g_cmp2 cx.hu (bh _) pa pb pc, fun _ => t_cmp2 cx.hu (bh _) pa pb pc⟩
    · exact absurd h Bool.false_ne_true
  | .and es, X, W, sc, bs, wi, cx, e, hs, h => by
    unfold chkE at h
    split at h
    · simp only [Bool.and_eq_true, Bool.not_eq_true'] at h
      obtain ⟨⟨h1, h2⟩, h3⟩ := h
      have q := (sndEs es cx _ hs h3).an h1 h2
      exact ⟨(q _).1, fun _ => (q _).2.pt⟩
    · exact absurd h Bool.false_ne_true
  | .or es, X, W, sc, bs, wi, cx, e, hs, h => by
    unfold chkE at h
    split at h
    · simp only [Bool.and_eq_true, Bool.not_eq_true'] at h
      obtain ⟨⟨h1, h2⟩, h3⟩ := h
      have q := (sndEs es cx _ hs h3).or h1 h2
      exact ⟨(q _).1, fun _ => (q _).2.pt⟩
    · exact absurd h Bool.false_ne_true
  | .not a, X, W, sc, bs, wi, cx, e, hs, h => by
    unfold chkE at h
    split at h
    · simp only [Bool.and_eq_true, Bool.not_eq_true'] at h
      obtain ⟨h1, h2⟩ := h
      have q := sndE a cx _ hs h2
      exact ⟨g_not q.pe, fun _ => t_not (q.pt h1)⟩
    · exact absurd h Bool.false_ne_true
  | .ife c a b, X, W, sc, bs, wi, cx, e, hs, h => by
    unfold chkE at h
    split at h
    · simp only [Bool.and_eq_true, Bool.not_eq_true'] at h
      obtain ⟨h1, h2, h3, h4⟩ := h
      have q := sndE c cx _ (mem_l hs) h2
      exact ⟨g_ife (q.pt h1) (sndE a cx _ (mem_l (mem_r hs)) h3).pe (sndE b cx _ (mem_r (mem_r hs)) h4).pe, fun z => nomatch z⟩
    · exact absurd h Bool.false_ne_true
  | .idx a i, X, W, sc, bs, wi, cx, e, hs, h => by
    unfold chkE at h
    split at h
    · simp only [Bool.and_eq_true] at h
      exact .any (g_idx (sub_pl (chkE_pl h.2)) (sndE a cx _ (mem_l hs) h.1).pe (sndE i cx _ (mem_r hs) h.2).pe) fun _ => rfl
    · exact absurd h Bool.false_ne_true
  | .slc a lo hi, X, W, sc, bs, wi, cx, e, hs, h => by
    unfold chkE at h
    split at h
    · simp only [Bool.and_eq_true] at h
      exact .any (g_slc (sndE a cx _ (mem_l hs) h.1).pe ((sndEo lo cx (mem_l (mem_r hs))).1 _ h.2.1) ((sndEo hi cx (mem_r (mem_r hs))).1 _ h.2.2)) fun _ => rfl
    · exact absurd h Bool.false_ne_true
  | .fld o C f, X, W, sc, bs, wi, cx, e, hs, h => by
    unfold chkE at h
    split at h
    · simp only [Bool.and_eq_true, decide_eq_true_eq] at h
      obtain ⟨rfl, h1, h2⟩ := h
      obtain ⟨k1, k2⟩ := hs _ List.mem_cons_self
      exact .any (g_fld k1 k2 (attrBase h1) (sndE o cx _ (fun s q => hs s (List.mem_cons_of_mem _ q)) h2).pe) fun _ => rfl
    · exact absurd h Bool.false_ne_true
  | .call y F es, X, W, sc, bs, wi, cx, e, hs, h => by
    unfold chkE at h
    split at h
    · simp only [Bool.and_eq_true, decide_eq_true_eq, Bool.not_eq_true'] at h
      obtain ⟨⟨⟨rfl, h1⟩, h2⟩, h3⟩ := h
      obtain ⟨a, t, rfl⟩ := nil_chk h2 h3
      have pl := chkEs_pl h3
      obtain ⟨g1, g2, _⟩ := cx.gl h1
      have q := sndEs es cx _ (fun s q => hs s (List.mem_cons_of_mem _ q)) h3
      exact .any (g_call cx.tk (hs _ List.mem_cons_self) g1 g2 (star_pl (pl a List.mem_cons_self)) (plain_star fun x hx => pl x (List.mem_cons_of_mem _ hx)) (fun _ _ _ _ e => evEs_len e) q.pa) fun _ => rfl
    · exact absurd h Bool.false_ne_true
  | .meth o C m F es, X, W, sc, bs, wi, cx, e, hs, h => by
    unfold chkE at h
    split at h
    · rename_i l g ap r cp
      simp only [Bool.and_eq_true, decide_eq_true_eq] at h
      obtain ⟨⟨⟨⟨⟨rfl, h1⟩, h2⟩, h3⟩, h4⟩, h5, h6⟩ := h
      have pl := chkEs_pl h6
      have qo := (sndE o cx _ (fun s q => hs s (List.mem_cons_of_mem _ (List.mem_append_left _ q))) h5).pe
      have qa := (sndEs es cx _ (fun s q => hs s (List.mem_cons_of_mem _ (List.mem_append_right _ q))) h6).pa
      have ln := chkEs_len h6
      have ev : eval (.Call (.Attribute l g ap) r [] cp) X.env = _ := meth_eval h4 (plain_all pl) (by omega) h2
      have ok : SC.Ok X cl (.meth C g es.len F) := hs _ List.mem_cons_self
      cases es with
      | nil =>
        have e : r = [] := List.length_eq_zero_iff.mp ln
        subst e
        exact .any (g_meth0 cx.tk (cx.wi h1) ok ev qo) fun _ => rfl
      | cons e0 es =>
        obtain ⟨a, t, rfl⟩ := nil_chk (es := .cons e0 es) rfl h6
        exact .any (g_meth cx.tk (cx.wi h1) ok (star_pl (pl a List.mem_cons_self)) (plain_star fun x hx => pl x (List.mem_cons_of_mem _ hx)) (fun _ _ _ _ e => evEs_len e) ev qo qa) fun _ => rfl
    · exact absurd h Bool.false_ne_true
  | .mk y F es, X, W, sc, bs, wi, cx, e, hs, h => by
    unfold chkE at h
    split at h
    · rename_i x p l cp
      simp only [Bool.and_eq_true, decide_eq_true_eq] at h
      obtain ⟨⟨⟨rfl, h1⟩, h2⟩, h3⟩ := h
      have pl := chkEs_pl h3
      obtain ⟨g1, g2, _⟩ := cx.gl h2
      have qa := (sndEs es cx _ (fun s q => hs s (List.mem_cons_of_mem _ q)) h3).pa
      have ln := chkEs_len h3
      have ok : SC.Ok X cl (.mk x es.len F) := hs _ List.mem_cons_self
      cases es with
      | nil =>
        have e : l = [] := List.length_eq_zero_iff.mp ln
        subst e
        exact .any (g_mk0 cx.tk (cx.wi h1) ok g1 g2) fun _ => rfl
      | cons e0 es =>
        obtain ⟨a, t, rfl⟩ := nil_chk (es := .cons e0 es) rfl h3
        exact .any (g_mk cx.tk (cx.wi h1) ok g1 g2 (star_pl (pl a List.mem_cons_self)) (plain_star fun x hx => pl x (List.mem_cons_of_mem _ hx)) (fun _ _ _ _ e => evEs_len e) qa) fun _ => rfl
    · exact absurd h Bool.false_ne_true
  | .bi b es, X, W, sc, bs, wi, cx, e, hs, h => by
    unfold chkE at h
    split at h
    · simp only [Bool.and_eq_true, decide_eq_true_eq, Bool.not_eq_true'] at h
      obtain ⟨⟨⟨rfl, h1⟩, h2⟩, h3⟩ := h
      obtain ⟨a, t, rfl⟩ := nil_chk h2 h3
      have pl := chkEs_pl h3
      obtain ⟨g1, g2, g3⟩ := cx.gl h1
      have q := sndEs es cx _ (mem_r hs) h3
      exact .any (g_biD cx.calm cx.bn (mem_l hs) g1 g2 g3 (star_pl (pl a List.mem_cons_self)) (plain_star fun x hx => pl x (List.mem_cons_of_mem _ hx)) q.pa) fun _ => rfl
    · exact absurd h Bool.false_ne_true
  | .isI T a, X, W, sc, bs, wi, cx, e, hs, h => by
    unfold chkE at h
    split at h
    · simp only [Bool.and_eq_true, decide_eq_true_eq] at h
      obtain ⟨⟨⟨⟨⟨rfl, h1⟩, rfl⟩, h2⟩, h3⟩, h4⟩ := h
      obtain ⟨g1, _, _⟩ := cx.gl h1
      obtain ⟨t1, t2, t3⟩ := cx.gl h2
      exact .any (g_isI h3 cx.bn g1 t1 t2 t3 (star_pl (chkE_pl h4)) (sndE a cx _ hs h4).pe) fun _ => rfl
    · exact absurd h Bool.false_ne_true
  | .get y k kvs, X, W, sc, bs, wi, cx, e, hs, h => by
    unfold chkE at h
    split at h
    · simp only [Bool.and_eq_true, decide_eq_true_eq] at h
      obtain ⟨⟨⟨⟨rfl, h2⟩, rfl⟩, h4⟩, h5⟩ := h
      obtain ⟨a, h3, h6⟩ := hs _ List.mem_cons_self
      obtain ⟨g1, g2, _⟩ := cx.gl h2
      exact .any (g_get g1 g2 h3 h6 h4 (star_pl (chkE_pl h5)) (sndE k cx _ (fun s q => hs s (List.mem_cons_of_mem _ q)) h5).pe) fun _ => rfl
    · exact absurd h Bool.false_ne_true
  | .app o a, X, W, sc, bs, wi, cx, e, hs, h => by
    unfold chkE at h
    split at h
    · simp only [Bool.and_eq_true, decide_eq_true_eq] at h
      obtain ⟨⟨⟨rfl, h1⟩, h2⟩, h3, h4⟩ := h
      exact .any (g_app (attrBase h2) h1 (star_pl (chkE_pl h4)) (sndE o cx _ (mem_l hs) h3).pe (sndE a cx _ (mem_r hs) h4).pe) fun _ => rfl
    · exact absurd h Bool.false_ne_true
  | .lc own tg it c a, X, W, sc, bs, wi, cx, e, hs, h => by
    unfold chkE at h
    split at h
    · rename_i r tge ite ifs scope p
      simp only [Bool.and_eq_true, List.all_eq_true, decide_eq_true_eq] at h
      obtain ⟨⟨⟨⟨⟨⟨h1, h2⟩, h3⟩, h4⟩, h5⟩, h6⟩, h7⟩ := h
      refine .any (g_lc h3 (lc_parts cx h1 h2 (chkIt_pl h4) (sndIt it cx tge ite (mem_l hs) h4 (by cases it <;> first | trivial | exact h5)) (fun {Y} cy hK ok => ?_) (fun {Y} cy hK ok => ?_))) fun _ => rfl
      · have q := (sndEo c cy fun s q => ok s (mem_l (mem_r hs) s q)).2 _ h6
        rw [hK] at q
        exact q
      · have q := (sndE a cy _ (fun s q => ok s (mem_r (mem_r hs) s q)) h7).pe
        rw [hK] at q
        exact q
    · exact absurd h Bool.false_ne_true
  | .blc b own tg it c a, X, W, sc, bs, wi, cx, e, hs, h => by
    unfold chkE at h
    split at h
    · rename_i x xp r tge ite ifs scope p cp
      simp only [Bool.and_eq_true, List.all_eq_true, decide_eq_true_eq] at h
      obtain ⟨⟨⟨⟨⟨⟨⟨⟨rfl, h0⟩, h1⟩, h2⟩, h3⟩, h4⟩, h5⟩, h6⟩, h7⟩ := h
      obtain ⟨g1, g2, g3⟩ := cx.gl h0
      have lp := lc_parts (p := p) cx h1 h2 (chkIt_pl h4) (sndIt it cx tge ite (mem_l (mem_r hs)) h4 (by cases it <;> first | trivial | exact h5)) (r := r) (gc := evC c) (ge := evE a) (ifs := ifs) (fun {Y} cy hK ok => by
        have q := (sndEo c cy fun s q => ok s (mem_l (mem_r (mem_r hs)) s q)).2 _ h6
        rw [hK] at q
        exact q) (fun {Y} cy hK ok => by
        have q := (sndE a cy _ (fun s q => ok s (mem_r (mem_r (mem_r hs)) s q)) h7).pe
        rw [hK] at q
        exact q)
      refine .any ((g_bi (l := []) cx.calm cx.bn (mem_l hs) g1 g2 g3 rfl rfl (pa_cons lp pa_nil rfl) (call_biL (cl := cl) (W := W) cx.calm b)).weak fun σ H Q ⟨δ, f, M, at_, q⟩ => ?_) fun _ => rfl
      exact lc_run (R := fun x H1 => rBiL X.K cl W b [x] H1 Q) h3 at_ q fun a Hb fb Mb H1 f1 M1 ds ws x1 a1 ha hH hout hR q => ⟨a, ws, ds, f1, M1, σ, rfl, SqL.of hH, a1.r, hR, q.mono x1 a1.r⟩
    · exact absurd h Bool.false_ne_true
theorem sndEs : ∀ (m : Es) {X : Cx} {W : WX} {sc : Scope} {bs : Option Scope} {wi : Bool} (cx : Ctx X cl W N sc bs wi) (l : List Expr), (∀ s ∈ scEs m, SC.Ok X cl s) → chkEs N sc wi m l = true → SnEs X cl W m l
  | .nil, X, W, sc, bs, wi, cx, l, hs, h => by
    unfold chkEs at h
    split at h
    · exact ⟨a_nil, (fun z => nomatch z), (fun z => nomatch z)⟩
    · exact absurd h Bool.false_ne_true
  | .cons a .nil, X, W, sc, bs, wi, cx, l, hs, h => by
    unfold chkEs at h
    split at h
    · rename_i e t
      rw [Bool.and_eq_true] at h
      have q := sndE a cx e (mem_l hs) h.1
      have r := sndEs .nil cx t (mem_r hs) h.2
      have et : t = [] := List.length_eq_zero_iff.mp (chkEs_len h.2)
      subst et
      have hi : Es.noIf (.cons a .nil) = true → isIf a = false := fun z => by
        have z : (!isIf a && true) = true := z
        simpa using z
      refine ⟨a_cons (star_pl (chkE_pl h.1)) q.pe r.pa, fun _ z pos => ⟨pe_one q.pe, pw_and1 (q.pt (hi z))⟩, fun _ z pos => ⟨pe_one q.pe, pw_or1 (q.pt (hi z))⟩⟩
    · exact absurd h Bool.false_ne_true
  | .cons a (.cons b rr), X, W, sc, bs, wi, cx, l, hs, h => by
    unfold chkEs at h
    split at h
    · rename_i e t
      rw [Bool.and_eq_true] at h
      have q := sndE a cx e (mem_l hs) h.1
      have r := sndEs (.cons b rr) cx t (mem_r hs) h.2
      obtain ⟨e2, t2, rfl⟩ := nil_chk (es := .cons b rr) rfl h.2
      have hi : Es.noIf (.cons a (.cons b rr)) = true → isIf a = false ∧ Es.noIf (.cons b rr) = true := fun z => by
        have z : (!isIf a && Es.noIf (.cons b rr)) = true := z
        rw [Bool.and_eq_true, Bool.not_eq_true'] at z
        exact z
      refine ⟨a_cons (star_pl (chkE_pl h.1)) q.pe r.pa, fun _ z pos => ?_, fun _ z pos => ?_⟩
      · have r2 := r.an rfl (hi z).2 pos
        exact ⟨g_and q.pe r2.1, w_and (q.pt (hi z).1) r2.2⟩
      · have r2 := r.or rfl (hi z).2 pos
        exact ⟨g_or q.pe r2.1, w_or (q.pt (hi z).1) r2.2⟩
    · exact absurd h Bool.false_ne_true
theorem sndEo : ∀ (m : Eo) {X : Cx} {W : WX} {sc : Scope} {bs : Option Scope} {wi : Bool} (cx : Ctx X cl W N sc bs wi), (∀ s ∈ scEo m, SC.Ok X cl s) →
    (∀ o, chkEo N sc wi m o = true → PO X o (tO X.K cl W (evEo m))) ∧ (∀ l, chkC N sc wi m l = true → PTs X l (tT X.K cl W (evC m)))
  | .none, X, W, sc, bs, wi, cx, hs => ⟨fun o h => by
      unfold chkEo at h
      split at h
      · exact po_noneD
      · exact absurd h Bool.false_ne_true, fun l h => by
      unfold chkC at h
      split at h
      · exact pts_nil.weak fun σ H Q ⟨δ, f, M, at_, h⟩ => h _ _ _ (Ext.refl _ _ _) at_.r rfl
      · exact absurd h Bool.false_ne_true⟩
  | .some a, X, W, sc, bs, wi, cx, hs => ⟨fun o h => by
      unfold chkEo at h
      split at h
      · exact po_someD (sndE a cx _ hs h).pe
      · exact absurd h Bool.false_ne_true, fun l h => by
      unfold chkC at h
      split at h
      · rw [Bool.and_eq_true, Bool.not_eq_true'] at h
        exact pts_one ((sndE a cx _ hs h.2).pt h.1)
      · exact absurd h Bool.false_ne_true⟩
theorem sndIt : ∀ (m : It) {X : Cx} {W : WX} {sc : Scope} {bs : Option Scope} {wi : Bool} (cx : Ctx X cl W N sc bs wi) (tg e : Expr), (∀ s ∈ scIt m, SC.Ok X cl s) → chkIt N sc wi m e = true → (match m with | .enum _ => isTup tg = true | .zip _ _ => isTup tg = true | _ => True) → PI X tg e (tI X.K cl W (evIt m))
  | .seq a, X, W, sc, bs, wi, cx, tg, e, hs, h, ht => i_seq (sndE a cx e hs h).pe
  | .rng1 a, X, W, sc, bs, wi, cx, tg, e, hs, h, ht => by
    unfold chkIt at h
    split at h
    · simp only [Bool.and_eq_true, decide_eq_true_eq] at h
      obtain ⟨⟨rfl, h1⟩, h2⟩ := h
      exact i_rng1 cx.bn (cx.gl h1).1 (star_pl (chkE_pl h2)) (sndE a cx _ hs h2).pe
    · exact absurd h Bool.false_ne_true
  | .rng2 a b, X, W, sc, bs, wi, cx, tg, e, hs, h, ht => by
    unfold chkIt at h
    split at h
    · simp only [Bool.and_eq_true, decide_eq_true_eq] at h
      obtain ⟨⟨rfl, h1⟩, h2, h3⟩ := h
      exact i_rng2 cx.bn (cx.gl h1).1 (star_pl (chkE_pl h2)) (star_pl (chkE_pl h3)) (sndE a cx _ (mem_l hs) h2).pe (sndE b cx _ (mem_r hs) h3).pe
    · exact absurd h Bool.false_ne_true
  | .rng3 a b c, X, W, sc, bs, wi, cx, tg, e, hs, h, ht => by
    unfold chkIt at h
    split at h
    · simp only [Bool.and_eq_true, decide_eq_true_eq] at h
      obtain ⟨⟨rfl, h1⟩, h2, h3, h4⟩ := h
      exact i_rng3 cx.bn (cx.gl h1).1 (star_pl (chkE_pl h2)) (star_pl (chkE_pl h3)) (star_pl (chkE_pl h4)) (sndE a cx _ (mem_l hs) h2).pe (sndE b cx _ (mem_l (mem_r hs)) h3).pe (sndE c cx _ (mem_r (mem_r hs)) h4).pe
    · exact absurd h Bool.false_ne_true
  | .enum a, X, W, sc, bs, wi, cx, tg, e, hs, h, ht => by
    unfold chkIt at h
    split at h
    · simp only [Bool.and_eq_true, decide_eq_true_eq] at h
      obtain ⟨⟨rfl, h1⟩, h2⟩ := h
      cases tg <;> first | exact absurd ht Bool.false_ne_true | skip
      exact i_enum cx.bn (cx.gl h1).1 (star_pl (chkE_pl h2)) (sndE a cx _ hs h2).pe
    · exact absurd h Bool.false_ne_true
  | .zip a b, X, W, sc, bs, wi, cx, tg, e, hs, h, ht => by
    unfold chkIt at h
    split at h
    · simp only [Bool.and_eq_true, decide_eq_true_eq] at h
      obtain ⟨⟨rfl, h1⟩, h2, h3⟩ := h
      cases tg <;> first | exact absurd ht Bool.false_ne_true | skip
      exact i_zip cx.bn (cx.gl h1).1 (star_pl (chkE_pl h2)) (star_pl (chkE_pl h3)) (plain_star fun x hx => by
        rw [List.mem_singleton] at hx
        rw [hx]
        exact chkE_pl h3) (sndE a cx _ (mem_l hs) h2).pe (sndE b cx _ (mem_r hs) h3).pe
    · exact absurd h Bool.false_ne_true
end
end RF

/-! RFl: statements: their meaning, the check, the soundness. -/
namespace RF
open PySem PySem.Spec PyProof.Rows L2
open Classical in
noncomputable def forLoop (g : Gd) (tg : Tg) (body : Ev → MH → Fl) : List D → Ev → MH → Fl
  | [], δ, M => if gdOk M g then .nx δ M else .unk
  | d :: ds, δ, M => if gdOk M g then (match bindTg tg d δ with
      | some δ' => match body δ' M with
        | .nx δ M => forLoop g tg body ds δ M
        | .ct δ M => forLoop g tg body ds δ M
        | .bk δ M => .nx δ M
        | .rt d M => .rt d M
        | .exc x δ M => .exc x δ M
        | .unk => .unk
      | none => .unk) else .unk
def whLoop (c : Ev → MH → RE Bool) (body : Ev → MH → Fl) : Nat → Ev → MH → Fl
  | 0, _, _ => .unk
  | n + 1, δ, M => (c δ M).fl δ fun k M => if k = true then (match body δ M with
      | .nx δ M => whLoop c body n δ M
      | .ct δ M => whLoop c body n δ M
      | .bk δ M => .nx δ M
      | .rt d M => .rt d M
      | .exc x δ M => .exc x δ M
      | .unk => .unk) else .nx δ M
def augD (op : Operator) (a b : D) (M : MH) : RE D :=
  match op, a, b with
  | .Add, .int i, .int j => .ok (.int (i + j)) M
  | .Sub, .int i, .int j => .ok (.int (i - j)) M
  | _, _, _ => .unk
mutual
noncomputable def exS (n : Nat) : S → Ev → MH → Fl
  | .set i e, δ, M => (evE e δ M).fl δ fun d M => .nx (δ.set i (some d)) M
  | .par i j a b, δ, M => (evE a δ M).fl δ fun x M => (evE b δ M).fl δ fun y M => .nx ((δ.set i (some x)).set j (some y)) M
  | .unp is e, δ, M => (evE e δ M).fl δ fun d M => match bindTg (.tup is) d δ with
    | some δ' => .nx δ' M
    | none => .unk
  | .sub a i e, δ, M => (evE e δ M).fl δ fun v M => (evE a δ M).fl δ fun x M => (evE i δ M).fl δ fun y M => (setIdxD x y v M).fl δ fun _ M => .nx δ M
  | .fld o C f e, δ, M => (evE e δ M).fl δ fun v M => (evE o δ M).fl δ fun x M => (setFldD x C f v M).fl δ fun _ M => .nx δ M
  | .aug i op e, δ, M => match δ[i]? with
    | some (some x) => (evE e δ M).fl δ fun y M => (augD op x y M).fl δ fun z M => .nx (δ.set i (some z)) M
    | _ => .unk
  | .ex e, δ, M => (evE e δ M).fl δ fun _ M => .nx δ M
  | .ret e, δ, M => (evE e δ M).fl δ fun d M => .rt d M
  | .retN, _, M => .rt .non M
  | .ite c a b, δ, M => (evT c δ M).fl δ fun k M => if k = true then exSs n a δ M else exSs n b δ M
  | .for tg it b, δ, M => (evIt it δ M).fl δ fun p M => forLoop p.2 tg (exSs n b) p.1 δ M
  | .whl c b, δ, M => whLoop (evT c) (exSs n b) n δ M
  | .brk, δ, M => .bk δ M
  | .cnt, δ, M => .ct δ M
  | .pass, δ, M => .nx δ M
  | .wall, _, _ => .unk
noncomputable def exSs (n : Nat) : Ss → Ev → MH → Fl
  | .nil, δ, M => .nx δ M
  | .cons s r, δ, M => (exS n s δ M).then fun δ M => exSs n r δ M
end
mutual
def scS : S → List SC
  | .set _ e => scE e
  | .par _ _ a b => scE a ++ scE b
  | .unp _ e => scE e
  | .sub a i e => scE e ++ (scE a ++ scE i)
  | .fld o C f e => .fld C f :: (scE e ++ scE o)
  | .aug _ _ e => scE e
  | .ex e => scE e
  | .ret e => scE e
  | .retN => []
  | .ite c a b => scE c ++ (scSs a ++ scSs b)
  | .for _ it b => scIt it ++ scSs b
  | .whl c b => scE c ++ scSs b
  | .brk => []
  | .cnt => []
  | .pass => []
  | .wall => []
def scSs : Ss → List SC
  | .nil => []
  | .cons s r => scS s ++ scSs r
end
def isLc : E → Bool
  | .lc _ _ _ _ _ => true
  | _ => false
def noLc : Expr → Bool
  | .ListComp _ _ _ _ => false
  | .SetComp _ _ _ _ => false
  | .DictComp _ _ _ _ _ => false
  | _ => true
def noTup : Expr → Bool
  | .Tuple _ _ _ => false
  | _ => true
/-- a comprehension stored at a name: the name local, on one line, not the comprehension's own -/
def lcStore (sc : Scope) (x : Str) (px : Pos) (e : Expr) : Bool := match e with
  | .ListComp _ _ scope pos => kd sc x .local && (px.line == pos.line) && !(scope.names.any fun (n, k) => n == x && (k == .local || k == .cell))
  | _ => false
mutual
def chkS (N : List Str) (sc : Scope) (bs : Option Scope) (wi : Bool) : S → Stmt → Bool
  | .set i a, s => match s with
    | .Assign [.Name x px] e _ => chkSt N sc bs i x && (noLc e || lcStore sc x px e) && chkE N sc wi a e
    | _ => false
  | .par _ _ _ _, _ => false
  | .unp is a, s => match s with
    | .Assign [.Tuple es _ _] e _ => chkStEs N sc bs is es && noTup e && chkE N sc wi a e
    | _ => false
  | .sub a i b, s => match s with
    | .Assign [.Subscript l r _] e _ => plE r && (chkE N sc wi b e && (chkE N sc wi a l && chkE N sc wi i r))
    | _ => false
  | .fld o _ f b, s => match s with
    | .Assign [.Attribute l g _] e _ => decide (g = f) && (chkE N sc wi b e && chkE N sc wi o l)
    | _ => false
  | .aug i op a, s => match s with
    | .AugAssign (.Name x _) o e _ => decide (o = op) && (decide (op = .Add) || decide (op = .Sub)) && chkSt N sc bs i x && chkE N sc wi a e
    | _ => false
  | .ex a, s => match s with
    | .Expr e _ => noLc e && chkE N sc wi a e
    | _ => false
  | .ret a, s => match s with
    | .Return (some e) _ => chkE N sc wi a e
    | _ => false
  | .retN, s => match s with
    | .Return none _ => true
    | _ => false
  | .ite c a b, s => match s with
    | .If t l r _ => !isIf c && (chkE N sc wi c t && (chkSs N sc bs wi a l && chkSs N sc bs wi b r))
    | _ => false
  | .for tg it b, s => match s with
    | .For tge ite l [] _ => chkTg N sc bs tg tge && chkIt N sc wi it ite && (match it with | .enum _ => isTup tge | .zip _ _ => isTup tge | _ => true) && chkSs N sc bs wi b l
    | _ => false
  | .whl c b, s => match s with
    | .While t l [] _ => !isIf c && (chkE N sc wi c t && chkSs N sc bs wi b l)
    | _ => false
  | .brk, s => match s with
    | .Break _ => true
    | _ => false
  | .cnt, s => match s with
    | .Continue _ => true
    | _ => false
  | .pass, s => match s with
    | .Pass _ => true
    | _ => false
  | .wall, _ => true
def chkSs (N : List Str) (sc : Scope) (bs : Option Scope) (wi : Bool) : Ss → List Stmt → Bool
  | .nil, l => match l with
    | [] => true
    | _ => false
  | .cons a r, l => match l with
    | s :: t => chkS N sc bs wi a s && chkSs N sc bs wi r t
    | _ => false
end

section
variable (K : PySem.W.Frag) (cl : Cls0) (W : WX)
def PostS (r : Fl) (H : Hp) (f : Nat → Addr) (M : MH) (D : Ends) : Prop :=
  match r with
  | .nx δ M' => ∀ σ H' f', Ext H f M H' f' M' → At K cl δ σ H' f' M' → D.nx σ H'
  | .bk δ M' => ∀ σ H' f', Ext H f M H' f' M' → At K cl δ σ H' f' M' → D.bk σ H'
  | .ct δ M' => ∀ σ H' f', Ext H f M H' f' M' → At K cl δ σ H' f' M' → D.ct σ H'
  | .rt d M' => ∀ v H' f', Ext H f M H' f' M' → Rl K cl H' f' M' → Rep K H' f' M'.length d v → D.rt v H'
  | .exc x δ M' => ∀ c dd σ H' f', Ext H f M H' f' M' → At K cl δ σ H' f' M' → ExcOk K cl H' f' M'.length x c dd → W c dd σ H'
  | .unk => False
def tS (g : Ev → MH → Fl) : TS := fun D σ H => ∃ δ f M, At K cl δ σ H f M ∧ PostS K cl W (g δ M) H f M D
end
section
variable {K : PySem.W.Frag} {cl : Cls0} {W : WX} {H H1 : Hp} {f f1 : Nat → Addr} {M M1 : MH} {δ : Ev} {σ : L2.St} {En : Ends}
theorem PostS.mono {r : Fl} (h : PostS K cl W r H f M En) (x : Ext H f M H1 f1 M1) (rl : Rl K cl H1 f1 M1) : PostS K cl W r H1 f1 M1 En := by
  cases r with
  | nx δ M' => exact fun σ H' f' y a => h σ H' f' (x.trans rl y) a
  | bk δ M' => exact fun σ H' f' y a => h σ H' f' (x.trans rl y) a
  | ct δ M' => exact fun σ H' f' y a => h σ H' f' (x.trans rl y) a
  | rt d M' => exact fun v H' f' y r' q => h v H' f' (x.trans rl y) r' q
  | exc e δ M' => exact fun c dd σ H' f' y r' q => h c dd σ H' f' (x.trans rl y) r' q
  | unk => exact h
theorem PostS.bind {α β : Type} {rp : Hp → (Nat → Addr) → MH → α → β → Prop} {r : RE α} {k : α → MH → Fl} (a : At K cl δ σ H f M) (h : PostS K cl W (r.fl δ k) H f M En) {R : β → Hp → Prop}
    (w : ∀ v H1 f1 M1 d, r = .ok d M1 → Ext H f M H1 f1 M1 → At K cl δ σ H1 f1 M1 → rp H1 f1 M1 d v → PostS K cl W (k d M1) H1 f1 M1 En → R v H1) : PostE K cl W rp σ r H f M R := by
  cases r with
  | ok d M' => exact fun v H' f' y r' q => w v H' f' M' d rfl y (a.mv y r') q (PostS.mono h y r')
  | exc e M' => exact fun c dd H' f' y r' q => h c dd σ H' f' y (a.mv y r') q
  | unk => exact h
theorem sE {g : Ev → MH → RE D} {k : D → MH → Fl} (a : At K cl δ σ H f M) (h : PostS K cl W ((g δ M).fl δ k) H f M En) {R : VK}
    (w : ∀ v H1 f1 M1 d, g δ M = .ok d M1 → Ext H f M H1 f1 M1 → At K cl δ σ H1 f1 M1 → Rep K H1 f1 M1.length d v → PostS K cl W (k d M1) H1 f1 M1 En → R v H1) : tE K cl W g σ H R :=
  ⟨δ, f, M, a, PostS.bind (rp := rpD K) a h w⟩
/-- a write, then on: the changed object is M's own -/
theorem PostS.wrote {r : RE Unit} {k : Unit → MH → Fl} {M' : MH} (e : r = .ok () M') (h : PostS K cl W (r.fl δ k) H f M En) (x : Ext H f M H1 f1 M') (rl : Rl K cl H1 f1 M') : PostS K cl W (k () M') H1 f1 M' En := by
  subst e
  exact PostS.mono h x rl
/-- the rest of a block stands for what follows -/
theorem PostS.thn {r : Fl} {k : Ev → MH → Fl} (h : PostS K cl W (r.then k) H f M En) : PostS K cl W r H f M { En with nx := tS K cl W k En } := by
  cases r with
  | nx δ M' => exact fun σ H' f' y a => ⟨δ, f', M', a, PostS.mono h y a.r⟩
  | bk δ M' => exact h
  | ct δ M' => exact h
  | rt d M' => exact h
  | exc e δ M' => exact h
  | unk => exact h
end
section
variable {X : Cx} {cl : Cls0} {W : WX} {N : List Str} {sc : Scope} {bs : Option Scope} {wi : Bool}
theorem swaps_no {e : Expr} {t : Option Expr} {l : Nat} {env : Env} (h : noLc e = true) : swapsWith e t l env = pure false := by
  cases e <;> first | rfl | exact absurd h Bool.false_ne_true
theorem swaps_sub {e : Expr} {a b : Expr} {p : Pos} {l : Nat} {env : Env} : swapsWithSole [.Subscript a b p] e l env = pure false := by
  cases e <;> rfl
theorem swaps_att {e : Expr} {a : Expr} {b : Str} {p : Pos} {l : Nat} {env : Env} : swapsWith e (some (.Attribute a b p)) l env = pure false := by
  cases e <;> rfl
theorem swaps_tup {e : Expr} {es : List Expr} {k : Nat} {p : Pos} {l : Nat} {env : Env} : swapsWithSole [.Tuple es k p] e l env = pure false := by
  cases e <;> rfl
theorem swapped_sub {e : Expr} {a b : Expr} {p : Pos} {env : Env} : swappedStores [.Subscript a b p] e env = pure none := by
  cases e <;> rfl
theorem swapped_tup {e : Expr} {es : List Expr} {k : Nat} {p : Pos} {env : Env} (h : noTup e = true) : swappedStores [.Tuple es k p] e env = pure none := by
  cases e <;> first | rfl | exact absurd h Bool.false_ne_true
theorem slice_pl {o i : Expr} {pos : Pos} {env : Env} (h : plE i = true) : ∀ v, assign (.Subscript o i pos) env v = (do
      let ov ← holding [v] (eval o env)
      let iv ← holding [v, ov] (eval i env)
      standAt pos
      holding [v, ov, iv] (setItem ov iv v)
      release [v, ov, iv] []) := by
  intro v
  cases i <;> first | rfl | exact absurd h Bool.false_ne_true
theorem RepF.put {K : PySem.W.Frag} {H : Hp} {f : Nat → Addr} {n : Nat} {x : Str} {d : D} {v : V} (hv : Rep K H f n d v) : ∀ {fs : List (Str × D)} {gs : List (Str × V)}, RepF K H f n fs gs → RepF K H f n (putFD x d fs) (putF x v gs)
  | [], gs, h => by
    unfold RepF at h; subst h
    show RepF K H f n [(x, d)] [(x, v)]
    unfold RepF
    exact ⟨v, [], rfl, hv, by unfold RepF; rfl⟩
  | (y, e) :: fs, gs, h => by
    unfold RepF at h
    obtain ⟨w, r, rfl, h1, h2⟩ := h
    show RepF K H f n (if y = x then (y, d) :: fs else (y, e) :: putFD x d fs) (if y = x then (y, v) :: r else (y, w) :: putF x v r)
    split
    · unfold RepF
      exact ⟨v, r, rfl, hv, h2⟩
    · unfold RepF
      exact ⟨w, _, rfl, h1, RepF.put hv h2⟩
theorem RepF.length {K : PySem.W.Frag} {H : Hp} {f : Nat → Addr} {n : Nat} : ∀ {fs : List (Str × D)} {gs : List (Str × V)}, RepF K H f n fs gs → fs.length = gs.length
  | [], gs, h => by unfold RepF at h; subst h; rfl
  | (y, e) :: fs, gs, h => by
    unfold RepF at h
    obtain ⟨w, r, rfl, h1, h2⟩ := h
    rw [List.length_cons, List.length_cons, RepF.length h2]

theorem s_set {i : Nat} {x : Str} {px pos : Pos} {e : Expr} {g : Ev → MH → RE D} (cx : Ctx X cl W N sc bs wi) (hst : chkSt N sc bs i x = true) (hl : noLc e = true) (he : PE X e (tE X.K cl W g)) :
    PS X (.Assign [.Name x px] e pos) (tS X.K cl W fun δ M => (g δ M).fl δ fun d M => .nx (δ.set i (some d)) M) := by
  obtain ⟨a1, a2, a3⟩ := cx.sto hst
  exact (ps_set cx.nd' a1 a2 he (swaps_no hl) a3).weak fun En σ H ⟨δ, f, M, at_, h⟩ => sE at_ h fun v H1 f1 M1 d _ x1 a1 rv h => h _ _ _ (Ext.refl _ _ _) ⟨a1.r, a1.e.set i rv⟩
theorem s_unp {is : List Nat} {es : List Expr} {k : Nat} {pt pos : Pos} {e : Expr} {g : Ev → MH → RE D} (cx : Ctx X cl W N sc bs wi) (hst : chkStEs N sc bs is es = true) (hl : noTup e = true) (he : PE X e (tE X.K cl W g)) :
    PS X (.Assign [.Tuple es k pt] e pos) (tS X.K cl W fun δ M => (g δ M).fl δ fun d M => match bindTg (.tup is) d δ with
      | some δ' => .nx δ' M
      | none => .unk) := by
  have ht : chkTg N sc bs (.tup is) (.Tuple es k pt) = true := hst
  exact (ps_asg he (g_tg cx ht) swaps_tup (swapped_tup hl) rfl).weak fun En σ H ⟨δ, f, M, at_, h⟩ => sE at_ h fun v H1 f1 M1 d _ x1 a1 rv h => by
    split at h
    · rename_i δ' hb
      exact ⟨δ, f1, M1, d, δ', a1, rv, hb, fun σ' a2 _ _ => h _ _ _ (Ext.refl _ _ _) a2⟩
    · exact h.elim
theorem s_sub {a i e : Expr} {ps pos : Pos} {g ga gi : Ev → MH → RE D} (hpl : plE i = true) (he : PE X e (tE X.K cl W g)) (ha : PE X a (tE X.K cl W ga)) (hi : PE X i (tE X.K cl W gi)) :
    PS X (.Assign [.Subscript a i ps] e pos) (tS X.K cl W fun δ M => (g δ M).fl δ fun v M => (ga δ M).fl δ fun x M => (gi δ M).fl δ fun y M => (setIdxD x y v M).fl δ fun _ M => .nx δ M) :=
  (ps_asg he (pg_sub ha hi set_list (slice_pl hpl)) swaps_sub swapped_sub rfl).weak fun En σ H ⟨δ, f, M, at_, h⟩ => sE at_ h fun v H1 f1 M1 d _ x1 a1 rv h => sE a1 h fun o H2 f2 M2 d2 _ x2 a2 ro h => sE a2 h fun j H3 f3 M3 d3 _ x3 a3 rj h => by
    have ro := Rep.mv (x3.mv a2.r) _ _ ro
    have rv := Rep.mv (x3.mv a2.r) _ _ (Rep.mv (x2.mv a1.r) _ _ rv)
    cases q : setIdxD d2 d3 d M3 with
    | exc e M4 =>
      unfold setIdxD at q
      repeat' (split at q)
      all_goals cases q
    | unk => rw [q] at h; exact h.elim
    | ok z M4 =>
      unfold setIdxD at q
      split at q
      · rename_i n k _ _ _ _
        split at q
        · rename_i xs hM
          split at q
          · rename_i jj hj
            cases q
            obtain ⟨rfl, hn⟩ := ro.loc
            have := rj.int; subst this
            obtain ⟨ws, hW, hR⟩ := a3.r.lst hM
            refine ⟨_, ws, k, jj, rfl, rfl, hW, by rw [← hR.length]; exact hj, ?_⟩
            have mv := Mv.upd (K := X.K) (f := f3) (o := .lst (ws.set jj v)) ⟨_, hW, trivial⟩ M3.length
            have rl := a3.r.write (u := .lst (xs.set jj d)) hn ⟨_, upd_same, (Reps.mv mv _ _ hR).set (Rep.mv mv _ _ rv) jj⟩
            have h2 := PostS.wrote (r := setIdxD (.loc n) (.int k) d M3) (M' := M3.set n (.lst (xs.set jj d))) (by unfold setIdxD; simp only [hM, hj]) h (Ext.write hn) rl
            exact h2 _ _ _ (Ext.refl _ _ _) ⟨rl, by rw [List.length_set]; exact a3.e.mv mv⟩
          · cases q
        · cases q
      · cases q
theorem s_fld {o e : Expr} {C fl : Str} {ps pos : Pos} {g go : Ev → MH → RE D} (hc : Cls X.K (cl C)) (hn : NoAttr X.K (cl C) fl) (he : PE X e (tE X.K cl W g)) (ho : PE X o (tE X.K cl W go)) :
    PS X (.Assign [.Attribute o fl ps] e pos) (tS X.K cl W fun δ M => (g δ M).fl δ fun v M => (go δ M).fl δ fun x M => (setFldD x C fl v M).fl δ fun _ M => .nx δ M) :=
  (ps_fld ho he swaps_att).weak fun En σ H ⟨δ, f, M, at_, h⟩ => sE at_ h fun v H1 f1 M1 d _ x1 a1 rv h => sE a1 h fun o H2 f2 M2 d2 _ x2 a2 ro h => by
    have rv := Rep.mv (x2.mv a1.r) _ _ rv
    cases q : setFldD d2 C fl d M2 with
    | exc e M4 =>
      unfold setFldD at q
      repeat' (split at q)
      all_goals cases q
    | unk => rw [q] at h; exact h.elim
    | ok z M4 =>
      unfold setFldD at q
      split at q
      · rename_i n _
        split at q
        · rename_i C' fs hM
          split at q
          · rename_i hC
            obtain ⟨hC, hl⟩ := hC
            cases q
            obtain ⟨rfl, hn'⟩ := ro.loc
            rw [hC] at hM
            obtain ⟨dx, gs, hI, hF⟩ := a2.r.ins hM
            refine ⟨_, _, dx, gs, rfl, hI, hc, hn, by rw [← hF.length]; exact hl, ?_⟩
            have mv := Mv.upd (K := X.K) (f := f2) (o := .ins (cl C) dx (putF fl v gs)) ⟨_, hI, trivial⟩ M2.length
            have rl := a2.r.write (u := .ins C (putFD fl d fs)) hn' ⟨dx, _, upd_same, RepF.put (Rep.mv mv _ _ rv) (RepF.mv mv _ _ hF)⟩
            have h2 := PostS.wrote (r := setFldD (.loc n) C fl d M2) (M' := M2.set n (.ins C (putFD fl d fs))) (by unfold setFldD; simp only [hM]; rw [if_pos ⟨trivial, hl⟩]) h (Ext.write hn') rl
            exact h2 _ _ _ (Ext.refl _ _ _) ⟨rl, by rw [List.length_set]; exact a2.e.mv mv⟩
          · cases q
        · cases q
      · cases q
theorem ip_D {op : Operator} (h : op = .Add ∨ op = .Sub) : PIp X op (fun x y H Q => ∃ a b f M σ, Rl X.K cl H f M ∧ Rep X.K H f M.length a x ∧ Rep X.K H f M.length b y ∧ PostE X.K cl W (rpD X.K) σ (augD op a b M) H f M Q) := by
  intro pins s σ H x y v u Q I rx ry ⟨a, b, f, M, σ', r, ra, rb, q⟩
  rcases h with rfl | rfl
  · cases a <;> first | exact q.elim | skip
    cases b <;> first | exact q.elim | skip
    have := ra.int; subst this
    have := rb.int; subst this
    exact ip_add pins s σ H _ _ v u Q I rx ry ⟨_, _, rfl, rfl, PostE.same q r rep_int⟩
  · cases a <;> first | exact q.elim | skip
    cases b <;> first | exact q.elim | skip
    have := ra.int; subst this
    have := rb.int; subst this
    exact ip_sub pins s σ H _ _ v u Q I rx ry ⟨_, _, rfl, rfl, PostE.same q r rep_int⟩
theorem s_aug {i : Nat} {x : Str} {px pos : Pos} {op : Operator} {e : Expr} {g : Ev → MH → RE D} (cx : Ctx X cl W N sc bs wi) (hop : op = .Add ∨ op = .Sub) (hst : chkSt N sc bs i x = true) (he : PE X e (tE X.K cl W g)) :
    PS X (.AugAssign (.Name x px) op e pos) (tS X.K cl W fun δ M => match δ[i]? with
      | some (some x) => (g δ M).fl δ fun y M => (augD op x y M).fl δ fun z M => .nx (δ.set i (some z)) M
      | _ => .unk) := by
  obtain ⟨a1, a2, a3⟩ := cx.sto hst
  exact (ps_aug cx.nd' a1 a2 he (ip_D (cl := cl) (W := W) hop) a3).weak fun En σ H ⟨δ, f, M, at_, h⟩ => by
    dsimp only at h
    split at h
    · rename_i d hd
      obtain ⟨v, hv, rv⟩ := at_.e.get i d hd
      refine ⟨v, hv, sE at_ h fun u H1 f1 M1 d2 _ x1 a1 ru h => ⟨d, d2, f1, M1, σ, a1.r, Rep.mv (x1.mv at_.r) _ _ rv, ru, ?_⟩⟩
      exact PostS.bind (rp := rpD X.K) a1 h fun w H2 f2 M2 d3 _ x2 a2 rw_ h => h _ _ _ (Ext.refl _ _ _) ⟨a2.r, a2.e.set i rw_⟩
    · exact h.elim
theorem s_if {c : Expr} {l r : List Stmt} {pos : Pos} {gc : Ev → MH → RE Bool} {ga gb : Ev → MH → Fl} (hc : PT X c (tT X.K cl W gc)) (ha : PSs X l (tS X.K cl W ga)) (hb : PSs X r (tS X.K cl W gb)) :
    PS X (.If c l r pos) (tS X.K cl W fun δ M => (gc δ M).fl δ fun k M => if k = true then ga δ M else gb δ M) :=
  (ps_if hc ha hb).weak fun En σ H ⟨δ, f, M, at_, h⟩ => ⟨δ, f, M, at_, PostS.bind (rp := rpB) at_ h fun v H1 f1 M1 d _ x1 a1 e h => by
    have e : v = d := e
    subst e
    cases v with
    | true => exact iteT ⟨δ, f1, M1, a1, h⟩
    | false => exact iteF ⟨δ, f1, M1, a1, h⟩⟩
theorem s_for {tg : Tg} {tge ite : Expr} {l : List Stmt} {pos : Pos} {gI : Ev → MH → RE (List D × Gd)} {gb : Ev → MH → Fl} (cx : Ctx X cl W N sc bs wi) (ht : chkTg N sc bs tg tge = true) (hpl : plE ite = true) (hi : PI X tge ite (tI X.K cl W gI)) (hb : PSs X l (tS X.K cl W gb)) :
    PS X (.For tge ite l [] pos) (tS X.K cl W fun δ M => (gI δ M).fl δ fun p M => forLoop p.2 tg gb p.1 δ M) :=
  (ps_for cx.po cx.calm hi (g_tg cx ht) hb (fold_pl hpl)).weak fun En σ H ⟨δ, f, M, at_, h⟩ => ⟨δ, f, M, at_, PostS.bind (rp := rpI X.K cl) at_ h fun J Hb fb Mb p _ xb ab wk h => by
    obtain ⟨items, gd⟩ := p
    have wk : Wk X.K cl J items gd Hb fb Mb := wk
    have h : PostS X.K cl W (forLoop gd tg gb items δ Mb) Hb fb Mb En := h
    refine ⟨fun i m σ H => m = items.length - i ∧ i ≤ items.length ∧ ∃ δ f M, Ext Hb fb Mb H f M ∧ At X.K cl δ σ H f M ∧ PostS X.K cl W (forLoop gd tg gb (items.drop i) δ M) H f M En,
      ⟨items.length, by simp, Nat.zero_le _, δ, fb, Mb, Ext.refl _ _ _, ab, by rw [List.drop_zero]; exact h⟩, ?_⟩
    rintro i m σ1 H1 ⟨rfl, hi, δ1, f1, M1, x1, a1, h⟩
    by_cases hlt : i < items.length
    · have hd : items.drop i = items[i] :: items.drop (i + 1) := List.drop_eq_getElem_cons hlt
      have hit : items[i]? = some items[i] := List.getElem?_eq_getElem hlt
      generalize items[i] = d at hd hit
      rw [hd] at h
      unfold forLoop at h
      split at h
      · rename_i hg
        obtain ⟨go, yld⟩ := wk.go i d H1 f1 M1 hit x1 a1.r hg
        refine .inr ⟨go, fun σ H => i + 1 ≤ items.length ∧ ∃ δ f M, Ext Hb fb Mb H f M ∧ At X.K cl δ σ H f M ∧ PostS X.K cl W (forLoop gd tg gb (items.drop (i + 1)) δ M) H f M En, fun σ' H' q => ⟨items.length - (i + 1), by omega, rfl, q⟩, fun x H' hy => ?_⟩
        obtain ⟨xy, ry, rx⟩ := yld x H' hy
        split at h
        · rename_i δ' hbd
          refine ⟨δ1, f1, M1, d, δ', a1.mv xy ry, rx, hbd, fun σ' as _ _ => ⟨δ', f1, M1, as, ?_⟩⟩
          have h := h.mono xy ry
          have x2 : Ext Hb fb Mb H' f1 M1 := x1.trans a1.r xy
          cases q : gb δ' M1 with
          | nx δ2 M2 =>
            rw [q] at h
            exact fun σ3 H3 f3 x3 a3 => ⟨hlt, δ2, f3, M2, x2.trans ry x3, a3, PostS.mono h x3 a3.r⟩
          | ct δ2 M2 =>
            rw [q] at h
            exact fun σ3 H3 f3 x3 a3 => ⟨hlt, δ2, f3, M2, x2.trans ry x3, a3, PostS.mono h x3 a3.r⟩
          | bk δ2 M2 =>
            rw [q] at h
            exact h
          | rt d2 M2 =>
            rw [q] at h
            exact h
          | exc e δ2 M2 =>
            rw [q] at h
            exact h
          | unk =>
            rw [q] at h
            exact h.elim
        · exact h.elim
      · exact h.elim
    · have e : i = items.length := by omega
      subst e
      rw [List.drop_length] at h
      unfold forLoop at h
      split at h
      · rename_i hg
        exact .inl ⟨wk.stop H1 f1 M1 x1 a1.r hg, h _ _ _ (Ext.refl _ _ _) a1⟩
      · exact h.elim⟩
theorem s_whl {c : Expr} {l : List Stmt} {pos : Pos} {gc : Ev → MH → RE Bool} {gb : Ev → MH → Fl} (n : Nat) (cx : Ctx X cl W N sc bs wi) (hc : PT X c (tT X.K cl W gc)) (hb : PSs X l (tS X.K cl W gb)) :
    PS X (.While c l [] pos) (tS X.K cl W fun δ M => whLoop gc gb n δ M) :=
  (ps_while cx.po hc hb).weak fun En σ H ⟨δ, f, M, at_, h⟩ => by
    refine ⟨fun m σ H => ∃ δ f M, At X.K cl δ σ H f M ∧ PostS X.K cl W (whLoop gc gb m δ M) H f M En, ⟨n, δ, f, M, at_, h⟩, ?_⟩
    rintro m σ1 H1 ⟨δ1, f1, M1, a1, h⟩
    cases m with
    | zero => exact h.elim
    | succ m =>
      unfold whLoop at h
      refine ⟨δ1, f1, M1, a1, PostS.bind (rp := rpB) a1 h fun v H2 f2 M2 d _ x2 a2 e h => ?_⟩
      have e : v = d := e
      subst e
      cases v with
      | false => exact iteF (h _ _ _ (Ext.refl _ _ _) a2)
      | true =>
        refine iteT ⟨fun σ H => ∃ m', m' < m + 1 ∧ ∃ δ f M, At X.K cl δ σ H f M ∧ PostS X.K cl W (whLoop gc gb m' δ M) H f M En, fun _ _ q => q, δ1, f2, M2, a2, ?_⟩
        have h : PostS X.K cl W (match gb δ1 M2 with
          | .nx δ M => whLoop gc gb m δ M
          | .ct δ M => whLoop gc gb m δ M
          | .bk δ M => .nx δ M
          | .rt d M => .rt d M
          | .exc x δ M => .exc x δ M
          | .unk => .unk) H2 f2 M2 En := h
        cases q : gb δ1 M2 with
        | nx δ2 M3 =>
          rw [q] at h
          exact fun σ3 H3 f3 x3 a3 => ⟨m, Nat.lt_succ_self _, δ2, f3, M3, a3, PostS.mono h x3 a3.r⟩
        | ct δ2 M3 =>
          rw [q] at h
          exact fun σ3 H3 f3 x3 a3 => ⟨m, Nat.lt_succ_self _, δ2, f3, M3, a3, PostS.mono h x3 a3.r⟩
        | bk δ2 M3 =>
          rw [q] at h
          exact h
        | rt d2 M3 =>
          rw [q] at h
          exact h
        | exc e δ2 M3 =>
          rw [q] at h
          exact h
        | unk =>
          rw [q] at h
          exact h.elim
end
end RF

/-! RFm: the soundness of statements; a def by its body. -/
namespace RF
open PySem PySem.Spec PyProof.Rows L2
variable {N : List Str} {cl : Cls0}
theorem s_setLc {X : Cx} {W : WX} {sc : Scope} {bs : Option Scope} {wi : Bool} (cx : Ctx X cl W N sc bs wi) {i : Nat} {y : Str} {py pos spos : Pos} {scope : Scope} {own : List (Str × Nat)} {tg : Tg} {it : It} {c : Eo} {a : E} {r tge ite : Expr} {ifs : List Expr}
    (hs : ∀ s ∈ scE (.lc own tg it c a), SC.Ok X cl s) (hst : chkSt N sc bs i y = true) (hy : sc.names.lookup y = some .local) (hl : (py.line == pos.line) = true) (ha : (scope.names.any fun (n, k) => n == y && (k == .local || k == .cell)) = false)
    (h : chkE N sc wi (.lc own tg it c a) (.ListComp r [⟨tge, ite, ifs, 0⟩] scope pos) = true) :
    PS X (.Assign [.Name y py] (.ListComp r [⟨tge, ite, ifs, 0⟩] scope pos) spos) (tS X.K cl W fun δ M => (evE (.lc own tg it c a) δ M).fl δ fun d M => .nx (δ.set i (some d)) M) := by
  unfold chkE at h
  simp only [Bool.and_eq_true, List.all_eq_true, decide_eq_true_eq] at h
  obtain ⟨⟨⟨⟨⟨⟨h1, h2⟩, h3⟩, h4⟩, h5⟩, h6⟩, h7⟩ := h
  obtain ⟨a1, _, _⟩ := cx.sto hst
  have bk : BlkOk X.N X.env.scope scope own := by rw [cx.eN, cx.eS]; exact blkOk_by h1
  have hk := blk_kind h1
  have ok : ∀ (s : Shared) (H : Hp) (C : Addr) (cells : List (Str × Addr)) (fp : List Addr), ∀ c, SC.Ok X cl c → SC.Ok (X.blk s H scope (compEnvC scope cells C X.env) fp) cl c := fun _ _ _ _ _ c h => by cases c <;> exact h
  have hyl : X.env.scope.names.lookup y = some .local := by rw [cx.eS]; exact hy
  have ht : ∀ (s : Shared) (H : Hp) (C : Addr) (cells : List (Str × Addr)) (fp : List Addr), PTs (X.blk s H scope (compEnvC scope cells C X.env) fp) ifs (tT X.K cl (fun _ _ _ _ => False) (evC c)) :=
    fun s H C cells fp => (sndEo c (cx.blk hk s H C cells fp) fun q z => ok s H C cells fp q (mem_l (mem_r hs) q z)).2 _ h6
  have he : ∀ (s : Shared) (H : Hp) (C : Addr) (cells : List (Str × Addr)) (fp : List Addr), PE (X.blk s H scope (compEnvC scope cells C X.env) fp) r (tE X.K cl (fun _ _ _ _ => False) (evE a)) :=
    fun s H C cells fp => (sndE a (cx.blk hk s H C cells fp) _ (fun q z => ok s H C cells fp q (mem_r (mem_r hs) q z)) h7).pe
  have hg : ∀ (s : Shared) (H : Hp) (C : Addr) (cells : List (Str × Addr)) (fp : List Addr), PG (X.blk s H scope (compEnvC scope cells C X.env) fp) tge (tG X.K cl tg) := fun s H C cells fp => g_tg (cx.blk hk s H C cells fp) h2
  have rule := ps_setLc (spos := spos) cx.calm cx.nd' a1 hyl (sw_true (elt := r) (gs := [⟨tge, ite, ifs, 0⟩]) (l := spos.line) (by rw [cx.eS]; exact cx.kind) hyl hl ha)
    (sndIt it cx tge ite (mem_l hs) h4 (by cases it <;> first | trivial | exact h5)) bk hg
    ht he (fold_pl (chkIt_pl h4))
  refine rule.weak fun En σ H ⟨δ, f, M, at_, q⟩ => ?_
  have q2 : PostE X.K cl W (rpD X.K) σ (evE (.lc own tg it c a) δ M) H f M (fun v H1 => En.nx (σ.set i (some v)) H1) :=
    PostS.bind (rp := rpD X.K) at_ q fun v H1 f1 M1 d _ x1 b1 rv h => h _ _ _ (Ext.refl _ _ _) ⟨b1.r, b1.e.set i rv⟩
  refine lc_run (R := fun v H1 => En.nx (σ.set i (some v)) H1) h3 at_ q2 fun a Hb fb Mb H1 f1 M1 ds ws x1 b1 ha hH hout hR q => ?_
  have e := rep_loc (K := X.K) (H := H1) (f := setf f1 M1.length a) (n := (M1 ++ [MO.lst ds]).length) (i := M1.length) (by rw [List.length_append, List.length_singleton]; omega)
  rw [setf_same] at e
  exact q _ _ (setf f1 M1.length a) (x1.take_in ha) (b1.r.take_in hout ⟨ws, hH, hR⟩) e

mutual
theorem sndS (n : Nat) : ∀ (m : S) {X : Cx} {W : WX} {sc : Scope} {bs : Option Scope} {wi : Bool} (cx : Ctx X cl W N sc bs wi) (s : Stmt), (∀ c ∈ scS m, SC.Ok X cl c) → chkS N sc bs wi m s = true → PS X s (tS X.K cl W (exS n m))
  | .set i a, X, W, sc, bs, wi, cx, s, hs, h => by
    unfold chkS at h
    split at h
    · rename_i y py e spos
      simp only [Bool.and_eq_true, Bool.or_eq_true] at h
      obtain ⟨⟨h1, h2⟩, h3⟩ := h
      cases hn : noLc e with
      | true => exact s_set cx h1 hn (sndE a cx e hs h3).pe
      | false =>
        have h2 : lcStore sc y py e = true := by
          rcases h2 with h2 | h2
          · rw [hn] at h2; cases h2
          · exact h2
        unfold lcStore at h2
        split at h2
        · rename_i elt gens scope pos
          simp only [Bool.and_eq_true, Bool.not_eq_true'] at h2
          obtain ⟨⟨k1, k2⟩, k3⟩ := h2
          have k1' : sc.names.lookup y = some .local := of_decide_eq_true k1
          cases a with
          | lc own tg it c b =>
            have h3' := h3
            unfold chkE at h3'
            split at h3'
            · rename_i e1
              cases e1
              exact s_setLc cx hs h1 k1' k2 k3 h3
            · exact absurd h3' Bool.false_ne_true
          | _ =>
            unfold chkE at h3
            (try split at h3) <;> first | (rename_i e1; cases e1; done) | exact absurd h3 Bool.false_ne_true
        · exact absurd h2 Bool.false_ne_true
    · exact absurd h Bool.false_ne_true
  | .par _ _ _ _, X, W, sc, bs, wi, cx, s, hs, h => absurd h Bool.false_ne_true
  | .unp is a, X, W, sc, bs, wi, cx, s, hs, h => by
    unfold chkS at h
    split at h
    · simp only [Bool.and_eq_true] at h
      exact s_unp cx h.1.1 h.1.2 (sndE a cx _ hs h.2).pe
    · exact absurd h Bool.false_ne_true
  | .sub a i b, X, W, sc, bs, wi, cx, s, hs, h => by
    unfold chkS at h
    split at h
    · simp only [Bool.and_eq_true] at h
      obtain ⟨h1, h2, h3, h4⟩ := h
      exact s_sub h1 (sndE b cx _ (mem_l hs) h2).pe (sndE a cx _ (mem_l (mem_r hs)) h3).pe (sndE i cx _ (mem_r (mem_r hs)) h4).pe
    · exact absurd h Bool.false_ne_true
  | .fld o C f b, X, W, sc, bs, wi, cx, s, hs, h => by
    unfold chkS at h
    split at h
    · simp only [Bool.and_eq_true, decide_eq_true_eq] at h
      obtain ⟨rfl, h1, h2⟩ := h
      obtain ⟨k1, k2⟩ := hs _ List.mem_cons_self
      exact s_fld k1 k2 (sndE b cx _ (fun s q => hs s (List.mem_cons_of_mem _ (List.mem_append_left _ q))) h1).pe (sndE o cx _ (fun s q => hs s (List.mem_cons_of_mem _ (List.mem_append_right _ q))) h2).pe
    · exact absurd h Bool.false_ne_true
  | .aug i op a, X, W, sc, bs, wi, cx, s, hs, h => by
    unfold chkS at h
    split at h
    · simp only [Bool.and_eq_true, Bool.or_eq_true, decide_eq_true_eq] at h
      obtain ⟨⟨⟨rfl, h1⟩, h2⟩, h3⟩ := h
      exact s_aug cx h1 h2 (sndE a cx _ hs h3).pe
    · exact absurd h Bool.false_ne_true
  | .ex a, X, W, sc, bs, wi, cx, s, hs, h => by
    unfold chkS at h
    split at h
    · rename_i e pos
      simp only [Bool.and_eq_true] at h
      exact (ps_expr (sndE a cx _ hs h.2).pe (swaps_no h.1)).weak fun En σ H ⟨δ, f, M, at_, q⟩ => sE at_ q fun v H1 f1 M1 d _ x1 a1 rv q => q _ _ _ (Ext.refl _ _ _) a1
    · exact absurd h Bool.false_ne_true
  | .ret a, X, W, sc, bs, wi, cx, s, hs, h => by
    unfold chkS at h
    split at h
    · exact (ps_ret (sndE a cx _ hs h).pe).weak fun En σ H ⟨δ, f, M, at_, q⟩ => sE at_ q fun v H1 f1 M1 d _ x1 a1 rv q => q _ _ _ (Ext.refl _ _ _) a1.r rv
    · exact absurd h Bool.false_ne_true
  | .retN, X, W, sc, bs, wi, cx, s, hs, h => by
    unfold chkS at h
    split at h
    · exact ps_retN.weak fun En σ H ⟨δ, f, M, at_, q⟩ => q _ _ _ (Ext.refl _ _ _) at_.r rep_non
    · exact absurd h Bool.false_ne_true
  | .ite c a b, X, W, sc, bs, wi, cx, s, hs, h => by
    unfold chkS at h
    split at h
    · simp only [Bool.and_eq_true, Bool.not_eq_true'] at h
      obtain ⟨h1, h2, h3, h4⟩ := h
      exact s_if ((sndE c cx _ (mem_l hs) h2).pt h1) (sndSs n a cx _ (mem_l (mem_r hs)) h3) (sndSs n b cx _ (mem_r (mem_r hs)) h4)
    · exact absurd h Bool.false_ne_true
  | .for tg it b, X, W, sc, bs, wi, cx, s, hs, h => by
    unfold chkS at h
    split at h
    · simp only [Bool.and_eq_true] at h
      obtain ⟨⟨⟨h1, h2⟩, h3⟩, h4⟩ := h
      exact s_for cx h1 (chkIt_pl h2) (sndIt it cx _ _ (mem_l hs) h2 (by cases it <;> first | trivial | exact h3)) (sndSs n b cx _ (mem_r hs) h4)
    · exact absurd h Bool.false_ne_true
  | .whl c b, X, W, sc, bs, wi, cx, s, hs, h => by
    unfold chkS at h
    split at h
    · simp only [Bool.and_eq_true, Bool.not_eq_true'] at h
      obtain ⟨h1, h2, h3⟩ := h
      exact s_whl n cx ((sndE c cx _ (mem_l hs) h2).pt h1) (sndSs n b cx _ (mem_r hs) h3)
    · exact absurd h Bool.false_ne_true
  | .brk, X, W, sc, bs, wi, cx, s, hs, h => by
    unfold chkS at h
    split at h
    · exact ps_break.weak fun En σ H ⟨δ, f, M, at_, q⟩ => q _ _ _ (Ext.refl _ _ _) at_
    · exact absurd h Bool.false_ne_true
  | .cnt, X, W, sc, bs, wi, cx, s, hs, h => by
    unfold chkS at h
    split at h
    · exact ps_continue.weak fun En σ H ⟨δ, f, M, at_, q⟩ => q _ _ _ (Ext.refl _ _ _) at_
    · exact absurd h Bool.false_ne_true
  | .pass, X, W, sc, bs, wi, cx, s, hs, h => by
    unfold chkS at h
    split at h
    · exact ps_pass.weak fun En σ H ⟨δ, f, M, at_, q⟩ => q _ _ _ (Ext.refl _ _ _) at_
    · exact absurd h Bool.false_ne_true
  | .wall, X, W, sc, bs, wi, cx, s, hs, h => ps_never.weak fun En σ H ⟨δ, f, M, at_, q⟩ => q.elim
theorem sndSs (n : Nat) : ∀ (m : Ss) {X : Cx} {W : WX} {sc : Scope} {bs : Option Scope} {wi : Bool} (cx : Ctx X cl W N sc bs wi) (l : List Stmt), (∀ c ∈ scSs m, SC.Ok X cl c) → chkSs N sc bs wi m l = true → PSs X l (tS X.K cl W (exSs n m))
  | .nil, X, W, sc, bs, wi, cx, l, hs, h => by
    unfold chkSs at h
    split at h
    · exact pss_nil.weak fun En σ H ⟨δ, f, M, at_, q⟩ => q _ _ _ (Ext.refl _ _ _) at_
    · exact absurd h Bool.false_ne_true
  | .cons a r, X, W, sc, bs, wi, cx, l, hs, h => by
    unfold chkSs at h
    split at h
    · rw [Bool.and_eq_true] at h
      exact (pss_cons (sndS n a cx _ (mem_l hs) h.1) (sndSs n r cx _ (mem_r hs) h.2)).weak fun En σ H ⟨δ, f, M, at_, q⟩ => ⟨δ, f, M, at_, PostS.thn q⟩
    · exact absurd h Bool.false_ne_true
end

/-! ### what is let go at a def's end -/
mutual
def D.bel (n : Nat) : D → Prop
  | .non => True
  | .bl _ => True
  | .int _ => True
  | .str _ => True
  | .tup xs => bels n xs
  | .frl xs => bels n xs
  | .loc i => i < n
def bels (n : Nat) : List D → Prop
  | [] => True
  | d :: ds => d.bel n ∧ bels n ds
end
def belF (n : Nat) : List (Str × D) → Prop
  | [] => True
  | (_, d) :: r => d.bel n ∧ belF n r
def belK (n : Nat) : List (Int × D) → Prop
  | [] => True
  | (_, d) :: r => d.bel n ∧ belK n r
def MO.bel (n : Nat) : MO → Prop
  | .lst xs => bels n xs
  | .ins _ fs => belF n fs
  | .dct kvs => belK n kvs
def Cl (M : MH) : Prop := ∀ o ∈ M, o.bel M.length
section
variable {K : PySem.W.Frag} {H : Hp} {f : Nat → Addr} {n n' : Nat}
mutual
theorem Rep.bel : ∀ {d : D} {v : V}, Rep K H f n d v → d.bel n
  | .non, v, h => by unfold D.bel; trivial
  | .bl _, v, h => by unfold D.bel; trivial
  | .int _, v, h => by unfold D.bel; trivial
  | .str _, v, h => by unfold D.bel; trivial
  | .tup xs, v, h => by
    obtain ⟨_, _, _, _, r⟩ := h.tup
    unfold D.bel
    exact Reps.bel r
  | .frl xs, v, h => by
    obtain ⟨_, _, _, _, r⟩ := h.frl
    unfold D.bel
    exact Reps.bel r
  | .loc i, v, h => by
    unfold D.bel
    exact h.loc.2
theorem Reps.bel : ∀ {ds : List D} {vs : List V}, Reps K H f n ds vs → bels n ds
  | [], vs, h => by unfold bels; trivial
  | d :: ds, vs, h => by
    obtain ⟨v, r, _, h1, h2⟩ := h.cons'
    unfold bels
    exact ⟨Rep.bel h1, Reps.bel h2⟩
end
mutual
theorem Rep.cut : ∀ {d : D} {v : V}, Rep K H f n d v → d.bel n' → Rep K H f n' d v
  | .non, v, h, _ => by unfold Rep at h ⊢; exact h
  | .bl _, v, h, _ => by unfold Rep at h ⊢; exact h
  | .int _, v, h, _ => by unfold Rep at h ⊢; exact h
  | .str _, v, h, _ => by unfold Rep at h ⊢; exact h
  | .tup xs, v, h, b => by
    obtain ⟨a, vs, e, h1, r⟩ := h.tup
    unfold D.bel at b
    unfold Rep
    exact ⟨a, vs, e, h1, Reps.cut r b⟩
  | .frl xs, v, h, b => by
    obtain ⟨a, vs, e, h1, r⟩ := h.frl
    unfold D.bel at b
    unfold Rep
    exact ⟨a, vs, e, h1, Reps.cut r b⟩
  | .loc i, v, h, b => by
    unfold D.bel at b
    unfold Rep
    exact ⟨h.loc.1, b⟩
theorem Reps.cut : ∀ {ds : List D} {vs : List V}, Reps K H f n ds vs → bels n' ds → Reps K H f n' ds vs
  | [], vs, h, _ => by unfold Reps at h ⊢; exact h
  | d :: ds, vs, h, b => by
    obtain ⟨v, r, e, h1, h2⟩ := h.cons'
    unfold bels at b
    unfold Reps
    exact ⟨v, r, e, Rep.cut h1 b.1, Reps.cut h2 b.2⟩
end
theorem RepF.bel : ∀ {fs : List (Str × D)} {gs : List (Str × V)}, RepF K H f n fs gs → belF n fs
  | [], _, _ => trivial
  | (x, d) :: r, gs, h => by
    unfold RepF at h
    obtain ⟨v, r, _, h1, h2⟩ := h
    exact ⟨Rep.bel h1, RepF.bel h2⟩
theorem RepF.cut : ∀ {fs : List (Str × D)} {gs : List (Str × V)}, RepF K H f n fs gs → belF n' fs → RepF K H f n' fs gs
  | [], _, h, _ => by unfold RepF at h ⊢; exact h
  | (x, d) :: r, gs, h, b => by
    unfold RepF at h ⊢
    obtain ⟨v, r, e, h1, h2⟩ := h
    exact ⟨v, r, e, Rep.cut h1 b.1, RepF.cut h2 b.2⟩
theorem RepK.bel : ∀ {fs : List (Int × D)} {gs : List (Key × V)}, RepK K H f n fs gs → belK n fs
  | [], _, _ => trivial
  | (x, d) :: r, gs, h => by
    unfold RepK at h
    obtain ⟨v, r, _, h1, h2⟩ := h
    exact ⟨Rep.bel h1, RepK.bel h2⟩
theorem RepK.cut : ∀ {fs : List (Int × D)} {gs : List (Key × V)}, RepK K H f n fs gs → belK n' fs → RepK K H f n' fs gs
  | [], _, h, _ => by unfold RepK at h ⊢; exact h
  | (x, d) :: r, gs, h, b => by
    unfold RepK at h ⊢
    obtain ⟨v, r, e, h1, h2⟩ := h
    exact ⟨v, r, e, Rep.cut h1 b.1, RepK.cut h2 b.2⟩
theorem RepO.bel {a : Addr} {o : MO} (h : RepO K cl H f n a o) : o.bel n := by
  cases o with
  | lst xs => obtain ⟨_, _, h⟩ := h; exact Reps.bel h
  | ins C fs => obtain ⟨_, _, _, h⟩ := h; exact RepF.bel h
  | dct kvs => obtain ⟨_, _, h⟩ := h; exact RepK.bel h
theorem RepO.cut {a : Addr} {o : MO} (h : RepO K cl H f n a o) (b : o.bel n') : RepO K cl H f n' a o := by
  cases o with
  | lst xs => obtain ⟨_, e, h⟩ := h; exact ⟨_, e, Reps.cut h b⟩
  | ins C fs => obtain ⟨_, _, e, h⟩ := h; exact ⟨_, _, e, RepF.cut h b⟩
  | dct kvs => obtain ⟨_, e, h⟩ := h; exact ⟨_, e, RepK.cut h b⟩
theorem Rl.clo {M : MH} (r : Rl K cl H f M) : Cl M := fun o ho => by
  obtain ⟨i, hi⟩ := List.getElem?_of_mem ho
  exact (r.obj i o hi).bel
theorem Rl.cut {M G : MH} (r : Rl K cl H f (M ++ G)) (c : Cl M) : Rl K cl H f M := by
  refine ⟨fun i j hi hj e => r.inj i j (by rw [List.length_append]; omega) (by rw [List.length_append]; omega) e, fun i o hi => ?_⟩
  have hil : i < M.length := (List.getElem?_eq_some_iff.mp hi).1
  exact (r.obj i o (by rw [List.getElem?_append_left hil]; exact hi)).cut (c o (List.mem_of_getElem? hi))
theorem Ext.cut {H0 : Hp} {f0 : Nat → Addr} {M0 M G : MH} (x : Ext H0 f0 M0 H f (M ++ G)) (h : M0.length ≤ M.length) : Ext H0 f0 M0 H f M :=
  ⟨h, x.same, fun i h1 h2 => x.new i h1 (by rw [List.length_append]; omega), x.keep⟩
end
/-- r is what is told of the run r': it may let new objects go -/
def Drop (M0 : MH) (r r' : RE D) : Prop :=
  match r with
  | .unk => True
  | .ok d M' => M0.length ≤ M'.length ∧ (∃ G, r' = .ok d (M' ++ G)) ∧ d.bel M'.length ∧ Cl M'
  | .exc x M' => M0.length ≤ M'.length ∧ (∃ G, r' = .exc x (M' ++ G)) ∧ (∀ fs, x.pay = some fs → belF M'.length fs) ∧ Cl M'
noncomputable def runF (n : Nat) (body : Ss) (k : Nat) (ds : List D) (M : MH) : RE D :=
  match exSs n body (ds.map some ++ List.replicate (k - ds.length) none) M with
  | .nx _ M' => .ok .non M'
  | .rt d M' => .ok d M'
  | .exc x _ M' => .exc x M'
  | _ => .unk

/-- what a def leans on, by levels -/
def SCt (P : Program) (w : World) (K : PySem.W.Frag) (mg : Str → Option Value) (base : Heap) (cl : Cls0) (k : Nat) : SC → Prop
  | .fn x n F => ∃ j f fd ps, j ≤ k ∧ ps.length = n ∧ FnOk P w K mg base (L2.CX P w) j f fd ps (spF K cl n F) ∧ mg x = some (.ref f) ∧ PySem.W.keepIn K (.ref f) = true ∧ Binds K fd ps []
  | .cst x d => ∃ u v, mg x = some u ∧ RelV v u ∧ ∀ H f n, Rep K H f n d v
  | .meth C m n F => ∃ j f fd ps, j ≤ k ∧ ps.length = n + 1 ∧ FnOk P w K mg base (L2.CX P w) j f fd ps (spF K cl (n + 1) F) ∧ Cls K (cl C) ∧ Meth K (cl C) m f ∧ Binds K fd ps []
  | .mk C n F => ∃ j f fd ps, j + 1 ≤ k ∧ ps.length = n + 1 ∧ FnOk P w K mg base (L2.CX P w) j f fd ps (spF K cl (n + 1) F) ∧ Mk K (cl C) f ∧ mg C = some (.ref (cl C)) ∧ Binds K fd ps []
  | .fld C f => Cls K (cl C) ∧ NoAttr K (cl C) f
  | .gcd => mg "gcd" = some (.builtin "math.gcd")
  | .dct x kvs => ∃ a, mg x = some (.ref a) ∧ DgOk K w a kvs
theorem SCt.mono {P : Program} {w : World} {K : PySem.W.Frag} {mg : Str → Option Value} {base : Heap} {j k : Nat} (h : j ≤ k) {s : SC} (q : SCt P w K mg base cl j s) : SCt P w K mg base cl k s := by
  cases s with
  | fn x n F => obtain ⟨i, f, fd, ps, h1, q⟩ := q; exact ⟨i, f, fd, ps, Nat.le_trans h1 h, q⟩
  | cst x d => exact q
  | meth C m n F => obtain ⟨i, f, fd, ps, h1, q⟩ := q; exact ⟨i, f, fd, ps, Nat.le_trans h1 h, q⟩
  | mk C n F => obtain ⟨i, f, fd, ps, h1, q⟩ := q; exact ⟨i, f, fd, ps, Nat.le_trans h1 h, q⟩
  | fld C f => exact q
  | gcd => exact q
  | dct x kvs => exact q

theorem start_rep {K : PySem.W.Frag} {H : Hp} {f : Nat → Addr} {n : Nat} {ds : List D} {vs : List V} (r : Reps K H f n ds vs) : RepE K H f n (ds.map some ++ List.replicate (N.length - ds.length) none) (L2.start N vs) := by
  unfold L2.start
  have hl := r.length
  refine ⟨by simp [hl], fun i d h => ?_⟩
  by_cases hi : i < ds.length
  · rw [List.getElem?_append_left (by simpa using hi), List.getElem?_map] at h
    cases q : ds[i]? with
    | none => rw [q] at h; cases h
    | some e =>
      rw [q] at h; cases h
      obtain ⟨v, hv, rv⟩ := r.get q
      exact ⟨v, by rw [List.getElem?_append_left (by simp; omega), List.getElem?_map, hv]; rfl, rv⟩
  · rw [List.getElem?_append_right (by simp; omega), List.getElem?_replicate] at h
    split at h <;> cases h

/-- THE RULE for a def: the small language's body, checked, and what its run is told to be -/
theorem fn_snd {P : Program} {w : World} {K : PySem.W.Frag} {mg : Str → Option Value} {base : Heap} {x qual : Str} {st : Stmt} {f : Addr} {fd : FuncData} {ps : List Str} {k : Nat} (F : Fun K x qual st f fd) (Sn : FnScope N ps (defScope st)) (bn : ∀ x ∈ biNames, mg x = none)
    (body : Ss) (hchk : chkSs N (defScope st) none true body (defBody st) = true) (hsc : ∀ s ∈ scSs body, SCt P w K mg base cl k s) (F0 : FS)
    (hF : ∀ ds M, ds.length = ps.length → Cl M → bels M.length ds → ∃ n, Drop M (F0 ds M) (runF n body N.length ds M)) : FnOk P w K mg base (L2.CX P w) (k + 1) f fd ps (spF K cl ps.length F0) := by
  refine F.okX Sn (fun vs H Q E h => ?_) (fun cdv A outer s H vs Q E hr h => ?_)
  · obtain ⟨ds, g, M, hl, _, r, _⟩ := h
    rw [← r.length, hl]
  · obtain ⟨ds, g, M, hl, rl, r, h⟩ := h
    obtain ⟨n, hd⟩ := hF ds M hl rl.clo (Reps.bel r)
    let X := cxOf (L2.CX P w) P w K mg base N qual (defScope st) f cdv A outer s H E
    have cx : Ctx X cl (fun c d _ H => E c d H) N (defScope st) none true :=
      ⟨rfl, Sn.nd, rfl, Sn.kind, rfl, takes_of rfl rfl rfl rfl, passes_of rfl, hr.units, fun _ _ => rfl, fun _ _ _ _ _ _ h => h, bn⟩
    have ok : ∀ c ∈ scSs body, SC.Ok X cl c := fun c hc => by
      have q := hsc c hc
      cases c with
      | fn x n F => obtain ⟨i, f, fd, ps, h1, h2, h3, q⟩ := q; exact ⟨i, f, fd, ps, h2, h3, hr.mono h1, q⟩
      | cst x d => exact q
      | meth C m n F => obtain ⟨i, f, fd, ps, h1, h2, h3, q⟩ := q; exact ⟨i, f, fd, ps, h2, h3, hr.mono h1, q⟩
      | mk C n F => obtain ⟨i, f, fd, ps, h1, h2, h3, q⟩ := q; exact ⟨i, f, fd, ps, h2, h3, hr.mono h1, q⟩
      | fld C f => exact q
      | gcd => exact q
      | dct x kvs => exact q
    refine ⟨_, sndSs n body cx _ ok hchk, _, g, M, ⟨rl, start_rep r⟩, ?_⟩
    unfold runF at hd
    cases q : exSs n body (ds.map some ++ List.replicate (N.length - ds.length) none) M with
    | nx δ M2 =>
      rw [q] at hd
      cases e : F0 ds M with
      | unk => rw [e] at h; exact h.elim
      | exc _ _ => rw [e] at hd; obtain ⟨_, ⟨_, z⟩, _⟩ := hd; cases z
      | ok d M' =>
        rw [e] at h hd
        obtain ⟨h1, ⟨G, z⟩, h3, h4⟩ := hd
        cases z
        exact fun σ' H' f' x a => h .non H' f' (x.cut h1) (a.r.cut h4) rep_non
    | rt d2 M2 =>
      rw [q] at hd
      cases e : F0 ds M with
      | unk => rw [e] at h; exact h.elim
      | exc _ _ => rw [e] at hd; obtain ⟨_, ⟨_, z⟩, _⟩ := hd; cases z
      | ok d M' =>
        rw [e] at h hd
        obtain ⟨h1, ⟨G, z⟩, h3, h4⟩ := hd
        cases z
        exact fun v H' f' x r' rv => h v H' f' (x.cut h1) (r'.cut h4) (rv.cut h3)
    | exc x δ M2 =>
      rw [q] at hd
      cases e : F0 ds M with
      | unk => rw [e] at h; exact h.elim
      | ok _ _ => rw [e] at hd; obtain ⟨_, ⟨_, z⟩, _⟩ := hd; cases z
      | exc x' M' =>
        rw [e] at h hd
        obtain ⟨h1, ⟨G, z⟩, h3, h4⟩ := hd
        cases z
        refine fun c dd σ' H' f' y a ⟨o1, o2⟩ => h c dd H' f' (y.cut h1) (a.r.cut h4) ⟨o1, ?_⟩
        cases hp : x.pay with
        | none => rw [hp] at o2; exact o2
        | some fs =>
          rw [hp] at o2
          obtain ⟨d, gs, e1, e2, e3⟩ := o2
          exact ⟨d, gs, e1, e2, e3.cut (h3 fs hp)⟩
    | bk δ M2 =>
      rw [q] at hd
      cases e : F0 ds M with
      | unk => rw [e] at h; exact h.elim
      | ok _ _ => rw [e] at hd; obtain ⟨_, ⟨_, z⟩, _⟩ := hd; cases z
      | exc _ _ => rw [e] at hd; obtain ⟨_, ⟨_, z⟩, _⟩ := hd; cases z
    | ct δ M2 =>
      rw [q] at hd
      cases e : F0 ds M with
      | unk => rw [e] at h; exact h.elim
      | ok _ _ => rw [e] at hd; obtain ⟨_, ⟨_, z⟩, _⟩ := hd; cases z
      | exc _ _ => rw [e] at hd; obtain ⟨_, ⟨_, z⟩, _⟩ := hd; cases z
    | unk =>
      rw [q] at hd
      cases e : F0 ds M with
      | unk => rw [e] at h; exact h.elim
      | ok _ _ => rw [e] at hd; obtain ⟨_, ⟨_, z⟩, _⟩ := hd; cases z
      | exc _ _ => rw [e] at hd; obtain ⟨_, ⟨_, z⟩, _⟩ := hd; cases z
end RF

/-! RFn: a def's own meaning, picked by what is asked of it; small facts about the list of objects. -/
namespace RF
open PySem PySem.Spec PyProof.Rows L2
open Classical in
/-- a run's end with what it leaves behind let go: a new objects are kept -/
noncomputable def tidy (a : Nat) (M : MH) (ds : List D) (r : RE D) : RE D := match r with
  | .ok d M' => if M.length + a ≤ M'.length ∧ (Cl M → bels M.length ds → d.bel (M.length + a) ∧ Cl (M'.take (M.length + a))) then .ok d (M'.take (M.length + a)) else .unk
  | .exc x M' => if M.length ≤ M'.length ∧ (Cl M → bels M.length ds → (∀ fs, x.pay = some fs → belF M.length fs) ∧ Cl (M'.take M.length)) then .exc x (M'.take M.length) else .unk
  | .unk => .unk
theorem tidy_drop {a : Nat} {M : MH} {ds : List D} {r : RE D} (c : Cl M) (b : bels M.length ds) : Drop M (tidy a M ds r) r := by
  unfold tidy
  cases r with
  | unk => trivial
  | ok d M' =>
    dsimp only
    split
    · rename_i h
      obtain ⟨h1, h2⟩ := h
      obtain ⟨h3, h4⟩ := h2 c b
      have hl : (M'.take (M.length + a)).length = M.length + a := by rw [List.length_take]; omega
      exact ⟨by rw [hl]; omega, ⟨M'.drop (M.length + a), by rw [List.take_append_drop]⟩, by rw [hl]; exact h3, h4⟩
    · trivial
  | exc x M' =>
    dsimp only
    split
    · rename_i h
      obtain ⟨h1, h2⟩ := h
      obtain ⟨h3, h4⟩ := h2 c b
      have hl : (M'.take M.length).length = M.length := by rw [List.length_take]; omega
      exact ⟨by rw [hl]; omega, ⟨M'.drop M.length, by rw [List.take_append_drop]⟩, by rw [hl]; exact h3, h4⟩
    · trivial
noncomputable def mean (a n : Nat) (body : Ss) (k : Nat) : FS := fun ds M => tidy a M ds (runF n body k ds M)
theorem mean_drop {a m : Nat} {body : Ss} {k : Nat} {ds : List D} {M : MH} (c : Cl M) (b : bels M.length ds) : ∃ n, Drop M (mean a m body k ds M) (runF n body k ds M) := ⟨m, tidy_drop c b⟩
theorem mean_ok {a n : Nat} {body : Ss} {k : Nat} {ds : List D} {M M' G : MH} {d : D} (e : runF n body k ds M = .ok d (M' ++ G)) (l : M'.length = M.length + a) (h : Cl M → bels M.length ds → d.bel M'.length ∧ Cl M') : mean a n body k ds M = .ok d M' := by
  unfold mean tidy
  rw [e]
  have q : (M' ++ G).take (M.length + a) = M' := by rw [← l, List.take_left]
  dsimp only
  rw [q, if_pos ⟨by rw [List.length_append]; omega, fun c b => by rw [← l]; exact h c b⟩]
theorem mean_p {n : Nat} {body : Ss} {k : Nat} {ds : List D} {M : MH} {d : D} (e : runF n body k ds M = .ok d M) (b : ∀ n, d.bel n) : mean 0 n body k ds M = .ok d M :=
  mean_ok (G := []) (by rw [List.append_nil]; exact e) rfl fun c _ => ⟨b _, c⟩
theorem mean_g {n : Nat} {body : Ss} {k : Nat} {ds : List D} {M G : MH} {d : D} (e : runF n body k ds M = .ok d (M ++ G)) (b : ∀ n, d.bel n) : mean 0 n body k ds M = .ok d M :=
  mean_ok e rfl fun c _ => ⟨b _, c⟩
theorem Drop.ok0 {M : MH} {d : D} {r : RE D} (c : Cl M) (b : d.bel M.length) (e : r = .ok d M) : Drop M (.ok d M) r := ⟨Nat.le_refl _, ⟨[], by rw [List.append_nil]; exact e⟩, b, c⟩
theorem Drop.okG {M : MH} {d : D} {r : RE D} (G : MH) (c : Cl M) (b : d.bel M.length) (e : r = .ok d (M ++ G)) : Drop M (.ok d M) r := ⟨Nat.le_refl _, ⟨G, e⟩, b, c⟩
theorem Drop.okM {M M' : MH} {d : D} {r : RE D} (G : MH) (l : M.length ≤ M'.length) (c : Cl M') (b : d.bel M'.length) (e : r = .ok d (M' ++ G)) : Drop M (.ok d M') r := ⟨l, ⟨G, e⟩, b, c⟩
mutual
theorem D.bel.mono {n m : Nat} (h : n ≤ m) : ∀ {d : D}, d.bel n → d.bel m
  | .non, q => by unfold D.bel; trivial
  | .bl _, q => by unfold D.bel; trivial
  | .int _, q => by unfold D.bel; trivial
  | .str _, q => by unfold D.bel; trivial
  | .tup xs, q => by unfold D.bel at q ⊢; exact bels.mono h q
  | .frl xs, q => by unfold D.bel at q ⊢; exact bels.mono h q
  | .loc i, q => by unfold D.bel at q ⊢; exact Nat.lt_of_lt_of_le q h
theorem bels.mono {n m : Nat} (h : n ≤ m) : ∀ {ds : List D}, bels n ds → bels m ds
  | [], q => by unfold bels; trivial
  | d :: ds, q => by unfold bels at q ⊢; exact ⟨D.bel.mono h q.1, bels.mono h q.2⟩
end
theorem belF.mono {n m : Nat} (h : n ≤ m) : ∀ {ds : List (Str × D)}, belF n ds → belF m ds
  | [], q => by unfold belF; trivial
  | (x, d) :: ds, q => by unfold belF at q ⊢; exact ⟨D.bel.mono h q.1, belF.mono h q.2⟩
theorem belK.mono {n m : Nat} (h : n ≤ m) : ∀ {ds : List (Int × D)}, belK n ds → belK m ds
  | [], q => by unfold belK; trivial
  | (x, d) :: ds, q => by unfold belK at q ⊢; exact ⟨D.bel.mono h q.1, belK.mono h q.2⟩
theorem MO.bel.mono {n m : Nat} (h : n ≤ m) {o : MO} (q : o.bel n) : o.bel m := by
  cases o with
  | lst xs => exact bels.mono h q
  | ins C fs => exact belF.mono h q
  | dct kvs => exact belK.mono h q
theorem Cl.set {M : MH} (c : Cl M) (n : Nat) {o : MO} (b : o.bel M.length) : Cl (M.set n o) := fun u hu => by
  rw [List.length_set]
  rcases List.mem_or_eq_of_mem_set hu with h | h
  · exact c u h
  · subst h; exact b
theorem Cl.push {M : MH} (c : Cl M) {o : MO} (b : o.bel (M.length + 1)) : Cl (M ++ [o]) := fun u hu => by
  rw [List.length_append, List.length_singleton]
  rcases List.mem_append.mp hu with h | h
  · exact (c u h).mono (Nat.le_succ _)
  · rw [List.mem_singleton] at h; subst h; exact b
theorem bels_iff {n : Nat} : ∀ {ds : List D}, bels n ds ↔ ∀ d ∈ ds, d.bel n
  | [] => by simp [bels]
  | d :: ds => by unfold bels; rw [bels_iff (ds := ds)]; simp
theorem at_lt {M : MH} {n : Nat} {o : MO} (h : M[n]? = some o) : n < M.length := (List.getElem?_eq_some_iff.mp h).1
theorem at_set {M : MH} {n : Nat} {o : MO} (h : M[n]? = some o) (u : MO) : (M.set n u)[n]? = some u := List.getElem?_set_self (at_lt h)
theorem at_set_ne {M : MH} {n m : Nat} {o : MO} (h : M[m]? = some o) (hn : n ≠ m) (u : MO) : (M.set n u)[m]? = some o := by rw [List.getElem?_set_ne hn]; exact h
theorem at_app {M G : MH} {n : Nat} {o : MO} (h : M[n]? = some o) : (M ++ G)[n]? = some o := by rw [List.getElem?_append_left (at_lt h)]; exact h
theorem at_new {M : MH} {o : MO} : (M ++ [o])[M.length]? = some o := by simp
theorem set_app {M G : MH} {n : Nat} (h : n < M.length) (u : MO) : (M ++ G).set n u = M.set n u ++ G := List.set_append_left n u h
theorem set_new {M : MH} {o u : MO} : (M ++ [o]).set M.length u = M ++ [u] := by simp
theorem set_set {M : MH} {n : Nat} {o u : MO} : (M.set n o).set n u = M.set n u := List.set_set _
theorem set_id {M : MH} {n : Nat} {o : MO} (h : M[n]? = some o) : M.set n o = M := by
  apply List.ext_getElem?
  intro i
  by_cases e : n = i
  · subst e; rw [at_set h, h]
  · rw [List.getElem?_set_ne e]

theorem atI_cons {a : D} {l : List D} {i : Int} : atI (a :: l) i = (ixN (l.length + 1) i).bind fun j => (a :: l)[j]? := rfl
theorem ixN_lit {n : Nat} {i : Int} : ixN (n + 1) i = if 0 ≤ i then (if i < (n + 1 : Nat) then some i.toNat else none) else if -((n + 1 : Nat) : Int) ≤ i then some (i + (n + 1 : Nat)).toNat else none := rfl
def gt (xs : List Int) (j : Nat) : Int := xs.getD j 0
theorem gt_mem {xs : List Int} {j : Nat} (h : j < xs.length) : gt xs j ∈ xs := by
  unfold gt
  rw [List.getD_eq_getElem?_getD, List.getElem?_eq_getElem h]
  exact List.getElem_mem h
theorem at_ints {xs : List Int} {j : Nat} (h : j < xs.length) : atI (xs.map D.int) (j : Int) = some (.int (gt xs j)) := by
  unfold gt
  refine atI_nat ?_
  rw [List.getElem?_map, List.getElem?_eq_getElem h, List.getD_eq_getElem?_getD, List.getElem?_eq_getElem h]
  rfl
theorem ix_ints {xs : List Int} {j : Nat} (h : j < xs.length) : ixN (xs.map D.int).length (j : Int) = some j := by
  rw [List.length_map]
  unfold ixN
  rw [if_pos (by omega), if_pos (by omega)]
  simp
theorem at_off {M G : MH} {k : Nat} : (M ++ G)[M.length + k]? = G[k]? := by rw [List.getElem?_append_right (by omega)]; congr 1; omega
theorem set_off {M G : MH} {k : Nat} {u : MO} : (M ++ G).set (M.length + k) u = M ++ G.set k u := by rw [List.set_append_right _ _ (by omega)]; congr 2; omega
theorem set_appS {M : MH} {n : Nat} (h : n < M.length) (u v : MO) (G : MH) : (M.set n u ++ G).set n v = M.set n v ++ G := by
  rw [List.set_append_left _ _ (by rw [List.length_set]; exact h), List.set_set]
theorem at_offS {M G : MH} {n : Nat} {u o : MO} : (M.set n u ++ o :: G)[M.length]? = some o := by
  rw [List.getElem?_append_right (by rw [List.length_set]; exact Nat.le_refl _), List.length_set, Nat.sub_self]
  rfl
theorem set_offS {M G : MH} {n : Nat} {u o v : MO} : (M.set n u ++ o :: G).set M.length v = M.set n u ++ v :: G := by
  rw [List.set_append_right _ _ (by rw [List.length_set]; exact Nat.le_refl _), List.length_set, Nat.sub_self]
  rfl
theorem okR_s {i : Int} (h1 : 0 ≤ i) (h2 : i ≤ 100000) : okR i := by unfold okR; omega
theorem set_ints {xs : List Int} {j : Nat} {v : Int} : (xs.map D.int).set j (.int v) = (xs.set j v).map D.int := by rw [List.map_set]
theorem szL : sizeLine = 16777216 := rfl
theorem max0 (x : Int) : (if x > 0 then x else 0) = max 0 x := by omega
/-- a loop over a list by an invariant: each turn goes on -/
theorem forLoop_inv {g : Gd} {tg : Tg} {body : Ev → MH → Fl} (P : Nat → Ev → MH → Prop) (xs : List D) (hg : ∀ i δ M, P i δ M → gdOk M g)
    (hs : ∀ i d δ M, xs[i]? = some d → P i δ M → ∃ δ' δ2 M2, bindTg tg d δ = some δ' ∧ (body δ' M = .nx δ2 M2 ∨ body δ' M = .ct δ2 M2) ∧ P (i + 1) δ2 M2) :
    ∀ (i : Nat) (δ : Ev) (M : MH), i ≤ xs.length → P i δ M → ∃ δ2 M2, forLoop g tg body (xs.drop i) δ M = .nx δ2 M2 ∧ P xs.length δ2 M2 := by
  intro i
  generalize hk : xs.length - i = k
  induction k generalizing i with
  | zero =>
    intro δ M hi h
    have e : i = xs.length := by omega
    subst e
    rw [List.drop_length]
    exact ⟨δ, M, by unfold forLoop; rw [if_pos (hg _ _ _ h)], h⟩
  | succ k ih =>
    intro δ M hi h
    have hl : i < xs.length := by omega
    rw [List.drop_eq_getElem_cons hl]
    obtain ⟨δ', δ2, M2, h1, h2, h3⟩ := hs i _ δ M (List.getElem?_eq_getElem hl) h
    obtain ⟨δ3, M3, h4, h5⟩ := ih (i + 1) (by omega) δ2 M2 (by omega) h3
    refine ⟨δ3, M3, ?_, h5⟩
    unfold forLoop
    rw [if_pos (hg _ _ _ h), h1]
    rcases h2 with h2 | h2 <;> (dsimp only; rw [h2]; exact h4)
/-- a loop that may end by a return at some turn -/
theorem forLoop_ret {g : Gd} {tg : Tg} {body : Ev → MH → Fl} (P : Nat → Ev → MH → Prop) (Rt : Fl → Prop) (xs : List D) (hg : ∀ i δ M, P i δ M → gdOk M g)
    (hs : ∀ i d δ M, xs[i]? = some d → P i δ M → ∃ δ', bindTg tg d δ = some δ' ∧ ((∃ δ2 M2, (body δ' M = .nx δ2 M2 ∨ body δ' M = .ct δ2 M2) ∧ P (i + 1) δ2 M2) ∨ ∃ v M2, body δ' M = .rt v M2 ∧ Rt (.rt v M2))) :
    ∀ (i : Nat) (δ : Ev) (M : MH), i ≤ xs.length → P i δ M → (∃ δ2 M2, forLoop g tg body (xs.drop i) δ M = .nx δ2 M2 ∧ P xs.length δ2 M2) ∨ (∃ v M2, forLoop g tg body (xs.drop i) δ M = .rt v M2 ∧ Rt (.rt v M2)) := by
  intro i
  generalize hk : xs.length - i = k
  induction k generalizing i with
  | zero =>
    intro δ M hi h
    have e : i = xs.length := by omega
    subst e
    rw [List.drop_length]
    exact .inl ⟨δ, M, by unfold forLoop; rw [if_pos (hg _ _ _ h)], h⟩
  | succ k ih =>
    intro δ M hi h
    have hl : i < xs.length := by omega
    rw [List.drop_eq_getElem_cons hl]
    obtain ⟨δ', h1, h2⟩ := hs i _ δ M (List.getElem?_eq_getElem hl) h
    rcases h2 with ⟨δ2, M2, h2, h3⟩ | ⟨v, M2, h2, h3⟩
    · rcases ih (i + 1) (by omega) δ2 M2 (by omega) h3 with ⟨δ3, M3, h4, h5⟩ | ⟨v, M3, h4, h5⟩
      · refine .inl ⟨δ3, M3, ?_, h5⟩
        unfold forLoop
        rw [if_pos (hg _ _ _ h), h1]
        rcases h2 with h2 | h2 <;> (dsimp only; rw [h2]; exact h4)
      · refine .inr ⟨v, M3, ?_, h5⟩
        unfold forLoop
        rw [if_pos (hg _ _ _ h), h1]
        rcases h2 with h2 | h2 <;> (dsimp only; rw [h2]; exact h4)
    · refine .inr ⟨v, M2, ?_, h3⟩
      unfold forLoop
      rw [if_pos (hg _ _ _ h), h1]
      dsimp only; rw [h2]
/-- a comprehension by an invariant on the objects: each turn gives one item -/
theorem lcLoop_inv {g : Gd} {f : D → MH → RE (Option D)} (P : Nat → List D → MH → Prop) (xs : List D) (hl : xs.length < sizeLine) (hg : ∀ i acc M, P i acc M → gdOk M g) (ha : ∀ i acc M, P i acc M → acc.length = i)
    (hs : ∀ i d acc M, xs[i]? = some d → P i acc M → ∃ y M2, f d M = .ok (some y) M2 ∧ P (i + 1) (acc ++ [y]) M2) :
    ∀ (i : Nat) (acc : List D) (M : MH), i ≤ xs.length → P i acc M → ∃ acc2 M2, lcLoop g f (xs.drop i) acc M = .ok acc2 M2 ∧ P xs.length acc2 M2 := by
  intro i
  generalize hk : xs.length - i = k
  induction k generalizing i with
  | zero =>
    intro acc M hi h
    have e : i = xs.length := by omega
    subst e
    rw [List.drop_length]
    exact ⟨acc, M, by unfold lcLoop; rw [if_pos (hg _ _ _ h)], h⟩
  | succ k ih =>
    intro acc M hi h
    have hl' : i < xs.length := by omega
    rw [List.drop_eq_getElem_cons hl']
    obtain ⟨y, M2, h1, h2⟩ := hs i _ acc M (List.getElem?_eq_getElem hl') h
    obtain ⟨acc3, M3, h4, h5⟩ := ih (i + 1) (by omega) _ M2 (by omega) h2
    refine ⟨acc3, M3, ?_, h5⟩
    unfold lcLoop
    rw [if_pos (hg _ _ _ h), h1]
    dsimp only
    rw [if_pos (by rw [ha _ _ _ h]; omega)]
    exact h4
theorem forLoop_inv0 {g : Gd} {tg : Tg} {body : Ev → MH → Fl} (P : Nat → Ev → MH → Prop) (xs : List D) {δ : Ev} {M : MH} (h0 : P 0 δ M) (hg : ∀ i δ M, P i δ M → gdOk M g)
    (hs : ∀ i d δ M, xs[i]? = some d → P i δ M → ∃ δ' δ2 M2, bindTg tg d δ = some δ' ∧ (body δ' M = .nx δ2 M2 ∨ body δ' M = .ct δ2 M2) ∧ P (i + 1) δ2 M2) :
    ∃ δ2 M2, forLoop g tg body xs δ M = .nx δ2 M2 ∧ P xs.length δ2 M2 := by
  have q := forLoop_inv P xs hg hs 0 δ M (Nat.zero_le _) h0
  rwa [List.drop_zero] at q
theorem forLoop_ret0 {g : Gd} {tg : Tg} {body : Ev → MH → Fl} (P : Nat → Ev → MH → Prop) (Rt : Fl → Prop) (xs : List D) {δ : Ev} {M : MH} (h0 : P 0 δ M) (hg : ∀ i δ M, P i δ M → gdOk M g)
    (hs : ∀ i d δ M, xs[i]? = some d → P i δ M → ∃ δ', bindTg tg d δ = some δ' ∧ ((∃ δ2 M2, (body δ' M = .nx δ2 M2 ∨ body δ' M = .ct δ2 M2) ∧ P (i + 1) δ2 M2) ∨ ∃ v M2, body δ' M = .rt v M2 ∧ Rt (.rt v M2))) :
    (∃ δ2 M2, forLoop g tg body xs δ M = .nx δ2 M2 ∧ P xs.length δ2 M2) ∨ (∃ v M2, forLoop g tg body xs δ M = .rt v M2 ∧ Rt (.rt v M2)) := by
  have q := forLoop_ret P Rt xs hg hs 0 δ M (Nat.zero_le _) h0
  rwa [List.drop_zero] at q
theorem lcLoop_inv0 {g : Gd} {f : D → MH → RE (Option D)} (P : Nat → List D → MH → Prop) (xs : List D) (hl : xs.length < sizeLine) {M : MH} (h0 : P 0 [] M) (hg : ∀ i acc M, P i acc M → gdOk M g) (ha : ∀ i acc M, P i acc M → acc.length = i)
    (hs : ∀ i d acc M, xs[i]? = some d → P i acc M → ∃ y M2, f d M = .ok (some y) M2 ∧ P (i + 1) (acc ++ [y]) M2) :
    ∃ acc2 M2, lcLoop g f xs [] M = .ok acc2 M2 ∧ P xs.length acc2 M2 := by
  have q := lcLoop_inv P xs hl hg ha hs 0 [] M (Nat.zero_le _) h0
  rwa [List.drop_zero] at q
theorem enumFrom_len : ∀ {xs : List D} {k : Nat}, (enumFrom k xs).length = xs.length
  | [], k => rfl
  | x :: xs, k => by show (enumFrom (k + 1) xs).length + 1 = xs.length + 1; rw [enumFrom_len]
theorem rngD_len {lo c : Int} {n : Nat} : (rngD lo c n).length = n := by simp [rngD]
end RF

/-! RFo: the end: from the top's facts to the law's promise. -/
namespace RF
open PySem PySem.Spec PyProof.Rows L2
section
variable {P : Program} {w : World} {K : PySem.W.Frag} {mg : Str → Option Value} {base : Heap} {cl : Cls0}
def spLaw (K : PySem.W.Frag) : Sp := fun vs H Q _ => ∃ (a : Addr) (ns : List Int), vs = [.ref a] ∧ SqF K H a (ns.map V.int) ∧ ns.length ≤ 63 ∧ ∀ H', Q (.bl true) H'
theorem law_end {k : Nat} {fa : Addr} {fd : FuncData} {x : Str} {F : FS} (h : FnOk P w K mg base (L2.CX P w) k fa fd [x] (spF K cl 1 F)) (hF : ∀ ns : List Int, ns.length ≤ 63 → F [.frl (ns.map D.int)] [] = .ok (.bl true) []) : FnOk P w K mg base (L2.CX P w) k fa fd [x] (spLaw K) :=
  h.imp fun vs H Q E ⟨a, ns, e, hS, hl, q⟩ => by
    subst e
    refine ⟨[.frl (ns.map D.int)], fun _ => 0, [], rfl, ⟨fun i j hi => absurd hi (by simp), fun i o h => by simp at h⟩, Reps.cons (by unfold Rep; exact ⟨a, _, rfl, hS, Reps.ints ns⟩) Reps.nil, ?_⟩
    rw [hF ns hl]
    exact fun v H' f' _ _ r => by
      have := r.bl
      subst this
      exact q H'
theorem only_seq {H : Hp} {a : Addr} {vs : List V} (o : Only H) (h : SqL K H a vs) : SqF K H a vs := by
  rcases h with (h | h) | h
  · rcases o a with q | ⟨u, xs, q⟩ <;> rw [h] at q <;> cases q
  · exact .inl h
  · exact .inr h
def ScA (P : SC → Prop) : List SC → Prop
  | [] => True
  | s :: r => P s ∧ ScA P r
theorem ScA.of {Q : SC → Prop} : ∀ {l : List SC}, ScA Q l → ∀ s ∈ l, Q s
  | [], _, s, hs => nomatch hs
  | x :: l, h, s, hs => by
    rcases List.mem_cons.mp hs with q | q
    · subst q; exact h.1
    · exact h.2.of s q
theorem ScA_append {Q : SC → Prop} : ∀ {l m : List SC}, ScA Q (l ++ m) ↔ ScA Q l ∧ ScA Q m
  | [], m => ⟨fun h => ⟨trivial, h⟩, fun h => h.2⟩
  | x :: l, m => by
    show Q x ∧ ScA Q (l ++ m) ↔ (Q x ∧ ScA Q l) ∧ ScA Q m
    rw [ScA_append, and_assoc]
/-- what the top has left of a def -/
structure DF (K : PySem.W.Frag) (mg : Str → Option Value) (x : Str) (st : Stmt) (ps : List Str) (f : Addr) (fd : FuncData) : Prop where
  fn : Fun K x x st f fd
  bd : Binds K fd ps []
  at_ : mg x = some (.ref f)
theorem sct_fn {x : Str} {st : Stmt} {ps : List Str} {f : Addr} {fd : FuncData} {k n : Nat} {F : FS} (d : DF K mg x st ps f fd) (hl : ps.length = n) (h : FnOk P w K mg base (L2.CX P w) k f fd ps (spF K cl n F)) : SCt P w K mg base cl k (.fn x n F) :=
  ⟨k, f, fd, ps, Nat.le_refl _, hl, h, d.at_, d.fn.kp, d.bd⟩
theorem sct_int {x : Str} {i : Int} {t : Tok} {k : Nat} (h : mg x = some (.int i t)) : SCt P w K mg base cl k (.cst x (.int i)) := ⟨_, V.int i, h, ⟨t, rfl⟩, fun _ _ _ => rep_int⟩
theorem kl_cons {Pm : Params} {e : DictEntry} {r : List DictEntry} {x : Str} {t : Tok} (h1 : e.key = .str x t) (h2 : e.hash = PyData.keyHash Pm x) (h : PySem.W.KeysLit Pm r) : PySem.W.KeysLit Pm (e :: r) := ⟨⟨x, t, h1, h2⟩, h⟩
theorem dg_int {e : DictEntry} {es : List DictEntry} {z : Str} {i : Int} {rr : List (Str × D)} {t t' : Tok} (h1 : e.key = .str z t) (h2 : e.val = .int i t') (h : DgE K es rr) : DgE K (e :: es) ((z, .int i) :: rr) := by
  unfold DgE
  exact ⟨z, _, rr, .int i, t, rfl, h1, ⟨t', h2⟩, fun _ _ _ => rep_int, h⟩
theorem dg_nil : DgE K [] [] := by unfold DgE; rfl
/-- a def that nobody has promised anything -/
theorem fn_none {x : Str} {st : Stmt} {ps N : List Str} {f : Addr} {fd : FuncData} {k n : Nat} (d : DF K mg x st ps f fd) (S : FnScope N ps (defScope st)) (hl : ps.length = n) : FnOk P w K mg base (L2.CX P w) (k + 1) f fd ps (spF K cl n fun _ _ => .unk) :=
  d.fn.okX S (fun vs H Q E h => by obtain ⟨ds, g, M, hl', _, r, _⟩ := h; rw [← r.length, hl', hl]) fun cdv A outer s H vs Q E hr h => by obtain ⟨_, _, _, _, _, _, h⟩ := h; exact h.elim
end
end RF

set_option maxHeartbeats 4000000
/-! k65: runs of code. -/
namespace K65
open PySem PySem.Spec PyProof.Rows L2 RF
def topS (i : Nat) : Stmt := PySem.Challenge.pw_kinkmeasure_k65_runs_of_code.main.body.getD i (.Pass ⟨0, 0, 0, 0⟩)
/-! ### numbers -/
def half (w : Int) : Int := 2 ^ (w - 1).toNat
theorem half_pos (w : Int) : 0 < half w := Int.pow_pos (by decide)
theorem half_le {w : Int} (h : w ≤ 200) : half w ≤ 2 ^ 199 := by
  unfold half
  have : (w - 1).toNat ≤ 199 := by omega
  exact_mod_cast Nat.pow_le_pow_right (by decide : 0 < 2) this
theorem okMul_r (i : Int) {j : Int} (h1 : -(2 ^ 64) < j) (h2 : j < 2 ^ 64) : okMul i j := .inr (.inl ⟨h1, h2⟩)
theorem log_lt {n k : Nat} (h : n < 2 ^ k) (hk : 0 < k) : n.log2 < k := by
  by_cases e : n = 0
  · subst e; simpa using hk
  · exact (Nat.log2_lt e).mpr h
theorem okMul_b {i j : Int} (h1 : -(2 ^ 200) < i) (h2 : i < 2 ^ 200) (h3 : -(2 ^ 200) < j) (h4 : j < 2 ^ 200) : okMul i j := by
  have a := log_lt (n := i.natAbs) (k := 200) (by omega) (by decide)
  have b := log_lt (n := j.natAbs) (k := 200) (by omega) (by decide)
  exact .inr (.inr (by omega))
theorem okDiv_b {j : Int} (h1 : 0 < j) (h2 : j < 2 ^ 210) : okDiv j := ⟨h1, by
  have a := log_lt (n := j.natAbs) (k := 210) (by omega) (by decide)
  omega⟩
theorem okPow_1 {j : Int} (h1 : 0 ≤ j) (h2 : j ≤ 1000) : okPow 1 j := ⟨h1, by omega, by decide⟩
/-! ### small defs -/
/-! is_integer, slots 0 value -/
abbrev st_is_integer : Stmt := topS 4
theorem sn_is_integer : FnScope ["value"] ["value"] (defScope st_is_integer) := ⟨rfl, rfl, rfl, by decide +kernel, rfl, by decide +kernel, by decide +kernel⟩
noncomputable def b_is_integer : Ss := (.cons (.ret (.and (.cons (.isI "int" (.loc 0)) (.cons (.not (.isI "bool" (.loc 0))) .nil)))) .nil)
theorem ck_is_integer : chkSs ["value"] (defScope st_is_integer) none true b_is_integer (defBody st_is_integer) = true := by decide +kernel
noncomputable def F_is_integer : FS := mean 0 0 b_is_integer 1
theorem dr_is_integer {ds : List D} {M : MH} (c : Cl M) (b : bels M.length ds) : ∃ n, Drop M (F_is_integer ds M) (runF n b_is_integer 1 ds M) := mean_drop (a := 0) (m := 0) (body := b_is_integer) (k := 1) c b
theorem e_is_integer (i : Int) (M : MH) : F_is_integer [.int i] M = .ok (.bl true) M := by
  refine mean_p ?_ fun _ => by simp [D.bel]
  simp [b_is_integer, runF, exSs, exS, evE, evEs, evAnd, evOr, evEo, evC, evIt, evT, thT, RE.bind, RE.fl, Fl.then, binD, cmpD, augD, idxD, slcD, Bi.sem, Bi.semL, isD, truth, fldD, setFldD, putFD, setIdxD, appD, getD, seqOf, bindTg, wipeD, D.isNon, List.replicate, List.getElem?_cons_zero, List.getElem?_cons_succ, List.set_cons_zero, List.set_cons_succ, List.map_cons, List.map_nil, List.length_cons, List.length_nil, atI_cons, ixN_lit, set_app, set_set, List.append_assoc, List.cons_append, List.nil_append, List.lookup_cons, szL]
/-! power_of_two, slots 0 exponent -/
abbrev st_power_of_two : Stmt := topS 11
theorem sn_power_of_two : FnScope ["exponent"] ["exponent"] (defScope st_power_of_two) := ⟨rfl, rfl, rfl, by decide +kernel, rfl, by decide +kernel, by decide +kernel⟩
noncomputable def b_power_of_two : Ss := (.cons (.ret (.bin .LShift (.int 1) (.loc 0))) .nil)
theorem ck_power_of_two : chkSs ["exponent"] (defScope st_power_of_two) none true b_power_of_two (defBody st_power_of_two) = true := by decide +kernel
noncomputable def F_power_of_two : FS := mean 0 0 b_power_of_two 1
theorem dr_power_of_two {ds : List D} {M : MH} (c : Cl M) (b : bels M.length ds) : ∃ n, Drop M (F_power_of_two ds M) (runF n b_power_of_two 1 ds M) := mean_drop (a := 0) (m := 0) (body := b_power_of_two) (k := 1) c b
theorem e_power_of_two {j : Int} (M : MH) (h1 : 0 ≤ j) (h2 : j ≤ 1000) : F_power_of_two [.int j] M = .ok (.int (2 ^ j.toNat)) M := by
  refine mean_p ?_ fun _ => by simp [D.bel]
  simp [b_power_of_two, runF, exSs, exS, evE, evEs, evAnd, evOr, evEo, evC, evIt, evT, thT, RE.bind, RE.fl, Fl.then, binD, cmpD, augD, idxD, slcD, Bi.sem, Bi.semL, isD, truth, fldD, setFldD, putFD, setIdxD, appD, getD, seqOf, bindTg, wipeD, D.isNon, List.replicate, List.getElem?_cons_zero, List.getElem?_cons_succ, List.set_cons_zero, List.set_cons_succ, List.map_cons, List.map_nil, List.length_cons, List.length_nil, atI_cons, ixN_lit, set_app, set_set, List.append_assoc, List.cons_append, List.nil_append, List.lookup_cons, szL, okPow_1 h1 h2]
/-! fits, slots 0 width, 1 value, 2 half -/
abbrev st_fits : Stmt := topS 12
theorem sn_fits : FnScope ["width", "value", "half"] ["width", "value"] (defScope st_fits) := ⟨rfl, rfl, rfl, by decide +kernel, rfl, by decide +kernel, by decide +kernel⟩
noncomputable def b_fits : Ss := (.cons (.set 2 (.call "power_of_two" F_power_of_two (.cons (.bin .Sub (.loc 0) (.int 1)) .nil))) (.cons (.ret (.cmp2 .LtE .Lt (.neg (.loc 2)) (.loc 1) (.loc 2))) .nil))
theorem ck_fits : chkSs ["width", "value", "half"] (defScope st_fits) none true b_fits (defBody st_fits) = true := by decide +kernel
noncomputable def F_fits : FS := mean 0 0 b_fits 3
theorem dr_fits {ds : List D} {M : MH} (c : Cl M) (b : bels M.length ds) : ∃ n, Drop M (F_fits ds M) (runF n b_fits 3 ds M) := mean_drop (a := 0) (m := 0) (body := b_fits) (k := 3) c b
theorem e_fits {w : Int} (v : Int) (M : MH) (h1 : 2 ≤ w) (h2 : w ≤ 200) : F_fits [.int w, .int v] M = .ok (.bl (decide (-half w ≤ v ∧ v < half w))) M := by
  refine mean_p ?_ fun _ => by simp [D.bel]
  have e : F_power_of_two [.int (w - 1)] M = .ok (.int (half w)) M := e_power_of_two (j := w - 1) M (by omega) (by omega)
  by_cases q : -half w ≤ v
  · simp [b_fits, runF, exSs, exS, evE, evEs, evAnd, evOr, evEo, evC, evIt, evT, thT, RE.bind, RE.fl, Fl.then, binD, cmpD, augD, idxD, slcD, Bi.sem, Bi.semL, isD, truth, fldD, setFldD, putFD, setIdxD, appD, getD, seqOf, bindTg, wipeD, D.isNon, List.replicate, List.getElem?_cons_zero, List.getElem?_cons_succ, List.set_cons_zero, List.set_cons_succ, List.map_cons, List.map_nil, List.length_cons, List.length_nil, atI_cons, ixN_lit, set_app, set_set, List.append_assoc, List.cons_append, List.nil_append, List.lookup_cons, szL, e, q]
  · simp [b_fits, runF, exSs, exS, evE, evEs, evAnd, evOr, evEo, evC, evIt, evT, thT, RE.bind, RE.fl, Fl.then, binD, cmpD, augD, idxD, slcD, Bi.sem, Bi.semL, isD, truth, fldD, setFldD, putFD, setIdxD, appD, getD, seqOf, bindTg, wipeD, D.isNon, List.replicate, List.getElem?_cons_zero, List.getElem?_cons_succ, List.set_cons_zero, List.set_cons_succ, List.map_cons, List.map_nil, List.length_cons, List.length_nil, atI_cons, ixN_lit, set_app, set_set, List.append_assoc, List.cons_append, List.nil_append, List.lookup_cons, szL, e, q]
/-! is_index, slots 0 value, 1 count -/
abbrev st_is_index : Stmt := topS 13
theorem sn_is_index : FnScope ["value", "count"] ["value", "count"] (defScope st_is_index) := ⟨rfl, rfl, rfl, by decide +kernel, rfl, by decide +kernel, by decide +kernel⟩
noncomputable def b_is_index : Ss := (.cons (.ret (.and (.cons (.call "is_integer" F_is_integer (.cons (.loc 0) .nil)) (.cons (.cmp2 .LtE .Lt (.int 0) (.loc 0) (.loc 1)) .nil)))) .nil)
theorem ck_is_index : chkSs ["value", "count"] (defScope st_is_index) none true b_is_index (defBody st_is_index) = true := by decide +kernel
noncomputable def F_is_index : FS := mean 0 0 b_is_index 2
theorem dr_is_index {ds : List D} {M : MH} (c : Cl M) (b : bels M.length ds) : ∃ n, Drop M (F_is_index ds M) (runF n b_is_index 2 ds M) := mean_drop (a := 0) (m := 0) (body := b_is_index) (k := 2) c b
theorem e_is_index (i n : Int) (M : MH) : F_is_index [.int i, .int n] M = .ok (.bl (decide (0 ≤ i ∧ i < n))) M := by
  refine mean_p ?_ fun _ => by simp [D.bel]
  simp only [b_is_index, runF, exSs, exS, evE, evEs, evAnd, evOr, evEo, evC, evIt, evT, thT, RE.bind, RE.fl, Fl.then, binD, cmpD, augD, idxD, slcD, Bi.sem, Bi.semL, isD, truth, fldD, setFldD, putFD, setIdxD, appD, getD, seqOf, bindTg, wipeD, D.isNon, List.replicate, List.getElem?_cons_zero, List.getElem?_cons_succ, List.set_cons_zero, List.set_cons_succ, List.map_cons, List.map_nil, List.length_cons, List.length_nil, atI_cons, ixN_lit, set_app, set_set, List.append_assoc, List.cons_append, List.nil_append, List.lookup_cons, szL]
  by_cases q : 0 ≤ i
  · simp [e_is_integer, q, runF, exSs, exS, evE, evEs, evAnd, evOr, evEo, evC, evIt, evT, thT, RE.bind, RE.fl, Fl.then, binD, cmpD, augD, idxD, slcD, Bi.sem, Bi.semL, isD, truth, fldD, setFldD, putFD, setIdxD, appD, getD, seqOf, bindTg, wipeD, D.isNon, List.replicate, List.getElem?_cons_zero, List.getElem?_cons_succ, List.set_cons_zero, List.set_cons_succ, List.map_cons, List.map_nil, List.length_cons, List.length_nil, atI_cons, ixN_lit, set_app, set_set, List.append_assoc, List.cons_append, List.nil_append, List.lookup_cons, szL]
  · simp [e_is_integer, q, runF, exSs, exS, evE, evEs, evAnd, evOr, evEo, evC, evIt, evT, thT, RE.bind, RE.fl, Fl.then, binD, cmpD, augD, idxD, slcD, Bi.sem, Bi.semL, isD, truth, fldD, setFldD, putFD, setIdxD, appD, getD, seqOf, bindTg, wipeD, D.isNon, List.replicate, List.getElem?_cons_zero, List.getElem?_cons_succ, List.set_cons_zero, List.set_cons_succ, List.map_cons, List.map_nil, List.length_cons, List.length_nil, atI_cons, ixN_lit, set_app, set_set, List.append_assoc, List.cons_append, List.nil_append, List.lookup_cons, szL]
/-! ### rows -/
inductive Row where
  | load (r i : Nat)
  | set (r : Nat) (v : Int)
  | times (r s : Nat) (v : Int)
  | add (r s : Nat)
  | bend (r : Nat)
  | give (r : Nat)
def Row.d : Row → D
  | .load r i => .tup [.str "load", .int r, .int i]
  | .set r v => .tup [.str "set", .int r, .int v]
  | .times r s v => .tup [.str "times", .int r, .int s, .int v]
  | .add r s => .tup [.str "add", .int r, .int s]
  | .bend r => .tup [.str "bend", .int r]
  | .give r => .tup [.str "give", .int r]
def Row.ok (w : Int) (ins regs : Nat) : Row → Prop
  | .load r i => r < regs ∧ i < ins
  | .set r v => r < regs ∧ -half w ≤ v ∧ v < half w
  | .times r s v => r < regs ∧ s < regs ∧ -half w ≤ v ∧ v < half w
  | .add r s => r < regs ∧ s < regs
  | .bend r => r < regs
  | .give r => r < regs
def codeF (w : Int) (ins regs : Nat) (rows : List Row) : List (Str × D) := [("width", .int w), ("inputs", .int ins), ("registers", .int regs), ("instructions", .tup (rows.map Row.d))]
theorem bel_row (n : Nat) (r : Row) : r.d.bel n := by cases r <;> simp [Row.d, D.bel, bels]
theorem ks_ne : ¬ (("load" : Str) = "set") ∧ ¬ (("load" : Str) = "times") ∧ ¬ (("load" : Str) = "add") ∧ ¬ (("load" : Str) = "bend") ∧ ¬ (("load" : Str) = "give") ∧ ¬ (("set" : Str) = "load") ∧ ¬ (("set" : Str) = "times") ∧ ¬ (("set" : Str) = "add") ∧ ¬ (("set" : Str) = "bend") ∧ ¬ (("set" : Str) = "give") ∧ ¬ (("times" : Str) = "load") ∧ ¬ (("times" : Str) = "set") ∧ ¬ (("times" : Str) = "add") ∧ ¬ (("times" : Str) = "bend") ∧ ¬ (("times" : Str) = "give") ∧ ¬ (("add" : Str) = "load") ∧ ¬ (("add" : Str) = "set") ∧ ¬ (("add" : Str) = "times") ∧ ¬ (("add" : Str) = "bend") ∧ ¬ (("add" : Str) = "give") ∧ ¬ (("bend" : Str) = "load") ∧ ¬ (("bend" : Str) = "set") ∧ ¬ (("bend" : Str) = "times") ∧ ¬ (("bend" : Str) = "add") ∧ ¬ (("bend" : Str) = "give") ∧ ¬ (("give" : Str) = "load") ∧ ¬ (("give" : Str) = "set") ∧ ¬ (("give" : Str) = "times") ∧ ¬ (("give" : Str) = "add") ∧ ¬ (("give" : Str) = "bend") := by decide +kernel
theorem ks_bq : (("load" : Str) == "set") = false ∧ (("load" : Str) == "times") = false ∧ (("load" : Str) == "add") = false ∧ (("load" : Str) == "bend") = false ∧ (("load" : Str) == "give") = false ∧ (("set" : Str) == "load") = false ∧ (("set" : Str) == "times") = false ∧ (("set" : Str) == "add") = false ∧ (("set" : Str) == "bend") = false ∧ (("set" : Str) == "give") = false ∧ (("times" : Str) == "load") = false ∧ (("times" : Str) == "set") = false ∧ (("times" : Str) == "add") = false ∧ (("times" : Str) == "bend") = false ∧ (("times" : Str) == "give") = false ∧ (("add" : Str) == "load") = false ∧ (("add" : Str) == "set") = false ∧ (("add" : Str) == "times") = false ∧ (("add" : Str) == "bend") = false ∧ (("add" : Str) == "give") = false ∧ (("bend" : Str) == "load") = false ∧ (("bend" : Str) == "set") = false ∧ (("bend" : Str) == "times") = false ∧ (("bend" : Str) == "add") = false ∧ (("bend" : Str) == "give") = false ∧ (("give" : Str) == "load") = false ∧ (("give" : Str) == "set") = false ∧ (("give" : Str) == "times") = false ∧ (("give" : Str) == "add") = false ∧ (("give" : Str) == "bend") = false := by decide +kernel
theorem kf_ne : ¬ (("width" : Str) = "inputs") ∧ ¬ (("width" : Str) = "registers") ∧ ¬ (("width" : Str) = "instructions") ∧ ¬ (("inputs" : Str) = "width") ∧ ¬ (("inputs" : Str) = "registers") ∧ ¬ (("inputs" : Str) = "instructions") ∧ ¬ (("registers" : Str) = "width") ∧ ¬ (("registers" : Str) = "inputs") ∧ ¬ (("registers" : Str) = "instructions") ∧ ¬ (("instructions" : Str) = "width") ∧ ¬ (("instructions" : Str) = "inputs") ∧ ¬ (("instructions" : Str) = "registers") := by decide +kernel
theorem kf_bq : (("width" : Str) == "inputs") = false ∧ (("width" : Str) == "registers") = false ∧ (("width" : Str) == "instructions") = false ∧ (("inputs" : Str) == "width") = false ∧ (("inputs" : Str) == "registers") = false ∧ (("inputs" : Str) == "instructions") = false ∧ (("registers" : Str) == "width") = false ∧ (("registers" : Str) == "inputs") = false ∧ (("registers" : Str) == "instructions") = false ∧ (("instructions" : Str) == "width") = false ∧ (("instructions" : Str) == "inputs") = false ∧ (("instructions" : Str) == "registers") = false := by decide +kernel
/-! is_instruction, slots 0 code, 1 row -/
abbrev st_is_instruction : Stmt := topS 14
theorem sn_is_instruction : FnScope ["code", "row"] ["code", "row"] (defScope st_is_instruction) := ⟨rfl, rfl, rfl, by decide +kernel, rfl, by decide +kernel, by decide +kernel⟩
noncomputable def b_is_instruction : Ss := (.cons (.ite (.or (.cons (.not (.isI "tuple" (.loc 1))) (.cons (.cmp .Lt (.bi .len (.cons (.loc 1) .nil)) (.int 2)) (.cons (.not (.isI "str" (.idx (.loc 1) (.int 0)))) (.cons (.cmp .NotEq (.get "SIZES" (.idx (.loc 1) (.int 0)) [("load", (D.int (3))), ("set", (D.int (3))), ("times", (D.int (4))), ("add", (D.int (3))), ("bend", (D.int (2))), ("give", (D.int (2)))]) (.bi .len (.cons (.loc 1) .nil))) .nil))))) (.cons (.ret (.bl false)) .nil) .nil) (.cons (.ite (.not (.call "is_index" F_is_index (.cons (.idx (.loc 1) (.int 1)) (.cons (.fld (.loc 0) "Code" "registers") .nil)))) (.cons (.ret (.bl false)) .nil) .nil) (.cons (.ite (.cmp .Eq (.idx (.loc 1) (.int 0)) (.str "load")) (.cons (.ret (.call "is_index" F_is_index (.cons (.idx (.loc 1) (.int 2)) (.cons (.fld (.loc 0) "Code" "inputs") .nil)))) .nil) .nil) (.cons (.ite (.cmp .Eq (.idx (.loc 1) (.int 0)) (.str "set")) (.cons (.ret (.and (.cons (.call "is_integer" F_is_integer (.cons (.idx (.loc 1) (.int 2)) .nil)) (.cons (.call "fits" F_fits (.cons (.fld (.loc 0) "Code" "width") (.cons (.idx (.loc 1) (.int 2)) .nil))) .nil)))) .nil) .nil) (.cons (.ite (.cmp .Eq (.idx (.loc 1) (.int 0)) (.str "times")) (.cons (.ret (.and (.cons (.call "is_index" F_is_index (.cons (.idx (.loc 1) (.int 2)) (.cons (.fld (.loc 0) "Code" "registers") .nil))) (.cons (.call "is_integer" F_is_integer (.cons (.idx (.loc 1) (.int 3)) .nil)) (.cons (.call "fits" F_fits (.cons (.fld (.loc 0) "Code" "width") (.cons (.idx (.loc 1) (.int 3)) .nil))) .nil))))) .nil) .nil) (.cons (.ite (.cmp .Eq (.idx (.loc 1) (.int 0)) (.str "add")) (.cons (.ret (.call "is_index" F_is_index (.cons (.idx (.loc 1) (.int 2)) (.cons (.fld (.loc 0) "Code" "registers") .nil)))) .nil) .nil) (.cons (.ret (.bl true)) .nil)))))))
theorem ck_is_instruction : chkSs ["code", "row"] (defScope st_is_instruction) none true b_is_instruction (defBody st_is_instruction) = true := by decide +kernel
noncomputable def F_is_instruction : FS := mean 0 0 b_is_instruction 2
theorem dr_is_instruction {ds : List D} {M : MH} (c : Cl M) (b : bels M.length ds) : ∃ n, Drop M (F_is_instruction ds M) (runF n b_is_instruction 2 ds M) := mean_drop (a := 0) (m := 0) (body := b_is_instruction) (k := 2) c b
theorem e_is_instruction {c : Nat} {w : Int} {ins regs : Nat} {rows : List Row} {row : Row} {M : MH} (h1 : 2 ≤ w) (h2 : w ≤ 200) (hM : M[c]? = some (.ins "Code" (codeF w ins regs rows))) (ok : Row.ok w ins regs row) : F_is_instruction [.loc c, row.d] M = .ok (.bl true) M := by
  refine mean_p ?_ fun _ => by simp [D.bel]
  cases row <;> simp only [Row.ok] at ok <;> simp [b_is_instruction, runF, exSs, exS, evE, evEs, evAnd, evOr, evEo, evC, evIt, evT, thT, RE.bind, RE.fl, Fl.then, binD, cmpD, augD, idxD, slcD, Bi.sem, Bi.semL, isD, truth, fldD, setFldD, putFD, setIdxD, appD, getD, seqOf, bindTg, wipeD, D.isNon, List.replicate, List.getElem?_cons_zero, List.getElem?_cons_succ, List.set_cons_zero, List.set_cons_succ, List.map_cons, List.map_nil, List.length_cons, List.length_nil, atI_cons, ixN_lit, set_app, set_set, List.append_assoc, List.cons_append, List.nil_append, List.lookup_cons, szL, Row.d, hM, codeF, ks_ne, ks_bq, kf_bq, e_is_index, e_is_integer, e_fits _ _ h1 h2, ok]
/-! ### the machine -/
def resV (rs is : List Int) : Row → Int
  | .load _ i => gt is i
  | .set _ v => v
  | .times _ s v => v * gt rs s
  | .add r s => gt rs r + gt rs s
  | .bend r => max 0 (gt rs r)
  | .give _ => 0
def Row.reg : Row → Nat
  | .load r _ => r
  | .set r _ => r
  | .times r _ _ => r
  | .add r _ => r
  | .bend r => r
  | .give r => r
def Row.isGive : Row → Bool
  | .give _ => true
  | _ => false
/-- the state: registers, outputs; or the place of an overflow -/
def stepR (w : Int) (is : List Int) (r : Row) (rs os : List Int) : Option (List Int × List Int) :=
  if r.isGive then some (rs, os ++ [gt rs r.reg]) else
    if -half w ≤ resV rs is r ∧ resV rs is r < half w then some (rs.set r.reg (resV rs is r), os) else none
def runR (w : Int) (is : List Int) : List Row → Nat → List Int → List Int → D
  | [], _, _, os => .tup [.str "done", .tup (os.map D.int)]
  | r :: rows, k, rs, os => match stepR w is r rs os with
    | some (rs', os') => runR w is rows (k + 1) rs' os'
    | none => .tup [.str "overflow", .int k]
/-! check_code, slots 0 code, 1 value, 2 place, 3 row -/
abbrev st_check_code : Stmt := topS 15
theorem sn_check_code : FnScope ["code", "value", "place", "row"] ["code"] (defScope st_check_code) := ⟨rfl, rfl, rfl, by decide +kernel, rfl, by decide +kernel, by decide +kernel⟩
noncomputable def lb_check_code_1 : Ss := (.cons (.ite (.or (.cons (.not (.call "is_integer" F_is_integer (.cons (.loc 1) .nil))) (.cons (.cmp .Lt (.loc 1) (.int 1)) (.cons (.cmp .Gt (.loc 1) (.glob "MOST_REGISTERS" (D.int (10000)))) .nil)))) (.cons .wall .nil) .nil) .nil)
noncomputable def lb_check_code_2 : Ss := (.cons (.ite (.not (.call "is_instruction" F_is_instruction (.cons (.loc 0) (.cons (.loc 3) .nil)))) (.cons .wall .nil) .nil) .nil)
noncomputable def b_check_code : Ss := (.cons (.ite (.or (.cons (.not (.call "is_integer" F_is_integer (.cons (.fld (.loc 0) "Code" "width") .nil))) (.cons (.cmp .Lt (.fld (.loc 0) "Code" "width") (.glob "LEAST_WIDTH" (D.int (2)))) (.cons (.cmp .Gt (.fld (.loc 0) "Code" "width") (.glob "MOST_WIDTH" (D.int (200)))) .nil)))) (.cons .wall .nil) .nil) (.cons (.for (.nm 1) (.seq (.tup (.cons (.fld (.loc 0) "Code" "inputs") (.cons (.fld (.loc 0) "Code" "registers") .nil)))) lb_check_code_1) (.cons (.ite (.not (.isI "tuple" (.fld (.loc 0) "Code" "instructions"))) (.cons .wall .nil) .nil) (.cons (.for (.tup [2, 3]) (.enum (.fld (.loc 0) "Code" "instructions")) lb_check_code_2) .nil))))
theorem ck_check_code : chkSs ["code", "value", "place", "row"] (defScope st_check_code) none true b_check_code (defBody st_check_code) = true := by decide +kernel
noncomputable def F_check_code : FS := mean 0 0 b_check_code 4
theorem dr_check_code {ds : List D} {M : MH} (c : Cl M) (b : bels M.length ds) : ∃ n, Drop M (F_check_code ds M) (runF n b_check_code 4 ds M) := mean_drop (a := 0) (m := 0) (body := b_check_code) (k := 4) c b
theorem e_check_code {c : Nat} {w : Int} {ins regs : Nat} {rows : List Row} {M : MH} (h1 : 2 ≤ w) (h2 : w ≤ 200) (i1 : 1 ≤ ins) (i2 : ins ≤ 10000) (r1 : 1 ≤ regs) (r2 : regs ≤ 10000) (hM : M[c]? = some (.ins "Code" (codeF w ins regs rows))) (ok : ∀ row ∈ rows, Row.ok w ins regs row) : F_check_code [.loc c] M = .ok .non M := by
  refine mean_p ?_ fun _ => by simp [D.bel]
  obtain ⟨δ2, _, hl, rfl, a, b', rfl⟩ := forLoop_inv0 (g := []) (tg := .tup [2, 3]) (body := exSs 0 lb_check_code_2) (fun i δ M' => M' = M ∧ ∃ a b, δ = [some (.loc c), some (.int regs), a, b]) (enumFrom 0 (rows.map Row.d)) (δ := [some (.loc c), some (.int regs), none, none]) (M := M) ⟨rfl, _, _, rfl⟩ (fun _ _ _ _ => trivial) (by
    rintro i d δ M' hd ⟨rfl, a, b', rfl⟩
    obtain ⟨e, he, rfl⟩ := enum_get hd
    rw [List.getElem?_map] at he
    cases q : rows[i]? with
    | none => rw [q] at he; cases he
    | some row =>
      rw [q] at he; cases he
      have okr := ok row (List.mem_of_getElem? q)
      refine ⟨[some (.loc c), some (.int regs), some (.int ((0 + i : Nat) : Int)), some row.d], [some (.loc c), some (.int regs), some (.int ((0 + i : Nat) : Int)), some row.d], M', rfl, .inl ?_, rfl, _, _, rfl⟩
      simp [lb_check_code_2, runF, exSs, exS, evE, evEs, evAnd, evOr, evEo, evC, evIt, evT, thT, RE.bind, RE.fl, Fl.then, binD, cmpD, augD, idxD, slcD, Bi.sem, Bi.semL, isD, truth, fldD, setFldD, putFD, setIdxD, appD, getD, seqOf, bindTg, wipeD, D.isNon, List.replicate, List.getElem?_cons_zero, List.getElem?_cons_succ, List.set_cons_zero, List.set_cons_succ, List.map_cons, List.map_nil, List.length_cons, List.length_nil, atI_cons, ixN_lit, set_app, set_set, List.append_assoc, List.cons_append, List.nil_append, List.lookup_cons, szL, e_is_instruction h1 h2 hM okr])
  have a1 : ¬ (ins : Int) < 1 := by omega
  have a2 : ¬ (10000 : Int) < ins := by omega
  have a3 : ¬ (regs : Int) < 1 := by omega
  have a4 : ¬ (10000 : Int) < regs := by omega
  have a5 : ¬ (w : Int) < 2 := by omega
  have a6 : ¬ (200 : Int) < w := by omega
  simp [b_check_code, lb_check_code_1, runF, exSs, exS, evE, evEs, evAnd, evOr, evEo, evC, evIt, evT, thT, RE.bind, RE.fl, Fl.then, binD, cmpD, augD, idxD, slcD, Bi.sem, Bi.semL, isD, truth, fldD, setFldD, putFD, setIdxD, appD, getD, seqOf, bindTg, wipeD, D.isNon, List.replicate, List.getElem?_cons_zero, List.getElem?_cons_succ, List.set_cons_zero, List.set_cons_succ, List.map_cons, List.map_nil, List.length_cons, List.length_nil, atI_cons, ixN_lit, set_app, set_set, List.append_assoc, List.cons_append, List.nil_append, List.lookup_cons, szL, hM, codeF, kf_bq, e_is_integer, forLoop, gdOk, hl, a1, a2, a3, a4, a5, a6]
/-! ### the program's machine -/
def InOf (M : MH) (d : D) (is : List Int) : Prop := d = .tup (is.map D.int) ∨ ∃ n, d = .loc n ∧ M[n]? = some (.lst (is.map D.int))
def BD (rs : List Int) : Prop := ∀ x ∈ rs, -(2 ^ 200) < x ∧ x < 2 ^ 200
/-! result_of, slots 0 row, 1 registers, 2 inputs -/
abbrev st_result_of : Stmt := topS 16
theorem sn_result_of : FnScope ["row", "registers", "inputs"] ["row", "registers", "inputs"] (defScope st_result_of) := ⟨rfl, rfl, rfl, by decide +kernel, rfl, by decide +kernel, by decide +kernel⟩
noncomputable def b_result_of : Ss := (.cons (.ite (.cmp .Eq (.idx (.loc 0) (.int 0)) (.str "load")) (.cons (.ret (.idx (.loc 2) (.idx (.loc 0) (.int 2)))) .nil) .nil) (.cons (.ite (.cmp .Eq (.idx (.loc 0) (.int 0)) (.str "set")) (.cons (.ret (.idx (.loc 0) (.int 2))) .nil) .nil) (.cons (.ite (.cmp .Eq (.idx (.loc 0) (.int 0)) (.str "times")) (.cons (.ret (.bin .Mult (.idx (.loc 0) (.int 3)) (.idx (.loc 1) (.idx (.loc 0) (.int 2))))) .nil) .nil) (.cons (.ite (.cmp .Eq (.idx (.loc 0) (.int 0)) (.str "add")) (.cons (.ret (.bin .Add (.idx (.loc 1) (.idx (.loc 0) (.int 1))) (.idx (.loc 1) (.idx (.loc 0) (.int 2))))) .nil) .nil) (.cons (.ret (.bi .max (.cons (.int 0) (.cons (.idx (.loc 1) (.idx (.loc 0) (.int 1))) .nil)))) .nil)))))
theorem ck_result_of : chkSs ["row", "registers", "inputs"] (defScope st_result_of) none true b_result_of (defBody st_result_of) = true := by decide +kernel
noncomputable def F_result_of : FS := mean 0 0 b_result_of 3
theorem dr_result_of {ds : List D} {M : MH} (c : Cl M) (b : bels M.length ds) : ∃ n, Drop M (F_result_of ds M) (runF n b_result_of 3 ds M) := mean_drop (a := 0) (m := 0) (body := b_result_of) (k := 3) c b
theorem e_result_of {row : Row} {w : Int} {ins regs rn : Nat} {rs is : List Int} {d : D} {M : MH} (hw : w ≤ 200) (ok : Row.ok w ins regs row) (ng : row.isGive = false) (hM : M[rn]? = some (.lst (rs.map D.int))) (hl : rs.length = regs) (bd : BD rs) (hi : InOf M d is) (hil : is.length = ins) : F_result_of [row.d, .loc rn, d] M = .ok (.int (resV rs is row)) M := by
  have hh := half_le hw
  have hr : ∀ {j : Nat}, j < regs → atI (rs.map D.int) (j : Int) = some (.int (gt rs j)) := fun h => at_ints (by omega)
  have hb : ∀ {j : Nat}, j < regs → -(2 ^ 200) < gt rs j ∧ gt rs j < 2 ^ 200 := fun h => bd _ (gt_mem (by omega))
  have hx : ∀ {j : Nat}, j < ins → atI (is.map D.int) (j : Int) = some (.int (gt is j)) := fun h => at_ints (by omega)
  refine mean_p ?_ fun _ => by simp [D.bel]
  rcases hi with rfl | ⟨n, rfl, hn⟩
  all_goals
      cases row with
      | load r i => simp [Row.ok] at ok; simp [b_result_of, runF, exSs, exS, evE, evEs, evAnd, evOr, evEo, evC, evIt, evT, thT, RE.bind, RE.fl, Fl.then, binD, cmpD, augD, idxD, slcD, Bi.sem, Bi.semL, isD, truth, fldD, setFldD, putFD, setIdxD, appD, getD, seqOf, bindTg, wipeD, D.isNon, List.replicate, List.getElem?_cons_zero, List.getElem?_cons_succ, List.set_cons_zero, List.set_cons_succ, List.map_cons, List.map_nil, List.length_cons, List.length_nil, atI_cons, ixN_lit, set_app, set_set, List.append_assoc, List.cons_append, List.nil_append, List.lookup_cons, szL, Row.d, hM, ks_ne, resV, hx ok.2, *]
      | set r v => simp [b_result_of, runF, exSs, exS, evE, evEs, evAnd, evOr, evEo, evC, evIt, evT, thT, RE.bind, RE.fl, Fl.then, binD, cmpD, augD, idxD, slcD, Bi.sem, Bi.semL, isD, truth, fldD, setFldD, putFD, setIdxD, appD, getD, seqOf, bindTg, wipeD, D.isNon, List.replicate, List.getElem?_cons_zero, List.getElem?_cons_succ, List.set_cons_zero, List.set_cons_succ, List.map_cons, List.map_nil, List.length_cons, List.length_nil, atI_cons, ixN_lit, set_app, set_set, List.append_assoc, List.cons_append, List.nil_append, List.lookup_cons, szL, Row.d, hM, ks_ne, resV]
      | times r s v =>
        simp only [Row.ok] at ok
        have m : okMul v (gt rs s) := okMul_b (by omega) (by omega) (hb ok.2.1).1 (hb ok.2.1).2
        simp [b_result_of, runF, exSs, exS, evE, evEs, evAnd, evOr, evEo, evC, evIt, evT, thT, RE.bind, RE.fl, Fl.then, binD, cmpD, augD, idxD, slcD, Bi.sem, Bi.semL, isD, truth, fldD, setFldD, putFD, setIdxD, appD, getD, seqOf, bindTg, wipeD, D.isNon, List.replicate, List.getElem?_cons_zero, List.getElem?_cons_succ, List.set_cons_zero, List.set_cons_succ, List.map_cons, List.map_nil, List.length_cons, List.length_nil, atI_cons, ixN_lit, set_app, set_set, List.append_assoc, List.cons_append, List.nil_append, List.lookup_cons, szL, Row.d, hM, ks_ne, resV, hr ok.2.1, m]
      | add r s => simp only [Row.ok] at ok; simp [b_result_of, runF, exSs, exS, evE, evEs, evAnd, evOr, evEo, evC, evIt, evT, thT, RE.bind, RE.fl, Fl.then, binD, cmpD, augD, idxD, slcD, Bi.sem, Bi.semL, isD, truth, fldD, setFldD, putFD, setIdxD, appD, getD, seqOf, bindTg, wipeD, D.isNon, List.replicate, List.getElem?_cons_zero, List.getElem?_cons_succ, List.set_cons_zero, List.set_cons_succ, List.map_cons, List.map_nil, List.length_cons, List.length_nil, atI_cons, ixN_lit, set_app, set_set, List.append_assoc, List.cons_append, List.nil_append, List.lookup_cons, szL, Row.d, hM, ks_ne, resV, hr ok.1, hr ok.2]
      | bend r => simp only [Row.ok] at ok; simp [b_result_of, runF, exSs, exS, evE, evEs, evAnd, evOr, evEo, evC, evIt, evT, thT, RE.bind, RE.fl, Fl.then, binD, cmpD, augD, idxD, slcD, Bi.sem, Bi.semL, isD, truth, fldD, setFldD, putFD, setIdxD, appD, getD, seqOf, bindTg, wipeD, D.isNon, List.replicate, List.getElem?_cons_zero, List.getElem?_cons_succ, List.set_cons_zero, List.set_cons_succ, List.map_cons, List.map_nil, List.length_cons, List.length_nil, atI_cons, ixN_lit, set_app, set_set, List.append_assoc, List.cons_append, List.nil_append, List.lookup_cons, szL, Row.d, hM, ks_ne, resV, hr ok, max0]
      | give r => simp [Row.isGive] at ng
theorem InOf.app {M G : MH} {d : D} {is : List Int} (h : InOf M d is) : InOf (M ++ G) d is := h.imp id fun ⟨n, e, h⟩ => ⟨n, e, at_app h⟩
theorem Row.reg_lt {w : Int} {ins regs : Nat} {r : Row} (h : Row.ok w ins regs r) : r.reg < regs := by
  cases r <;> simp only [Row.ok] at h <;> simp only [Row.reg] <;> omega
theorem BD.set {rs : List Int} {j : Nat} {v : Int} (b : BD rs) (h : -(2 ^ 200) < v ∧ v < 2 ^ 200) : BD (rs.set j v) := fun x hx => by
  rcases List.mem_or_eq_of_mem_set hx with q | q
  · exact b x q
  · subst q; exact h
theorem fit_bd {w v : Int} (hw : w ≤ 200) (h1 : -half w ≤ v) (h2 : v < half w) : -(2 ^ 200) < v ∧ v < 2 ^ 200 := by
  have := half_le hw
  omega
theorem bel_run {w : Int} {is : List Int} {n : Nat} : ∀ {rows : List Row} {k : Nat} {rs os : List Int}, (runR w is rows k rs os).bel n
  | [], k, rs, os => by
    unfold runR
    simp [D.bel, bels, bels_iff]
  | r :: rows, k, rs, os => by
    unfold runR
    split
    · exact bel_run
    · simp [D.bel, bels]
theorem row_give {r : Row} (h : r.isGive = true) : r.d = .tup [.str "give", .int r.reg] := by cases r <;> first | rfl | (simp [Row.isGive] at h; done)
theorem row_kind {r : Row} (h : r.isGive = false) : ∃ x y l, r.d = .tup (.str x :: .int r.reg :: l) ∧ ¬ (x = ("give" : Str)) ∧ y = l := by
  cases r <;> first | (simp [Row.isGive] at h; done) | exact ⟨_, _, _, rfl, by simp [ks_ne], rfl⟩
/-! run_code, slots 0 code, 1 inputs, 2 registers, 3 outputs, 4 place, 5 row, 6 value -/
abbrev st_run_code : Stmt := topS 17
theorem sn_run_code : FnScope ["code", "inputs", "registers", "outputs", "place", "row", "value"] ["code", "inputs"] (defScope st_run_code) := ⟨rfl, rfl, rfl, by decide +kernel, rfl, by decide +kernel, by decide +kernel⟩
noncomputable def lb_run_code_1 : Ss := (.cons (.ite (.cmp .Eq (.idx (.loc 5) (.int 0)) (.str "give")) (.cons (.ex (.app (.loc 3) (.idx (.loc 2) (.idx (.loc 5) (.int 1))))) (.cons .cnt .nil)) .nil) (.cons (.set 6 (.call "result_of" F_result_of (.cons (.loc 5) (.cons (.loc 2) (.cons (.loc 1) .nil))))) (.cons (.ite (.not (.call "fits" F_fits (.cons (.fld (.loc 0) "Code" "width") (.cons (.loc 6) .nil)))) (.cons (.ret (.tup (.cons (.str "overflow") (.cons (.loc 4) .nil)))) .nil) .nil) (.cons (.sub (.loc 2) (.idx (.loc 5) (.int 1)) (.loc 6)) .nil))))
noncomputable def b_run_code : Ss := (.cons (.set 2 (.bin .Mult (.lst (.cons (.int 0) .nil)) (.fld (.loc 0) "Code" "registers"))) (.cons (.set 3 (.lst .nil)) (.cons (.for (.tup [4, 5]) (.enum (.fld (.loc 0) "Code" "instructions")) lb_run_code_1) (.cons (.ret (.tup (.cons (.str "done") (.cons (.bi .tuple (.cons (.loc 3) .nil)) .nil)))) .nil))))
theorem ck_run_code : chkSs ["code", "inputs", "registers", "outputs", "place", "row", "value"] (defScope st_run_code) none true b_run_code (defBody st_run_code) = true := by decide +kernel
noncomputable def F_run_code : FS := mean 0 0 b_run_code 7
theorem dr_run_code {ds : List D} {M : MH} (c : Cl M) (b : bels M.length ds) : ∃ n, Drop M (F_run_code ds M) (runF n b_run_code 7 ds M) := mean_drop (a := 0) (m := 0) (body := b_run_code) (k := 7) c b
def PRun (w : Int) (rows : List Row) (is : List Int) (regs : Nat) (Z : D) (c : Nat) (d : D) (M : MH) (i : Nat) (δ : Ev) (M' : MH) : Prop := ∃ rs os a b e, M' = M ++ [.lst [.int 0], .lst (rs.map D.int), .lst (os.map D.int)] ∧ δ = [some (.loc c), some d, some (.loc (M.length + 1)), some (.loc (M.length + 2)), a, b, e] ∧ rs.length = regs ∧ BD rs ∧ os.length ≤ i ∧ i ≤ rows.length ∧ runR w is (rows.drop i) i rs os = Z
theorem run_step {c : Nat} {w : Int} {ins regs : Nat} {rows : List Row} {is : List Int} {d : D} {M : MH} (h1 : 2 ≤ w) (h2 : w ≤ 200) (r2 : regs ≤ 10000) (hn : rows.length ≤ 1000) (hM : M[c]? = some (.ins "Code" (codeF w ins regs rows))) (ok : ∀ row ∈ rows, Row.ok w ins regs row)
    (hi : InOf M d is) (hil : is.length = ins) {Z : D} (i : Nat) (dd : D) (δ : Ev) (M' : MH) (hd : (enumFrom 0 (rows.map Row.d))[i]? = some dd) (hP : PRun w rows is regs Z c d M i δ M') :
    ∃ δ', bindTg (.tup [4, 5]) dd δ = some δ' ∧ ((∃ δ2 M2, (exSs 0 lb_run_code_1 δ' M' = .nx δ2 M2 ∨ exSs 0 lb_run_code_1 δ' M' = .ct δ2 M2) ∧ PRun w rows is regs Z c d M (i + 1) δ2 M2) ∨ ∃ v M2, exSs 0 lb_run_code_1 δ' M' = .rt v M2 ∧ ∃ G, Fl.rt v M2 = .rt Z (M ++ G)) := by
  obtain ⟨rs, os, a, b, e, rfl, rfl, hrl, bd, hol, hile, hrun⟩ := hP
  obtain ⟨dr, he, rfl⟩ := enum_get hd
  rw [List.getElem?_map] at he
  cases q : rows[i]? with
  | none => rw [q] at he; cases he
  | some row =>
    rw [q] at he; cases he
    have okr := ok row (List.mem_of_getElem? q)
    have hlt : i < rows.length := (List.getElem?_eq_some_iff.mp q).1
    have hdrop : rows.drop i = row :: rows.drop (i + 1) := by
      rw [List.drop_eq_getElem_cons hlt]
      congr 1
      exact (List.getElem?_eq_some_iff.mp q).2
    rw [hdrop] at hrun
    unfold runR stepR at hrun
    have hreg := Row.reg_lt okr
    have hr : atI (rs.map D.int) (row.reg : Int) = some (.int (gt rs row.reg)) := at_ints (by omega)
    have hr2 : ixN rs.length (row.reg : Int) = some row.reg := by have := ix_ints (xs := rs) (j := row.reg) (by omega); rwa [List.length_map] at this
    have hol2 : os.length < 16777216 := by omega
    refine ⟨[some (.loc c), some d, some (.loc (M.length + 1)), some (.loc (M.length + 2)), some (.int ((0 + i : Nat) : Int)), some row.d, e], rfl, ?_⟩
    cases g : row.isGive with
    | true =>
      rw [g, if_pos rfl] at hrun
      refine .inl ⟨[some (.loc c), some d, some (.loc (M.length + 1)), some (.loc (M.length + 2)), some (.int ((0 + i : Nat) : Int)), some row.d, e], M ++ [.lst [.int 0], .lst (rs.map D.int), .lst ((os ++ [gt rs row.reg]).map D.int)], .inr ?_, rs, os ++ [gt rs row.reg], _, _, _, rfl, rfl, hrl, bd, by simp; omega, by omega, hrun⟩
      rw [row_give g]
      simp [lb_run_code_1, runF, exSs, exS, evE, evEs, evAnd, evOr, evEo, evC, evIt, evT, thT, RE.bind, RE.fl, Fl.then, binD, cmpD, augD, idxD, slcD, Bi.sem, Bi.semL, isD, truth, fldD, setFldD, putFD, setIdxD, appD, getD, seqOf, bindTg, wipeD, D.isNon, List.replicate, List.getElem?_cons_zero, List.getElem?_cons_succ, List.set_cons_zero, List.set_cons_succ, List.map_cons, List.map_nil, List.length_cons, List.length_nil, atI_cons, ixN_lit, set_app, set_set, List.append_assoc, List.cons_append, List.nil_append, List.lookup_cons, szL, at_off, set_off, hr, hol2]
    | false =>
      rw [g] at hrun
      have hM' : (M ++ [.lst [.int 0], .lst (rs.map D.int), .lst (os.map D.int)])[M.length + 1]? = some (.lst (rs.map D.int)) := at_off
      have e1 := e_result_of (M := M ++ [.lst [.int 0], .lst (rs.map D.int), .lst (os.map D.int)]) h2 okr g hM' hrl bd hi.app hil
      have hcode : (M ++ [.lst [.int 0], .lst (rs.map D.int), .lst (os.map D.int)])[c]? = some (.ins "Code" (codeF w ins regs rows)) := at_app hM
      obtain ⟨x, y, l, e2, e3, _⟩ := row_kind g
      rw [e2] at e1 ⊢
      have p0 : (0 : Int) < (l.length : Int) + 1 + 1 := by omega
      have p1 : (1 : Int) < (l.length : Int) + 1 + 1 := by omega
      by_cases hf : -half w ≤ resV rs is row ∧ resV rs is row < half w
      · rw [if_neg (by simp), if_pos hf] at hrun
        refine .inl ⟨[some (.loc c), some d, some (.loc (M.length + 1)), some (.loc (M.length + 2)), some (.int ((0 + i : Nat) : Int)), some (.tup (.str x :: .int row.reg :: l)), some (.int (resV rs is row))], M ++ [.lst [.int 0], .lst ((rs.set row.reg (resV rs is row)).map D.int), .lst (os.map D.int)], .inl ?_, _, os, _, _, _, rfl, rfl, by simp [hrl], bd.set (fit_bd h2 hf.1 hf.2), by omega, by omega, hrun⟩
        simp [lb_run_code_1, runF, exSs, exS, evE, evEs, evAnd, evOr, evEo, evC, evIt, evT, thT, RE.bind, RE.fl, Fl.then, binD, cmpD, augD, idxD, slcD, Bi.sem, Bi.semL, isD, truth, fldD, setFldD, putFD, setIdxD, appD, getD, seqOf, bindTg, wipeD, D.isNon, List.replicate, List.getElem?_cons_zero, List.getElem?_cons_succ, List.set_cons_zero, List.set_cons_succ, List.map_cons, List.map_nil, List.length_cons, List.length_nil, atI_cons, ixN_lit, set_app, set_set, List.append_assoc, List.cons_append, List.nil_append, List.lookup_cons, szL, hcode, codeF, kf_bq, e1, e3, e_fits _ _ h1 h2, hf, at_off, set_off, hr2, p0, p1]
      · rw [if_neg (by simp), if_neg hf] at hrun
        refine .inr ⟨.tup [.str "overflow", .int i], M ++ [.lst [.int 0], .lst (rs.map D.int), .lst (os.map D.int)], ?_, _, by rw [← hrun]⟩
        simp [lb_run_code_1, runF, exSs, exS, evE, evEs, evAnd, evOr, evEo, evC, evIt, evT, thT, RE.bind, RE.fl, Fl.then, binD, cmpD, augD, idxD, slcD, Bi.sem, Bi.semL, isD, truth, fldD, setFldD, putFD, setIdxD, appD, getD, seqOf, bindTg, wipeD, D.isNon, List.replicate, List.getElem?_cons_zero, List.getElem?_cons_succ, List.set_cons_zero, List.set_cons_succ, List.map_cons, List.map_nil, List.length_cons, List.length_nil, atI_cons, ixN_lit, set_app, set_set, List.append_assoc, List.cons_append, List.nil_append, List.lookup_cons, szL, hcode, codeF, kf_bq, e1, e3, e_fits _ _ h1 h2, hf, at_off, set_off, hr2, p0, p1]
theorem e_run_code {c : Nat} {w : Int} {ins regs : Nat} {rows : List Row} {is : List Int} {d : D} {M : MH} (h1 : 2 ≤ w) (h2 : w ≤ 200) (r2 : regs ≤ 10000) (hn : rows.length ≤ 1000) (hM : M[c]? = some (.ins "Code" (codeF w ins regs rows))) (ok : ∀ row ∈ rows, Row.ok w ins regs row)
    (hi : InOf M d is) (hil : is.length = ins) : F_run_code [.loc c, d] M = .ok (runR w is rows 0 (List.replicate regs 0) []) M := by
  obtain ⟨Z, hZ⟩ : ∃ Z, runR w is rows 0 (List.replicate regs 0) [] = Z := ⟨_, rfl⟩
  have hZb : ∀ n, Z.bel n := fun n => hZ ▸ bel_run
  rw [hZ]
  have main := forLoop_ret0 (g := []) (tg := .tup [4, 5]) (body := exSs 0 lb_run_code_1) (PRun w rows is regs Z c d M)
    (fun f => ∃ G, f = .rt Z (M ++ G)) (enumFrom 0 (rows.map Row.d)) (δ := [some (.loc c), some d, some (.loc (M.length + 1)), some (.loc (M.length + 2)), none, none, none]) (M := M ++ [.lst [.int 0], .lst (List.replicate regs (.int 0)), .lst []])
    ⟨List.replicate regs 0, [], none, none, none, by simp, rfl, by simp, fun x hx => by rw [(List.mem_replicate.mp hx).2]; decide, Nat.le_refl _, Nat.zero_le _, hZ⟩ (fun _ _ _ _ => trivial) (run_step h1 h2 r2 hn hM ok hi hil)
  have k1 : (regs : Int) < 9223372036854775808 := by omega
  have k2 : (-9223372036854775808 : Int) ≤ regs := by omega
  have k3 : regs ≤ 16777216 := by omega
  rcases main with ⟨δ2, M2, hl, rs, os, a, b, e, rfl, rfl, hrl, bd, hol, hile, hrun⟩ | ⟨v, M2, hl, G, hG⟩
  · rw [enumFrom_len, List.length_map, List.drop_length] at hrun
    unfold runR at hrun
    refine mean_g (G := [.lst [.int 0], .lst (rs.map D.int), .lst (os.map D.int)]) ?_ hZb
    rw [← hrun]
    simp [b_run_code, runF, exSs, exS, evE, evEs, evAnd, evOr, evEo, evC, evIt, evT, thT, RE.bind, RE.fl, Fl.then, binD, cmpD, augD, idxD, slcD, Bi.sem, Bi.semL, isD, truth, fldD, setFldD, putFD, setIdxD, appD, getD, seqOf, bindTg, wipeD, D.isNon, List.replicate, List.getElem?_cons_zero, List.getElem?_cons_succ, List.set_cons_zero, List.set_cons_succ, List.map_cons, List.map_nil, List.length_cons, List.length_nil, atI_cons, ixN_lit, set_app, set_set, List.append_assoc, List.cons_append, List.nil_append, List.lookup_cons, szL, hM, codeF, kf_bq, at_app, k1, k2, k3, hl, at_off]
  · cases hG
    refine mean_g (G := G) ?_ hZb
    simp [b_run_code, runF, exSs, exS, evE, evEs, evAnd, evOr, evEo, evC, evIt, evT, thT, RE.bind, RE.fl, Fl.then, binD, cmpD, augD, idxD, slcD, Bi.sem, Bi.semL, isD, truth, fldD, setFldD, putFD, setIdxD, appD, getD, seqOf, bindTg, wipeD, D.isNon, List.replicate, List.getElem?_cons_zero, List.getElem?_cons_succ, List.set_cons_zero, List.set_cons_succ, List.map_cons, List.map_nil, List.length_cons, List.length_nil, atI_cons, ixN_lit, set_app, set_set, List.append_assoc, List.cons_append, List.nil_append, List.lookup_cons, szL, hM, codeF, kf_bq, at_app, k1, k2, k3, hl, at_off]
/-! ### the law's own parts -/
/-! _law_cell, slots 0 _law_script, 1 _law_k -/
abbrev st_law_cell : Stmt := topS 19
theorem sn_law_cell : FnScope ["_law_script", "_law_k"] ["_law_script", "_law_k"] (defScope st_law_cell) := ⟨rfl, rfl, rfl, by decide +kernel, rfl, by decide +kernel, by decide +kernel⟩
noncomputable def b_law_cell : Ss := (.cons (.ite (.cmp .Lt (.loc 1) (.bi .len (.cons (.loc 0) .nil))) (.cons (.ret (.idx (.loc 0) (.loc 1))) .nil) .nil) (.cons (.ret (.int 0)) .nil))
theorem ck_law_cell : chkSs ["_law_script", "_law_k"] (defScope st_law_cell) none true b_law_cell (defBody st_law_cell) = true := by decide +kernel
noncomputable def F_law_cell : FS := mean 0 0 b_law_cell 2
theorem dr_law_cell {ds : List D} {M : MH} (c : Cl M) (b : bels M.length ds) : ∃ n, Drop M (F_law_cell ds M) (runF n b_law_cell 2 ds M) := mean_drop (a := 0) (m := 0) (body := b_law_cell) (k := 2) c b
theorem e_law_cell (ns : List Int) (M : MH) : F_law_cell [.frl (ns.map D.int), .int 0] M = .ok (.int (gt ns 0)) M := by
  refine mean_p ?_ fun _ => by simp [D.bel]
  cases ns with
  | nil => simp [b_law_cell, runF, exSs, exS, evE, evEs, evAnd, evOr, evEo, evC, evIt, evT, thT, RE.bind, RE.fl, Fl.then, binD, cmpD, augD, idxD, slcD, Bi.sem, Bi.semL, isD, truth, fldD, setFldD, putFD, setIdxD, appD, getD, seqOf, bindTg, wipeD, D.isNon, List.replicate, List.getElem?_cons_zero, List.getElem?_cons_succ, List.set_cons_zero, List.set_cons_succ, List.map_cons, List.map_nil, List.length_cons, List.length_nil, atI_cons, ixN_lit, set_app, set_set, List.append_assoc, List.cons_append, List.nil_append, List.lookup_cons, szL, gt]
  | cons x r =>
    have p0 : (0 : Int) < (r.length : Int) + 1 := by omega
    simp [b_law_cell, runF, exSs, exS, evE, evEs, evAnd, evOr, evEo, evC, evIt, evT, thT, RE.bind, RE.fl, Fl.then, binD, cmpD, augD, idxD, slcD, Bi.sem, Bi.semL, isD, truth, fldD, setFldD, putFD, setIdxD, appD, getD, seqOf, bindTg, wipeD, D.isNon, List.replicate, List.getElem?_cons_zero, List.getElem?_cons_succ, List.set_cons_zero, List.set_cons_succ, List.map_cons, List.map_nil, List.length_cons, List.length_nil, atI_cons, ixN_lit, set_app, set_set, List.append_assoc, List.cons_append, List.nil_append, List.lookup_cons, szL, gt, p0]
abbrev St (a b : Int) : MO := .lst [.int a, .int b]
theorem bel_St {n : Nat} {a b : Int} : (St a b).bel n := by simp [MO.bel, bels, D.bel]
/-! _law_stream, slots 0 _law_cell_here -/
abbrev st_law_stream : Stmt := topS 20
theorem sn_law_stream : FnScope ["_law_cell_here"] ["_law_cell_here"] (defScope st_law_stream) := ⟨rfl, rfl, rfl, by decide +kernel, rfl, by decide +kernel, by decide +kernel⟩
noncomputable def b_law_stream : Ss := (.cons (.ite (.cmp .GtE (.loc 0) (.bin .Pow (.int 10) (.int 18))) (.cons (.ret (.lst (.cons (.loc 0) (.cons (.int 1) .nil)))) .nil) .nil) (.cons (.ret (.lst (.cons (.int 0) (.cons (.loc 0) .nil)))) .nil))
theorem ck_law_stream : chkSs ["_law_cell_here"] (defScope st_law_stream) none true b_law_stream (defBody st_law_stream) = true := by decide +kernel
noncomputable def F_law_stream : FS := mean 1 0 b_law_stream 1
theorem dr_law_stream {ds : List D} {M : MH} (c : Cl M) (b : bels M.length ds) : ∃ n, Drop M (F_law_stream ds M) (runF n b_law_stream 1 ds M) := mean_drop (a := 1) (m := 0) (body := b_law_stream) (k := 1) c b
theorem e_law_stream (c : Int) (M : MH) : ∃ a b, F_law_stream [.int c] M = .ok (.loc M.length) (M ++ [St a b]) := by
  have p : okPow 10 18 := by unfold okPow; decide
  by_cases q : (10 ^ 18 : Int) ≤ c
  · refine ⟨c, 1, mean_ok (M' := M ++ [St c 1]) (G := []) ?_ (by simp) fun cm _ => ⟨by simp [D.bel], cm.push bel_St⟩⟩
    have q' : (1000000000000000000 : Int) ≤ c := q
    simp [b_law_stream, runF, exSs, exS, evE, evEs, evAnd, evOr, evEo, evC, evIt, evT, thT, RE.bind, RE.fl, Fl.then, binD, cmpD, augD, idxD, slcD, Bi.sem, Bi.semL, isD, truth, fldD, setFldD, putFD, setIdxD, appD, getD, seqOf, bindTg, wipeD, D.isNon, List.replicate, List.getElem?_cons_zero, List.getElem?_cons_succ, List.set_cons_zero, List.set_cons_succ, List.map_cons, List.map_nil, List.length_cons, List.length_nil, atI_cons, ixN_lit, set_app, set_set, List.append_assoc, List.cons_append, List.nil_append, List.lookup_cons, szL, p, q']
  · refine ⟨0, c, mean_ok (M' := M ++ [St 0 c]) (G := []) ?_ (by simp) fun cm _ => ⟨by simp [D.bel], cm.push bel_St⟩⟩
    have q' : ¬ (1000000000000000000 : Int) ≤ c := q
    simp [b_law_stream, runF, exSs, exS, evE, evEs, evAnd, evOr, evEo, evC, evIt, evT, thT, RE.bind, RE.fl, Fl.then, binD, cmpD, augD, idxD, slcD, Bi.sem, Bi.semL, isD, truth, fldD, setFldD, putFD, setIdxD, appD, getD, seqOf, bindTg, wipeD, D.isNon, List.replicate, List.getElem?_cons_zero, List.getElem?_cons_succ, List.set_cons_zero, List.set_cons_succ, List.map_cons, List.map_nil, List.length_cons, List.length_nil, atI_cons, ixN_lit, set_app, set_set, List.append_assoc, List.cons_append, List.nil_append, List.lookup_cons, szL, p, q']
/-! _law_take, slots 0 _law_stream_here, 1 _law_many, 2 _law_worth -/
abbrev st_law_take : Stmt := topS 21
theorem sn_law_take : FnScope ["_law_stream_here", "_law_many", "_law_worth"] ["_law_stream_here", "_law_many"] (defScope st_law_take) := ⟨rfl, rfl, rfl, by decide +kernel, rfl, by decide +kernel, by decide +kernel⟩
noncomputable def b_law_take : Ss := (.cons (.ite (.cmp .Gt (.idx (.loc 0) (.int 0)) (.int 0)) (.cons (.set 2 (.bin .Mod (.bi .int (.cons (.idx (.loc 0) (.int 0)) .nil)) (.loc 1))) (.cons (.sub (.loc 0) (.int 0) (.bin .FloorDiv (.idx (.loc 0) (.int 0)) (.loc 1))) (.cons (.ret (.loc 2)) .nil))) .nil) (.cons (.sub (.loc 0) (.int 1) (.bin .Mod (.bi .int (.cons (.bin .Add (.bin .Mult (.idx (.loc 0) (.int 1)) (.int 48271)) (.int 69621)) .nil)) (.int 2147483647))) (.cons (.ret (.bin .Mod (.bi .int (.cons (.bin .Add (.bin .FloorDiv (.bin .Mult (.idx (.loc 0) (.int 1)) (.idx (.loc 0) (.int 1))) (.int 1009)) (.bin .FloorDiv (.idx (.loc 0) (.int 1)) (.int 7))) .nil)) (.loc 1))) .nil)))
theorem ck_law_take : chkSs ["_law_stream_here", "_law_many", "_law_worth"] (defScope st_law_take) none true b_law_take (defBody st_law_take) = true := by decide +kernel
noncomputable def F_law_take : FS := mean 0 0 b_law_take 3
theorem dr_law_take {ds : List D} {M : MH} (c : Cl M) (b : bels M.length ds) : ∃ n, Drop M (F_law_take ds M) (runF n b_law_take 3 ds M) := mean_drop (a := 0) (m := 0) (body := b_law_take) (k := 3) c b
theorem e_law_take {n : Nat} {a b m : Int} {M : MH} (h0 : 0 < m) (h1 : m < 2 ^ 210) (hM : M[n]? = some (St a b)) : ∃ (w : Nat) (a' b' : Int), (w : Int) < m ∧ F_law_take [.loc n, .int m] M = .ok (.int w) (M.set n (St a' b')) := by
  have hn := at_lt hM
  have dv : okDiv m := okDiv_b h0 h1
  have m0 : m ≠ 0 := by omega
  by_cases q : 0 < a
  · obtain ⟨w, hw⟩ := Int.eq_ofNat_of_zero_le (Int.fmod_nonneg_of_pos a h0)
    refine ⟨w, a.fdiv m, b, hw ▸ Int.fmod_lt_of_pos a h0, mean_ok (G := []) ?_ (by simp) fun cm _ => ⟨by simp [D.bel], cm.set n bel_St⟩⟩
    simp [b_law_take, runF, exSs, exS, evE, evEs, evAnd, evOr, evEo, evC, evIt, evT, thT, RE.bind, RE.fl, Fl.then, binD, cmpD, augD, idxD, slcD, Bi.sem, Bi.semL, isD, truth, fldD, setFldD, putFD, setIdxD, appD, getD, seqOf, bindTg, wipeD, D.isNon, List.replicate, List.getElem?_cons_zero, List.getElem?_cons_succ, List.set_cons_zero, List.set_cons_succ, List.map_cons, List.map_nil, List.length_cons, List.length_nil, atI_cons, ixN_lit, set_app, set_set, List.append_assoc, List.cons_append, List.nil_append, List.lookup_cons, szL, hM, q, m0, dv, hw, at_set hM]
  · have k0 : (0 : Int) < 2147483647 := by decide
    obtain ⟨z, hz⟩ : ∃ z, (b * 48271 + 69621).fmod 2147483647 = z := ⟨_, rfl⟩
    have z0 : 0 ≤ z := hz ▸ Int.fmod_nonneg_of_pos _ k0
    have z1 : z < 2147483647 := hz ▸ Int.fmod_lt_of_pos _ k0
    have mz : okMul z z := okMul_r z (by omega) (by omega)
    have mb : okMul b 48271 := okMul_r b (by decide) (by decide)
    have d1 : okDiv 1009 := okDiv_b (by decide) (by decide)
    have d2 : okDiv 7 := okDiv_b (by decide) (by decide)
    obtain ⟨w, hw⟩ := Int.eq_ofNat_of_zero_le (Int.fmod_nonneg_of_pos ((z * z).fdiv 1009 + z.fdiv 7) h0)
    refine ⟨w, a, z, hw ▸ Int.fmod_lt_of_pos _ h0, mean_ok (G := []) ?_ (by simp) fun cm _ => ⟨by simp [D.bel], cm.set n bel_St⟩⟩
    simp [b_law_take, runF, exSs, exS, evE, evEs, evAnd, evOr, evEo, evC, evIt, evT, thT, RE.bind, RE.fl, Fl.then, binD, cmpD, augD, idxD, slcD, Bi.sem, Bi.semL, isD, truth, fldD, setFldD, putFD, setIdxD, appD, getD, seqOf, bindTg, wipeD, D.isNon, List.replicate, List.getElem?_cons_zero, List.getElem?_cons_succ, List.set_cons_zero, List.set_cons_succ, List.map_cons, List.map_nil, List.length_cons, List.length_nil, atI_cons, ixN_lit, set_app, set_set, List.append_assoc, List.cons_append, List.nil_append, List.lookup_cons, szL, hM, q, m0, dv, hw, mb, mz, d1, d2, hz, at_set hM]
/-- plain data of a depth -/
def Pl : Nat → D → Prop
  | _, .int _ => True
  | _, .str x => PyData.strOk x = true
  | k + 1, .tup xs => xs.length ≤ 1000 ∧ ∀ x ∈ xs, Pl k x
  | _, _ => False
/-! _law_same, slots 0 _law_actual, 1 _law_expected, 2 _law_k -/
abbrev st_law_same : Stmt := topS 22
theorem sn_law_same : FnScope ["_law_actual", "_law_expected", "_law_k"] ["_law_actual", "_law_expected"] (defScope st_law_same) := ⟨rfl, rfl, rfl, by decide +kernel, rfl, by decide +kernel, by decide +kernel⟩
noncomputable def lb_law_same_1 (Fr : FS) : Ss := (.cons (.ite (.not (.call "_law_same" Fr (.cons (.idx (.loc 0) (.loc 2)) (.cons (.idx (.loc 1) (.loc 2)) .nil)))) (.cons (.ret (.bl false)) .nil) .nil) .nil)
noncomputable def b_law_same (Fr : FS) : Ss := (.cons (.ite (.isI "tuple" (.loc 1)) (.cons (.ite (.or (.cons (.not (.isI "tuple" (.loc 0))) (.cons (.cmp .NotEq (.bi .len (.cons (.loc 0) .nil)) (.bi .len (.cons (.loc 1) .nil))) .nil))) (.cons (.ret (.bl false)) .nil) .nil) (.cons (.for (.nm 2) (.rng1 (.bi .len (.cons (.loc 1) .nil))) (lb_law_same_1 Fr)) (.cons (.ret (.bl true)) .nil))) .nil) (.cons (.ite (.cmp .Is (.loc 1) .non) (.cons (.ret (.cmp .Is (.loc 0) .non)) .nil) .nil) (.cons (.ite (.isI "str" (.loc 1)) (.cons (.ret (.and (.cons (.isI "str" (.loc 0)) (.cons (.cmp .Eq (.loc 0) (.loc 1)) .nil)))) .nil) .nil) (.cons (.ite (.isI "bool" (.loc 1)) (.cons (.ret (.and (.cons (.isI "bool" (.loc 0)) (.cons (.cmp .Eq (.loc 0) (.loc 1)) .nil)))) .nil) .nil) (.cons (.ret (.and (.cons (.isI "int" (.loc 0)) (.cons (.not (.isI "bool" (.loc 0))) (.cons (.cmp .Eq (.loc 0) (.loc 1)) .nil))))) .nil)))))
theorem ck_law_same (Fr : FS) : chkSs ["_law_actual", "_law_expected", "_law_k"] (defScope st_law_same) none true (b_law_same Fr) (defBody st_law_same) = true := rfl
noncomputable def F_law_same : Nat → FS
  | 0 => fun _ _ => .unk
  | k + 1 => mean 0 0 (b_law_same (F_law_same k)) 3
theorem dr_law_same {k : Nat} {ds : List D} {M : MH} (c : Cl M) (b : bels M.length ds) : ∃ n, Drop M (F_law_same (k + 1) ds M) (runF n (b_law_same (F_law_same k)) 3 ds M) := mean_drop (a := 0) (m := 0) (body := b_law_same (F_law_same k)) (k := 3) c b
/-! more of the law's parts -/
theorem e_law_same : ∀ (k : Nat) (d : D) (M : MH), Pl k d → F_law_same (k + 1) [d, d] M = .ok (.bl true) M := by
  intro k
  induction k with
  | zero =>
    intro d M h
    refine mean_p ?_ fun _ => by simp [D.bel]
    cases d <;> first | exact h.elim | simp [b_law_same, runF, exSs, exS, evE, evEs, evAnd, evOr, evEo, evC, evIt, evT, thT, RE.bind, RE.fl, Fl.then, binD, cmpD, augD, idxD, slcD, Bi.sem, Bi.semL, isD, truth, fldD, setFldD, putFD, setIdxD, appD, getD, seqOf, bindTg, wipeD, D.isNon, List.replicate, List.getElem?_cons_zero, List.getElem?_cons_succ, List.set_cons_zero, List.set_cons_succ, List.map_cons, List.map_nil, List.length_cons, List.length_nil, atI_cons, ixN_lit, set_app, set_set, List.append_assoc, List.cons_append, List.nil_append, List.lookup_cons, szL]
  | succ k ih =>
    intro d M h
    refine mean_p ?_ fun _ => by simp [D.bel]
    cases d with
    | int i => simp [b_law_same, runF, exSs, exS, evE, evEs, evAnd, evOr, evEo, evC, evIt, evT, thT, RE.bind, RE.fl, Fl.then, binD, cmpD, augD, idxD, slcD, Bi.sem, Bi.semL, isD, truth, fldD, setFldD, putFD, setIdxD, appD, getD, seqOf, bindTg, wipeD, D.isNon, List.replicate, List.getElem?_cons_zero, List.getElem?_cons_succ, List.set_cons_zero, List.set_cons_succ, List.map_cons, List.map_nil, List.length_cons, List.length_nil, atI_cons, ixN_lit, set_app, set_set, List.append_assoc, List.cons_append, List.nil_append, List.lookup_cons, szL]
    | str i => simp [b_law_same, runF, exSs, exS, evE, evEs, evAnd, evOr, evEo, evC, evIt, evT, thT, RE.bind, RE.fl, Fl.then, binD, cmpD, augD, idxD, slcD, Bi.sem, Bi.semL, isD, truth, fldD, setFldD, putFD, setIdxD, appD, getD, seqOf, bindTg, wipeD, D.isNon, List.replicate, List.getElem?_cons_zero, List.getElem?_cons_succ, List.set_cons_zero, List.set_cons_succ, List.map_cons, List.map_nil, List.length_cons, List.length_nil, atI_cons, ixN_lit, set_app, set_set, List.append_assoc, List.cons_append, List.nil_append, List.lookup_cons, szL]
    | tup xs =>
      obtain ⟨hn, h⟩ := h
      obtain ⟨δ2, _, hl, rfl, a, rfl⟩ := forLoop_inv0 (g := []) (tg := .nm 2) (body := exSs 0 (lb_law_same_1 (F_law_same (k + 1)))) (fun i δ M' => M' = M ∧ ∃ a, δ = [some (.tup xs), some (.tup xs), a]) (rngD 0 1 xs.length) (δ := [some (.tup xs), some (.tup xs), none]) (M := M) ⟨rfl, _, rfl⟩ (fun _ _ _ _ => trivial) (by
        rintro i dd δ M' hd ⟨rfl, a, rfl⟩
        obtain ⟨hi, rfl⟩ := rng_get hd
        refine ⟨[some (.tup xs), some (.tup xs), some (.int i)], [some (.tup xs), some (.tup xs), some (.int i)], M', by simp [bindTg], .inl ?_, rfl, _, rfl⟩
        have e : atI xs (i : Int) = some xs[i] := atI_nat (List.getElem?_eq_getElem hi)
        simp [lb_law_same_1, runF, exSs, exS, evE, evEs, evAnd, evOr, evEo, evC, evIt, evT, thT, RE.bind, RE.fl, Fl.then, binD, cmpD, augD, idxD, slcD, Bi.sem, Bi.semL, isD, truth, fldD, setFldD, putFD, setIdxD, appD, getD, seqOf, bindTg, wipeD, D.isNon, List.replicate, List.getElem?_cons_zero, List.getElem?_cons_succ, List.set_cons_zero, List.set_cons_succ, List.map_cons, List.map_nil, List.length_cons, List.length_nil, atI_cons, ixN_lit, set_app, set_set, List.append_assoc, List.cons_append, List.nil_append, List.lookup_cons, szL, e, ih xs[i] M' (h _ (List.getElem_mem hi))])
      have ok : okR (xs.length : Int) := okR_s (by omega) (by omega)
      simp [b_law_same, runF, exSs, exS, evE, evEs, evAnd, evOr, evEo, evC, evIt, evT, thT, RE.bind, RE.fl, Fl.then, binD, cmpD, augD, idxD, slcD, Bi.sem, Bi.semL, isD, truth, fldD, setFldD, putFD, setIdxD, appD, getD, seqOf, bindTg, wipeD, D.isNon, List.replicate, List.getElem?_cons_zero, List.getElem?_cons_succ, List.set_cons_zero, List.set_cons_succ, List.map_cons, List.map_nil, List.length_cons, List.length_nil, atI_cons, ixN_lit, set_app, set_set, List.append_assoc, List.cons_append, List.nil_append, List.lookup_cons, szL, ok, hl]
    | _ => exact h.elim
/-! _law_width, slots 0 _law_stream_here -/
abbrev st_law_width : Stmt := topS 24
theorem sn_law_width : FnScope ["_law_stream_here"] ["_law_stream_here"] (defScope st_law_width) := ⟨rfl, rfl, rfl, by decide +kernel, rfl, by decide +kernel, by decide +kernel⟩
noncomputable def b_law_width : Ss := (.cons (.ret (.idx (.lst (.cons (.bin .Add (.int 2) (.call "_law_take" F_law_take (.cons (.loc 0) (.cons (.int 7) .nil)))) (.cons (.bin .Add (.int 2) (.call "_law_take" F_law_take (.cons (.loc 0) (.cons (.int 30) .nil)))) (.cons (.bin .Add (.int 2) (.call "_law_take" F_law_take (.cons (.loc 0) (.cons (.int 199) .nil)))) (.cons (.int 200) .nil))))) (.call "_law_take" F_law_take (.cons (.loc 0) (.cons (.int 4) .nil))))) .nil)
theorem ck_law_width : chkSs ["_law_stream_here"] (defScope st_law_width) none true b_law_width (defBody st_law_width) = true := by decide +kernel
noncomputable def F_law_width : FS := mean 0 0 b_law_width 1
theorem dr_law_width {ds : List D} {M : MH} (c : Cl M) (b : bels M.length ds) : ∃ n, Drop M (F_law_width ds M) (runF n b_law_width 1 ds M) := mean_drop (a := 0) (m := 0) (body := b_law_width) (k := 1) c b
theorem e_law_width {n : Nat} {a b : Int} {M : MH} (hM : M[n]? = some (St a b)) : ∃ (w a' b' : Int), 2 ≤ w ∧ w ≤ 200 ∧ F_law_width [.loc n] M = .ok (.int w) (M.set n (St a' b')) := by
  have hn := at_lt hM
  obtain ⟨w1, a1, b1, h1, e1⟩ := e_law_take (m := 7) (by decide) (by decide) hM
  obtain ⟨w2, a2, b2, h2, e2⟩ := e_law_take (m := 30) (by decide) (by decide) (at_set hM (St a1 b1))
  obtain ⟨w3, a3, b3, h3, e3⟩ := e_law_take (m := 199) (by decide) (by decide) (at_set hM (St a2 b2))
  obtain ⟨w4, a4, b4, h4, e4⟩ := e_law_take (m := 4) (by decide) (by decide) (at_app (G := [.lst [.int (2 + w1), .int (2 + w2), .int (2 + w3), .int 200]]) (at_set hM (St a3 b3)))
  rw [set_appS hn] at e4
  have c1 : w4 = 0 ∨ w4 = 1 ∨ w4 = 2 ∨ w4 = 3 := by omega
  rcases c1 with rfl | rfl | rfl | rfl
  · exact ⟨2 + w1, a4, b4, by omega, by omega, mean_ok (G := [.lst [.int (2 + w1), .int (2 + w2), .int (2 + w3), .int 200]]) (by simp [b_law_width, runF, exSs, exS, evE, evEs, evAnd, evOr, evEo, evC, evIt, evT, thT, RE.bind, RE.fl, Fl.then, binD, cmpD, augD, idxD, slcD, Bi.sem, Bi.semL, isD, truth, fldD, setFldD, putFD, setIdxD, appD, getD, seqOf, bindTg, wipeD, D.isNon, List.replicate, List.getElem?_cons_zero, List.getElem?_cons_succ, List.set_cons_zero, List.set_cons_succ, List.map_cons, List.map_nil, List.length_cons, List.length_nil, atI_cons, ixN_lit, set_app, set_set, List.append_assoc, List.cons_append, List.nil_append, List.lookup_cons, szL, e1, e2, e3, e4]) (by simp) fun cm _ => ⟨by simp [D.bel], cm.set n bel_St⟩⟩
  · exact ⟨2 + w2, a4, b4, by omega, by omega, mean_ok (G := [.lst [.int (2 + w1), .int (2 + w2), .int (2 + w3), .int 200]]) (by simp [b_law_width, runF, exSs, exS, evE, evEs, evAnd, evOr, evEo, evC, evIt, evT, thT, RE.bind, RE.fl, Fl.then, binD, cmpD, augD, idxD, slcD, Bi.sem, Bi.semL, isD, truth, fldD, setFldD, putFD, setIdxD, appD, getD, seqOf, bindTg, wipeD, D.isNon, List.replicate, List.getElem?_cons_zero, List.getElem?_cons_succ, List.set_cons_zero, List.set_cons_succ, List.map_cons, List.map_nil, List.length_cons, List.length_nil, atI_cons, ixN_lit, set_app, set_set, List.append_assoc, List.cons_append, List.nil_append, List.lookup_cons, szL, e1, e2, e3, e4]) (by simp) fun cm _ => ⟨by simp [D.bel], cm.set n bel_St⟩⟩
  · exact ⟨2 + w3, a4, b4, by omega, by omega, mean_ok (G := [.lst [.int (2 + w1), .int (2 + w2), .int (2 + w3), .int 200]]) (by simp [b_law_width, runF, exSs, exS, evE, evEs, evAnd, evOr, evEo, evC, evIt, evT, thT, RE.bind, RE.fl, Fl.then, binD, cmpD, augD, idxD, slcD, Bi.sem, Bi.semL, isD, truth, fldD, setFldD, putFD, setIdxD, appD, getD, seqOf, bindTg, wipeD, D.isNon, List.replicate, List.getElem?_cons_zero, List.getElem?_cons_succ, List.set_cons_zero, List.set_cons_succ, List.map_cons, List.map_nil, List.length_cons, List.length_nil, atI_cons, ixN_lit, set_app, set_set, List.append_assoc, List.cons_append, List.nil_append, List.lookup_cons, szL, e1, e2, e3, e4]) (by simp) fun cm _ => ⟨by simp [D.bel], cm.set n bel_St⟩⟩
  · exact ⟨200, a4, b4, by omega, by omega, mean_ok (G := [.lst [.int (2 + w1), .int (2 + w2), .int (2 + w3), .int 200]]) (by simp [b_law_width, runF, exSs, exS, evE, evEs, evAnd, evOr, evEo, evC, evIt, evT, thT, RE.bind, RE.fl, Fl.then, binD, cmpD, augD, idxD, slcD, Bi.sem, Bi.semL, isD, truth, fldD, setFldD, putFD, setIdxD, appD, getD, seqOf, bindTg, wipeD, D.isNon, List.replicate, List.getElem?_cons_zero, List.getElem?_cons_succ, List.set_cons_zero, List.set_cons_succ, List.map_cons, List.map_nil, List.length_cons, List.length_nil, atI_cons, ixN_lit, set_app, set_set, List.append_assoc, List.cons_append, List.nil_append, List.lookup_cons, szL, e1, e2, e3, e4]) (by simp) fun cm _ => ⟨by simp [D.bel], cm.set n bel_St⟩⟩
def clamp (h x : Int) : Int := if (if x < h - 1 then x else h - 1) > -h then (if x < h - 1 then x else h - 1) else -h
theorem clamp_in {h : Int} (hp : 0 < h) (x : Int) : -h ≤ clamp h x ∧ clamp h x < h := by
  unfold clamp
  split <;> split <;> omega
theorem half_eq {w : Int} : (2 : Int) ^ (w.toNat - 1) = half w := by
  unfold half
  congr 1
  omega
theorem half_lt {w : Int} (h : w ≤ 200) : half w < 2 ^ 200 := Int.lt_of_le_of_lt (half_le h) (by decide)
/-! _law_integer, slots 0 _law_stream_here, 1 _law_width_here, 2 _law_half, 3 _law_near, 4 _law_menu -/
abbrev st_law_integer : Stmt := topS 25
theorem sn_law_integer : FnScope ["_law_stream_here", "_law_width_here", "_law_half", "_law_near", "_law_menu"] ["_law_stream_here", "_law_width_here"] (defScope st_law_integer) := ⟨rfl, rfl, rfl, by decide +kernel, rfl, by decide +kernel, by decide +kernel⟩
noncomputable def b_law_integer : Ss := (.cons (.set 2 (.bin .LShift (.int 1) (.bin .Sub (.loc 1) (.int 1)))) (.cons (.set 3 (.call "_law_take" F_law_take (.cons (.loc 0) (.cons (.int 3) .nil)))) (.cons (.set 4 (.lst (.cons (.loc 3) (.cons (.neg (.loc 3)) (.cons (.bin .Sub (.bin .Sub (.loc 2) (.int 1)) (.loc 3)) (.cons (.bin .Sub (.loc 3) (.loc 2)) (.cons (.bin .Sub (.call "_law_take" F_law_take (.cons (.loc 0) (.cons (.bin .Mult (.int 2) (.loc 2)) .nil))) (.loc 2)) (.cons (.bin .Sub (.call "_law_take" F_law_take (.cons (.loc 0) (.cons (.int 9) .nil))) (.int 4)) .nil)))))))) (.cons (.ret (.bi .max (.cons (.neg (.loc 2)) (.cons (.bi .min (.cons (.bin .Sub (.loc 2) (.int 1)) (.cons (.idx (.loc 4) (.call "_law_take" F_law_take (.cons (.loc 0) (.cons (.int 6) .nil)))) .nil))) .nil)))) .nil))))
theorem ck_law_integer : chkSs ["_law_stream_here", "_law_width_here", "_law_half", "_law_near", "_law_menu"] (defScope st_law_integer) none true b_law_integer (defBody st_law_integer) = true := by decide +kernel
noncomputable def F_law_integer : FS := mean 0 0 b_law_integer 5
theorem dr_law_integer {ds : List D} {M : MH} (c : Cl M) (b : bels M.length ds) : ∃ n, Drop M (F_law_integer ds M) (runF n b_law_integer 5 ds M) := mean_drop (a := 0) (m := 0) (body := b_law_integer) (k := 5) c b
theorem e_law_integer {n : Nat} {a b w : Int} {M : MH} (h1 : 2 ≤ w) (h2 : w ≤ 200) (hM : M[n]? = some (St a b)) : ∃ (v a' b' : Int), -half w ≤ v ∧ v < half w ∧ F_law_integer [.loc n, .int w] M = .ok (.int v) (M.set n (St a' b')) := by
  have hn := at_lt hM
  have hp := half_pos w
  have hl := half_lt h2
  have hH := half_eq (w := w)
  have pw : okPow 1 (w - 1) := okPow_1 (by omega) (by omega)
  have mH : okMul 2 (half w) := .inl ⟨by decide, by decide⟩
  obtain ⟨w1, a1, b1, q1, e1⟩ := e_law_take (m := 3) (by decide) (by decide) hM
  obtain ⟨w2, a2, b2, q2, e2⟩ := e_law_take (m := 2 * half w) (by omega) (by omega) (at_set hM (St a1 b1))
  obtain ⟨w3, a3, b3, q3, e3⟩ := e_law_take (m := 9) (by decide) (by decide) (at_set hM (St a2 b2))
  obtain ⟨w4, a4, b4, q4, e4⟩ := e_law_take (m := 6) (by decide) (by decide) (at_app (G := [.lst [.int w1, .int (-w1), .int (half w - 1 - w1), .int (w1 - half w), .int (w2 - half w), .int (w3 - 4)]]) (at_set hM (St a3 b3)))
  rw [set_appS hn] at e4
  have c1 : w4 = 0 ∨ w4 = 1 ∨ w4 = 2 ∨ w4 = 3 ∨ w4 = 4 ∨ w4 = 5 := by omega
  rcases c1 with rfl | rfl | rfl | rfl | rfl | rfl
  · exact ⟨clamp (half w) (w1), a4, b4, (clamp_in hp _).1, (clamp_in hp _).2, mean_ok (G := [.lst [.int w1, .int (-w1), .int (half w - 1 - w1), .int (w1 - half w), .int (w2 - half w), .int (w3 - 4)]]) (by simp [b_law_integer, runF, exSs, exS, evE, evEs, evAnd, evOr, evEo, evC, evIt, evT, thT, RE.bind, RE.fl, Fl.then, binD, cmpD, augD, idxD, slcD, Bi.sem, Bi.semL, isD, truth, fldD, setFldD, putFD, setIdxD, appD, getD, seqOf, bindTg, wipeD, D.isNon, List.replicate, List.getElem?_cons_zero, List.getElem?_cons_succ, List.set_cons_zero, List.set_cons_succ, List.map_cons, List.map_nil, List.length_cons, List.length_nil, atI_cons, ixN_lit, set_app, set_set, List.append_assoc, List.cons_append, List.nil_append, List.lookup_cons, szL, pw, hH, e1, e2, e3, e4, mH, clamp]) (by simp) fun cm _ => ⟨by simp [D.bel], cm.set n bel_St⟩⟩
  · exact ⟨clamp (half w) (-w1), a4, b4, (clamp_in hp _).1, (clamp_in hp _).2, mean_ok (G := [.lst [.int w1, .int (-w1), .int (half w - 1 - w1), .int (w1 - half w), .int (w2 - half w), .int (w3 - 4)]]) (by simp [b_law_integer, runF, exSs, exS, evE, evEs, evAnd, evOr, evEo, evC, evIt, evT, thT, RE.bind, RE.fl, Fl.then, binD, cmpD, augD, idxD, slcD, Bi.sem, Bi.semL, isD, truth, fldD, setFldD, putFD, setIdxD, appD, getD, seqOf, bindTg, wipeD, D.isNon, List.replicate, List.getElem?_cons_zero, List.getElem?_cons_succ, List.set_cons_zero, List.set_cons_succ, List.map_cons, List.map_nil, List.length_cons, List.length_nil, atI_cons, ixN_lit, set_app, set_set, List.append_assoc, List.cons_append, List.nil_append, List.lookup_cons, szL, pw, hH, e1, e2, e3, e4, mH, clamp]) (by simp) fun cm _ => ⟨by simp [D.bel], cm.set n bel_St⟩⟩
  · exact ⟨clamp (half w) (half w - 1 - w1), a4, b4, (clamp_in hp _).1, (clamp_in hp _).2, mean_ok (G := [.lst [.int w1, .int (-w1), .int (half w - 1 - w1), .int (w1 - half w), .int (w2 - half w), .int (w3 - 4)]]) (by simp [b_law_integer, runF, exSs, exS, evE, evEs, evAnd, evOr, evEo, evC, evIt, evT, thT, RE.bind, RE.fl, Fl.then, binD, cmpD, augD, idxD, slcD, Bi.sem, Bi.semL, isD, truth, fldD, setFldD, putFD, setIdxD, appD, getD, seqOf, bindTg, wipeD, D.isNon, List.replicate, List.getElem?_cons_zero, List.getElem?_cons_succ, List.set_cons_zero, List.set_cons_succ, List.map_cons, List.map_nil, List.length_cons, List.length_nil, atI_cons, ixN_lit, set_app, set_set, List.append_assoc, List.cons_append, List.nil_append, List.lookup_cons, szL, pw, hH, e1, e2, e3, e4, mH, clamp]) (by simp) fun cm _ => ⟨by simp [D.bel], cm.set n bel_St⟩⟩
  · exact ⟨clamp (half w) (w1 - half w), a4, b4, (clamp_in hp _).1, (clamp_in hp _).2, mean_ok (G := [.lst [.int w1, .int (-w1), .int (half w - 1 - w1), .int (w1 - half w), .int (w2 - half w), .int (w3 - 4)]]) (by simp [b_law_integer, runF, exSs, exS, evE, evEs, evAnd, evOr, evEo, evC, evIt, evT, thT, RE.bind, RE.fl, Fl.then, binD, cmpD, augD, idxD, slcD, Bi.sem, Bi.semL, isD, truth, fldD, setFldD, putFD, setIdxD, appD, getD, seqOf, bindTg, wipeD, D.isNon, List.replicate, List.getElem?_cons_zero, List.getElem?_cons_succ, List.set_cons_zero, List.set_cons_succ, List.map_cons, List.map_nil, List.length_cons, List.length_nil, atI_cons, ixN_lit, set_app, set_set, List.append_assoc, List.cons_append, List.nil_append, List.lookup_cons, szL, pw, hH, e1, e2, e3, e4, mH, clamp]) (by simp) fun cm _ => ⟨by simp [D.bel], cm.set n bel_St⟩⟩
  · exact ⟨clamp (half w) (w2 - half w), a4, b4, (clamp_in hp _).1, (clamp_in hp _).2, mean_ok (G := [.lst [.int w1, .int (-w1), .int (half w - 1 - w1), .int (w1 - half w), .int (w2 - half w), .int (w3 - 4)]]) (by simp [b_law_integer, runF, exSs, exS, evE, evEs, evAnd, evOr, evEo, evC, evIt, evT, thT, RE.bind, RE.fl, Fl.then, binD, cmpD, augD, idxD, slcD, Bi.sem, Bi.semL, isD, truth, fldD, setFldD, putFD, setIdxD, appD, getD, seqOf, bindTg, wipeD, D.isNon, List.replicate, List.getElem?_cons_zero, List.getElem?_cons_succ, List.set_cons_zero, List.set_cons_succ, List.map_cons, List.map_nil, List.length_cons, List.length_nil, atI_cons, ixN_lit, set_app, set_set, List.append_assoc, List.cons_append, List.nil_append, List.lookup_cons, szL, pw, hH, e1, e2, e3, e4, mH, clamp]) (by simp) fun cm _ => ⟨by simp [D.bel], cm.set n bel_St⟩⟩
  · exact ⟨clamp (half w) (w3 - 4), a4, b4, (clamp_in hp _).1, (clamp_in hp _).2, mean_ok (G := [.lst [.int w1, .int (-w1), .int (half w - 1 - w1), .int (w1 - half w), .int (w2 - half w), .int (w3 - 4)]]) (by simp [b_law_integer, runF, exSs, exS, evE, evEs, evAnd, evOr, evEo, evC, evIt, evT, thT, RE.bind, RE.fl, Fl.then, binD, cmpD, augD, idxD, slcD, Bi.sem, Bi.semL, isD, truth, fldD, setFldD, putFD, setIdxD, appD, getD, seqOf, bindTg, wipeD, D.isNon, List.replicate, List.getElem?_cons_zero, List.getElem?_cons_succ, List.set_cons_zero, List.set_cons_succ, List.map_cons, List.map_nil, List.length_cons, List.length_nil, atI_cons, ixN_lit, set_app, set_set, List.append_assoc, List.cons_append, List.nil_append, List.lookup_cons, szL, pw, hH, e1, e2, e3, e4, mH, clamp]) (by simp) fun cm _ => ⟨by simp [D.bel], cm.set n bel_St⟩⟩
/-! _law_row, slots 0 _law_stream_here, 1 _law_width_here, 2 _law_inputs_here, 3 _law_registers, 4 _law_kind, 5 _law_one, 6 _law_two -/
abbrev st_law_row : Stmt := topS 26
theorem sn_law_row : FnScope ["_law_stream_here", "_law_width_here", "_law_inputs_here", "_law_registers", "_law_kind", "_law_one", "_law_two"] ["_law_stream_here", "_law_width_here", "_law_inputs_here", "_law_registers"] (defScope st_law_row) := ⟨rfl, rfl, rfl, by decide +kernel, rfl, by decide +kernel, by decide +kernel⟩
noncomputable def b_law_row : Ss := (.cons (.set 4 (.call "_law_take" F_law_take (.cons (.loc 0) (.cons (.int 7) .nil)))) (.cons (.set 5 (.call "_law_take" F_law_take (.cons (.loc 0) (.cons (.loc 3) .nil)))) (.cons (.set 6 (.call "_law_take" F_law_take (.cons (.loc 0) (.cons (.loc 3) .nil)))) (.cons (.ite (.cmp .Eq (.loc 4) (.int 0)) (.cons (.ret (.tup (.cons (.str "load") (.cons (.loc 5) (.cons (.call "_law_take" F_law_take (.cons (.loc 0) (.cons (.loc 2) .nil))) .nil))))) .nil) .nil) (.cons (.ite (.cmp .Eq (.loc 4) (.int 1)) (.cons (.ret (.tup (.cons (.str "set") (.cons (.loc 5) (.cons (.call "_law_integer" F_law_integer (.cons (.loc 0) (.cons (.loc 1) .nil))) .nil))))) .nil) .nil) (.cons (.ite (.cmp .Eq (.loc 4) (.int 2)) (.cons (.ret (.tup (.cons (.str "times") (.cons (.loc 5) (.cons (.loc 6) (.cons (.call "_law_integer" F_law_integer (.cons (.loc 0) (.cons (.loc 1) .nil))) .nil)))))) .nil) .nil) (.cons (.ite (.cmp .Lt (.loc 4) (.int 5)) (.cons (.ret (.tup (.cons (.str "add") (.cons (.loc 5) (.cons (.loc 6) .nil))))) .nil) .nil) (.cons (.ret (.idx (.lst (.cons (.tup (.cons (.str "bend") (.cons (.loc 5) .nil))) (.cons (.tup (.cons (.str "give") (.cons (.loc 5) .nil))) .nil))) (.bin .Sub (.loc 4) (.int 5)))) .nil))))))))
theorem ck_law_row : chkSs ["_law_stream_here", "_law_width_here", "_law_inputs_here", "_law_registers", "_law_kind", "_law_one", "_law_two"] (defScope st_law_row) none true b_law_row (defBody st_law_row) = true := by decide +kernel
noncomputable def F_law_row : FS := mean 0 0 b_law_row 7
theorem dr_law_row {ds : List D} {M : MH} (c : Cl M) (b : bels M.length ds) : ∃ n, Drop M (F_law_row ds M) (runF n b_law_row 7 ds M) := mean_drop (a := 0) (m := 0) (body := b_law_row) (k := 7) c b
theorem e_law_row {n : Nat} {a b w : Int} {ins regs : Nat} {M : MH} (h1 : 2 ≤ w) (h2 : w ≤ 200) (i1 : 1 ≤ ins) (i2 : ins ≤ 10000) (r1 : 1 ≤ regs) (r2 : regs ≤ 10000) (hM : M[n]? = some (St a b)) : ∃ (row : Row) (a' b' : Int), Row.ok w ins regs row ∧ F_law_row [.loc n, .int w, .int ins, .int regs] M = .ok row.d (M.set n (St a' b')) := by
  have hn := at_lt hM
  obtain ⟨k, a1, b1, q1, e1⟩ := e_law_take (m := 7) (by decide) (by decide) hM
  obtain ⟨o, a2, b2, q2, e2⟩ := e_law_take (m := regs) (by omega) (by omega) (at_set hM (St a1 b1))
  obtain ⟨t, a3, b3, q3, e3⟩ := e_law_take (m := regs) (by omega) (by omega) (at_set hM (St a2 b2))
  obtain ⟨i, a4, b4, q4, e4⟩ := e_law_take (m := ins) (by omega) (by omega) (at_set hM (St a3 b3))
  obtain ⟨v, a5, b5, v1, v2, e5⟩ := e_law_integer h1 h2 (at_set hM (St a3 b3))
  have c1 : k = 0 ∨ k = 1 ∨ k = 2 ∨ k = 3 ∨ k = 4 ∨ k = 5 ∨ k = 6 := by omega
  rcases c1 with rfl | rfl | rfl | rfl | rfl | rfl | rfl
  · exact ⟨.load o i, a4, b4, by simp only [Row.ok]; omega, mean_ok (G := []) (by simp [b_law_row, runF, exSs, exS, evE, evEs, evAnd, evOr, evEo, evC, evIt, evT, thT, RE.bind, RE.fl, Fl.then, binD, cmpD, augD, idxD, slcD, Bi.sem, Bi.semL, isD, truth, fldD, setFldD, putFD, setIdxD, appD, getD, seqOf, bindTg, wipeD, D.isNon, List.replicate, List.getElem?_cons_zero, List.getElem?_cons_succ, List.set_cons_zero, List.set_cons_succ, List.map_cons, List.map_nil, List.length_cons, List.length_nil, atI_cons, ixN_lit, set_app, set_set, List.append_assoc, List.cons_append, List.nil_append, List.lookup_cons, szL, e1, e2, e3, e4, Row.d]) (by simp) fun cm _ => ⟨bel_row _ _, cm.set n bel_St⟩⟩
  · exact ⟨.set o v, a5, b5, by simp only [Row.ok]; omega, mean_ok (G := []) (by simp [b_law_row, runF, exSs, exS, evE, evEs, evAnd, evOr, evEo, evC, evIt, evT, thT, RE.bind, RE.fl, Fl.then, binD, cmpD, augD, idxD, slcD, Bi.sem, Bi.semL, isD, truth, fldD, setFldD, putFD, setIdxD, appD, getD, seqOf, bindTg, wipeD, D.isNon, List.replicate, List.getElem?_cons_zero, List.getElem?_cons_succ, List.set_cons_zero, List.set_cons_succ, List.map_cons, List.map_nil, List.length_cons, List.length_nil, atI_cons, ixN_lit, set_app, set_set, List.append_assoc, List.cons_append, List.nil_append, List.lookup_cons, szL, e1, e2, e3, e5, Row.d]) (by simp) fun cm _ => ⟨bel_row _ _, cm.set n bel_St⟩⟩
  · exact ⟨.times o t v, a5, b5, by simp only [Row.ok]; omega, mean_ok (G := []) (by simp [b_law_row, runF, exSs, exS, evE, evEs, evAnd, evOr, evEo, evC, evIt, evT, thT, RE.bind, RE.fl, Fl.then, binD, cmpD, augD, idxD, slcD, Bi.sem, Bi.semL, isD, truth, fldD, setFldD, putFD, setIdxD, appD, getD, seqOf, bindTg, wipeD, D.isNon, List.replicate, List.getElem?_cons_zero, List.getElem?_cons_succ, List.set_cons_zero, List.set_cons_succ, List.map_cons, List.map_nil, List.length_cons, List.length_nil, atI_cons, ixN_lit, set_app, set_set, List.append_assoc, List.cons_append, List.nil_append, List.lookup_cons, szL, e1, e2, e3, e5, Row.d]) (by simp) fun cm _ => ⟨bel_row _ _, cm.set n bel_St⟩⟩
  · exact ⟨.add o t, a3, b3, by simp only [Row.ok]; omega, mean_ok (G := []) (by simp [b_law_row, runF, exSs, exS, evE, evEs, evAnd, evOr, evEo, evC, evIt, evT, thT, RE.bind, RE.fl, Fl.then, binD, cmpD, augD, idxD, slcD, Bi.sem, Bi.semL, isD, truth, fldD, setFldD, putFD, setIdxD, appD, getD, seqOf, bindTg, wipeD, D.isNon, List.replicate, List.getElem?_cons_zero, List.getElem?_cons_succ, List.set_cons_zero, List.set_cons_succ, List.map_cons, List.map_nil, List.length_cons, List.length_nil, atI_cons, ixN_lit, set_app, set_set, List.append_assoc, List.cons_append, List.nil_append, List.lookup_cons, szL, e1, e2, e3, Row.d]) (by simp) fun cm _ => ⟨bel_row _ _, cm.set n bel_St⟩⟩
  · exact ⟨.add o t, a3, b3, by simp only [Row.ok]; omega, mean_ok (G := []) (by simp [b_law_row, runF, exSs, exS, evE, evEs, evAnd, evOr, evEo, evC, evIt, evT, thT, RE.bind, RE.fl, Fl.then, binD, cmpD, augD, idxD, slcD, Bi.sem, Bi.semL, isD, truth, fldD, setFldD, putFD, setIdxD, appD, getD, seqOf, bindTg, wipeD, D.isNon, List.replicate, List.getElem?_cons_zero, List.getElem?_cons_succ, List.set_cons_zero, List.set_cons_succ, List.map_cons, List.map_nil, List.length_cons, List.length_nil, atI_cons, ixN_lit, set_app, set_set, List.append_assoc, List.cons_append, List.nil_append, List.lookup_cons, szL, e1, e2, e3, Row.d]) (by simp) fun cm _ => ⟨bel_row _ _, cm.set n bel_St⟩⟩
  · exact ⟨.bend o, a3, b3, by simp only [Row.ok]; omega, mean_ok (G := [.lst [(Row.bend o).d, (Row.give o).d]]) (by simp [b_law_row, runF, exSs, exS, evE, evEs, evAnd, evOr, evEo, evC, evIt, evT, thT, RE.bind, RE.fl, Fl.then, binD, cmpD, augD, idxD, slcD, Bi.sem, Bi.semL, isD, truth, fldD, setFldD, putFD, setIdxD, appD, getD, seqOf, bindTg, wipeD, D.isNon, List.replicate, List.getElem?_cons_zero, List.getElem?_cons_succ, List.set_cons_zero, List.set_cons_succ, List.map_cons, List.map_nil, List.length_cons, List.length_nil, atI_cons, ixN_lit, set_app, set_set, List.append_assoc, List.cons_append, List.nil_append, List.lookup_cons, szL, e1, e2, e3, Row.d]) (by simp) fun cm _ => ⟨bel_row _ _, cm.set n bel_St⟩⟩
  · exact ⟨.give o, a3, b3, by simp only [Row.ok]; omega, mean_ok (G := [.lst [(Row.bend o).d, (Row.give o).d]]) (by simp [b_law_row, runF, exSs, exS, evE, evEs, evAnd, evOr, evEo, evC, evIt, evT, thT, RE.bind, RE.fl, Fl.then, binD, cmpD, augD, idxD, slcD, Bi.sem, Bi.semL, isD, truth, fldD, setFldD, putFD, setIdxD, appD, getD, seqOf, bindTg, wipeD, D.isNon, List.replicate, List.getElem?_cons_zero, List.getElem?_cons_succ, List.set_cons_zero, List.set_cons_succ, List.map_cons, List.map_nil, List.length_cons, List.length_nil, atI_cons, ixN_lit, set_app, set_set, List.append_assoc, List.cons_append, List.nil_append, List.lookup_cons, szL, e1, e2, e3, Row.d]) (by simp) fun cm _ => ⟨bel_row _ _, cm.set n bel_St⟩⟩
/-! _law_inputs, slots 0 _law_stream_here, 1 _law_width_here, 2 _law_count, 3 _law_half, 4 _law_inputs_here, 5 _law_k, 6 _law_worth -/
abbrev st_law_inputs : Stmt := topS 27
theorem sn_law_inputs : FnScope ["_law_stream_here", "_law_width_here", "_law_count", "_law_half", "_law_inputs_here", "_law_k", "_law_worth"] ["_law_stream_here", "_law_width_here", "_law_count"] (defScope st_law_inputs) := ⟨rfl, rfl, rfl, by decide +kernel, rfl, by decide +kernel, by decide +kernel⟩
noncomputable def lb_law_inputs_1 : Ss := (.cons (.set 6 (.call "_law_integer" F_law_integer (.cons (.loc 0) (.cons (.loc 1) .nil)))) (.cons (.ite (.cmp .Eq (.call "_law_take" F_law_take (.cons (.loc 0) (.cons (.int 12) .nil))) (.int 0)) (.cons (.set 6 (.idx (.lst (.cons (.loc 3) (.cons (.bin .Sub (.neg (.loc 3)) (.int 1)) (.cons (.bin .Add (.loc 3) (.call "_law_take" F_law_take (.cons (.loc 0) (.cons (.bin .Pow (.int 10) (.int 6)) .nil)))) .nil)))) (.call "_law_take" F_law_take (.cons (.loc 0) (.cons (.int 3) .nil))))) .nil) .nil) (.cons (.ex (.app (.loc 4) (.loc 6))) .nil)))
noncomputable def b_law_inputs : Ss := (.cons (.set 3 (.bin .LShift (.int 1) (.bin .Sub (.loc 1) (.int 1)))) (.cons (.set 4 (.lst .nil)) (.cons (.for (.nm 5) (.rng1 (.loc 2)) lb_law_inputs_1) (.cons (.ret (.loc 4)) .nil))))
theorem ck_law_inputs : chkSs ["_law_stream_here", "_law_width_here", "_law_count", "_law_half", "_law_inputs_here", "_law_k", "_law_worth"] (defScope st_law_inputs) none true b_law_inputs (defBody st_law_inputs) = true := by decide +kernel
noncomputable def F_law_inputs : FS := mean 1 0 b_law_inputs 7
theorem dr_law_inputs {ds : List D} {M : MH} (c : Cl M) (b : bels M.length ds) : ∃ n, Drop M (F_law_inputs ds M) (runF n b_law_inputs 7 ds M) := mean_drop (a := 1) (m := 0) (body := b_law_inputs) (k := 7) c b
def PIn (w : Int) (cnt n : Nat) (M : MH) (i : Nat) (δ : Ev) (M' : MH) : Prop := ∃ (acc : List Int) (a b : Int) (G : MH) (c1 c2 : Option D), M' = M.set n (St a b) ++ .lst (acc.map D.int) :: G ∧ δ = [some (.loc n), some (.int w), some (.int cnt), some (.int (half w)), some (.loc M.length), c1, c2] ∧ acc.length = i
theorem inputs_step {n cnt : Nat} {a0 b0 w : Int} {M : MH} (h1 : 2 ≤ w) (h2 : w ≤ 200) (hc : cnt ≤ 1000) (hM : M[n]? = some (St a0 b0)) (i : Nat) (d : D) (δ : Ev) (M' : MH) (hd : (rngD 0 1 cnt)[i]? = some d) (hP : PIn w cnt n M i δ M') :
    ∃ δ' δ2 M2, bindTg (.nm 5) d δ = some δ' ∧ (exSs 0 lb_law_inputs_1 δ' M' = .nx δ2 M2 ∨ exSs 0 lb_law_inputs_1 δ' M' = .ct δ2 M2) ∧ PIn w cnt n M (i + 1) δ2 M2 := by
  obtain ⟨acc, a, b, G, c1, c2, rfl, rfl, hl⟩ := hP
  obtain ⟨hi, rfl⟩ := rng_get hd
  have hn := at_lt hM
  have pw : okPow 10 6 := by unfold okPow; decide
  have hacc : acc.length < 16777216 := by omega
  obtain ⟨v, a1, b1, v1, v2, e1⟩ := e_law_integer (n := n) (M := M.set n (St a b) ++ .lst (acc.map D.int) :: G) h1 h2 (at_app (at_set hM _))
  rw [set_appS hn] at e1
  obtain ⟨k, a2, b2, q2, e2⟩ := e_law_take (n := n) (m := 12) (M := M.set n (St a1 b1) ++ .lst (acc.map D.int) :: G) (by decide) (by decide) (at_app (at_set hM _))
  rw [set_appS hn] at e2
  refine ⟨[some (.loc n), some (.int w), some (.int cnt), some (.int (half w)), some (.loc M.length), some (.int (0 + (i : Int) * 1)), c2], ?_⟩
  by_cases hk : k = 0
  · subst hk
    obtain ⟨z, a3, b3, q3, e3⟩ := e_law_take (n := n) (m := 1000000) (M := M.set n (St a2 b2) ++ .lst (acc.map D.int) :: G) (by decide) (by decide) (at_app (at_set hM _))
    rw [set_appS hn] at e3
    obtain ⟨y, a4, b4, q4, e4⟩ := e_law_take (n := n) (m := 3) (M := M.set n (St a3 b3) ++ .lst (acc.map D.int) :: (G ++ [.lst [.int (half w), .int (-half w - 1), .int (half w + z)]])) (by decide) (by decide) (at_app (at_set hM _))
    rw [set_appS hn] at e4
    have hy : y = 0 ∨ y = 1 ∨ y = 2 := by omega
    rcases hy with rfl | rfl | rfl
    · exact ⟨[some (.loc n), some (.int w), some (.int cnt), some (.int (half w)), some (.loc M.length), some (.int (0 + (i : Int) * 1)), some (.int (half w))], _, rfl, .inl (by simp [lb_law_inputs_1, runF, exSs, exS, evE, evEs, evAnd, evOr, evEo, evC, evIt, evT, thT, RE.bind, RE.fl, Fl.then, binD, cmpD, augD, idxD, slcD, Bi.sem, Bi.semL, isD, truth, fldD, setFldD, putFD, setIdxD, appD, getD, seqOf, bindTg, wipeD, D.isNon, List.replicate, List.getElem?_cons_zero, List.getElem?_cons_succ, List.set_cons_zero, List.set_cons_succ, List.map_cons, List.map_nil, List.length_cons, List.length_nil, atI_cons, ixN_lit, set_app, set_set, List.append_assoc, List.cons_append, List.nil_append, List.lookup_cons, szL, e1, e2, e3, e4, pw, at_offS, set_offS, hacc]), acc ++ [half w], a4, b4, G ++ [.lst [.int (half w), .int (-half w - 1), .int (half w + z)]], _, _, rfl, rfl, by simp [hl]⟩
    · exact ⟨[some (.loc n), some (.int w), some (.int cnt), some (.int (half w)), some (.loc M.length), some (.int (0 + (i : Int) * 1)), some (.int (-half w - 1))], _, rfl, .inl (by simp [lb_law_inputs_1, runF, exSs, exS, evE, evEs, evAnd, evOr, evEo, evC, evIt, evT, thT, RE.bind, RE.fl, Fl.then, binD, cmpD, augD, idxD, slcD, Bi.sem, Bi.semL, isD, truth, fldD, setFldD, putFD, setIdxD, appD, getD, seqOf, bindTg, wipeD, D.isNon, List.replicate, List.getElem?_cons_zero, List.getElem?_cons_succ, List.set_cons_zero, List.set_cons_succ, List.map_cons, List.map_nil, List.length_cons, List.length_nil, atI_cons, ixN_lit, set_app, set_set, List.append_assoc, List.cons_append, List.nil_append, List.lookup_cons, szL, e1, e2, e3, e4, pw, at_offS, set_offS, hacc]), acc ++ [-half w - 1], a4, b4, G ++ [.lst [.int (half w), .int (-half w - 1), .int (half w + z)]], _, _, rfl, rfl, by simp [hl]⟩
    · exact ⟨[some (.loc n), some (.int w), some (.int cnt), some (.int (half w)), some (.loc M.length), some (.int (0 + (i : Int) * 1)), some (.int (half w + z))], _, rfl, .inl (by simp [lb_law_inputs_1, runF, exSs, exS, evE, evEs, evAnd, evOr, evEo, evC, evIt, evT, thT, RE.bind, RE.fl, Fl.then, binD, cmpD, augD, idxD, slcD, Bi.sem, Bi.semL, isD, truth, fldD, setFldD, putFD, setIdxD, appD, getD, seqOf, bindTg, wipeD, D.isNon, List.replicate, List.getElem?_cons_zero, List.getElem?_cons_succ, List.set_cons_zero, List.set_cons_succ, List.map_cons, List.map_nil, List.length_cons, List.length_nil, atI_cons, ixN_lit, set_app, set_set, List.append_assoc, List.cons_append, List.nil_append, List.lookup_cons, szL, e1, e2, e3, e4, pw, at_offS, set_offS, hacc]), acc ++ [half w + z], a4, b4, G ++ [.lst [.int (half w), .int (-half w - 1), .int (half w + z)]], _, _, rfl, rfl, by simp [hl]⟩
  · exact ⟨[some (.loc n), some (.int w), some (.int cnt), some (.int (half w)), some (.loc M.length), some (.int (0 + (i : Int) * 1)), some (.int (v))], _, rfl, .inl (by simp [lb_law_inputs_1, runF, exSs, exS, evE, evEs, evAnd, evOr, evEo, evC, evIt, evT, thT, RE.bind, RE.fl, Fl.then, binD, cmpD, augD, idxD, slcD, Bi.sem, Bi.semL, isD, truth, fldD, setFldD, putFD, setIdxD, appD, getD, seqOf, bindTg, wipeD, D.isNon, List.replicate, List.getElem?_cons_zero, List.getElem?_cons_succ, List.set_cons_zero, List.set_cons_succ, List.map_cons, List.map_nil, List.length_cons, List.length_nil, atI_cons, ixN_lit, set_app, set_set, List.append_assoc, List.cons_append, List.nil_append, List.lookup_cons, szL, e1, e2, hk, at_offS, set_offS, hacc]), acc ++ [v], a2, b2, G, _, _, rfl, rfl, by simp [hl]⟩
theorem e_law_inputs {n cnt : Nat} {a b w : Int} {M : MH} (h1 : 2 ≤ w) (h2 : w ≤ 200) (hc : cnt ≤ 1000) (hM : M[n]? = some (St a b)) : ∃ (is : List Int) (a' b' : Int), is.length = cnt ∧ F_law_inputs [.loc n, .int w, .int cnt] M = .ok (.loc M.length) (M.set n (St a' b') ++ [.lst (is.map D.int)]) := by
  have pw : okPow 1 (w - 1) := okPow_1 (by omega) (by omega)
  have hH := half_eq (w := w)
  have ok : okR (cnt : Int) := okR_s (by omega) (by omega)
  obtain ⟨δ2, M2, hl, acc, a', b', G, c1, c2, rfl, rfl, hlen⟩ := forLoop_inv0 (g := []) (tg := .nm 5) (body := exSs 0 lb_law_inputs_1) (PIn w cnt n M) (rngD 0 1 cnt) (δ := [some (.loc n), some (.int w), some (.int cnt), some (.int (half w)), some (.loc M.length), none, none]) (M := M ++ [.lst []])
    ⟨[], a, b, [], none, none, by rw [set_id hM]; rfl, rfl, rfl⟩ (fun _ _ _ _ => trivial) (inputs_step h1 h2 hc hM)
  rw [rngD_len] at hlen
  refine ⟨acc, a', b', hlen, mean_ok (G := G) (by simp [b_law_inputs, runF, exSs, exS, evE, evEs, evAnd, evOr, evEo, evC, evIt, evT, thT, RE.bind, RE.fl, Fl.then, binD, cmpD, augD, idxD, slcD, Bi.sem, Bi.semL, isD, truth, fldD, setFldD, putFD, setIdxD, appD, getD, seqOf, bindTg, wipeD, D.isNon, List.replicate, List.getElem?_cons_zero, List.getElem?_cons_succ, List.set_cons_zero, List.set_cons_succ, List.map_cons, List.map_nil, List.length_cons, List.length_nil, atI_cons, ixN_lit, set_app, set_set, List.append_assoc, List.cons_append, List.nil_append, List.lookup_cons, szL, pw, hH, ok, hl]) (by simp) fun cm _ => ⟨by simp [D.bel], (cm.set n bel_St).push (by simp [MO.bel, bels_iff, D.bel])⟩⟩
/-! ### the law's own machine -/
/-! _law_machine, slots 0 _law_width_here, 1 _law_registers, 2 _law_rows, 3 _law_inputs_here, 4 _law_half, 5 _law_held, 6 _law_k, 7 _law_outputs, 8 _law_place, 9 _law_row_here, 10 _law_worth -/
abbrev st_law_machine : Stmt := topS 23
theorem sn_law_machine : FnScope ["_law_width_here", "_law_registers", "_law_rows", "_law_inputs_here", "_law_half", "_law_held", "_law_k", "_law_outputs", "_law_place", "_law_row_here", "_law_worth"] ["_law_width_here", "_law_registers", "_law_rows", "_law_inputs_here"] (defScope st_law_machine) := ⟨rfl, rfl, rfl, by decide +kernel, rfl, by decide +kernel, by decide +kernel⟩
noncomputable def le_law_machine_1 : E := (.int 0)
noncomputable def lb_law_machine_2 : Ss := (.cons (.set 9 (.idx (.loc 2) (.loc 8))) (.cons (.ite (.cmp .Eq (.idx (.loc 9) (.int 0)) (.str "give")) (.cons (.ex (.app (.loc 7) (.idx (.loc 5) (.idx (.loc 9) (.int 1))))) (.cons .cnt .nil)) .nil) (.cons (.set 10 (.bi .max (.cons (.int 0) (.cons (.idx (.loc 5) (.idx (.loc 9) (.int 1))) .nil)))) (.cons (.ite (.cmp .Eq (.idx (.loc 9) (.int 0)) (.str "load")) (.cons (.set 10 (.idx (.loc 3) (.idx (.loc 9) (.int 2)))) .nil) .nil) (.cons (.ite (.cmp .Eq (.idx (.loc 9) (.int 0)) (.str "set")) (.cons (.set 10 (.idx (.loc 9) (.int 2))) .nil) .nil) (.cons (.ite (.cmp .Eq (.idx (.loc 9) (.int 0)) (.str "times")) (.cons (.set 10 (.bin .Mult (.idx (.loc 9) (.int 3)) (.idx (.loc 5) (.idx (.loc 9) (.int 2))))) .nil) .nil) (.cons (.ite (.cmp .Eq (.idx (.loc 9) (.int 0)) (.str "add")) (.cons (.set 10 (.bin .Add (.idx (.loc 5) (.idx (.loc 9) (.int 1))) (.idx (.loc 5) (.idx (.loc 9) (.int 2))))) .nil) .nil) (.cons (.ite (.or (.cons (.cmp .Lt (.loc 10) (.neg (.loc 4))) (.cons (.cmp .GtE (.loc 10) (.loc 4)) .nil))) (.cons (.ret (.tup (.cons (.str "overflow") (.cons (.loc 8) .nil)))) .nil) .nil) (.cons (.sub (.loc 5) (.idx (.loc 9) (.int 1)) (.loc 10)) .nil)))))))))
noncomputable def b_law_machine : Ss := (.cons (.set 4 (.bin .LShift (.int 1) (.bin .Sub (.loc 0) (.int 1)))) (.cons (.set 5 (.lc [("_law_k", 6)] (.nm 6) (.rng1 (.loc 1)) .none le_law_machine_1)) (.cons (.set 7 (.lst .nil)) (.cons (.for (.nm 8) (.rng1 (.bi .len (.cons (.loc 2) .nil))) lb_law_machine_2) (.cons (.ret (.tup (.cons (.str "done") (.cons (.bi .tuple (.cons (.loc 7) .nil)) .nil)))) .nil)))))
theorem ck_law_machine : chkSs ["_law_width_here", "_law_registers", "_law_rows", "_law_inputs_here", "_law_half", "_law_held", "_law_k", "_law_outputs", "_law_place", "_law_row_here", "_law_worth"] (defScope st_law_machine) none true b_law_machine (defBody st_law_machine) = true := by decide +kernel
noncomputable def F_law_machine : FS := mean 0 0 b_law_machine 11
theorem dr_law_machine {ds : List D} {M : MH} (c : Cl M) (b : bels M.length ds) : ∃ n, Drop M (F_law_machine ds M) (runF n b_law_machine 11 ds M) := mean_drop (a := 0) (m := 0) (body := b_law_machine) (k := 11) c b
def PMa (w : Int) (rows : List Row) (is : List Int) (regs : Nat) (Z : D) (nr ni : Nat) (M : MH) (i : Nat) (δ : Ev) (M' : MH) : Prop := ∃ rs os a b e, M' = M ++ [.lst (rs.map D.int), .lst (os.map D.int)] ∧ δ = [some (.int w), some (.int regs), some (.loc nr), some (.loc ni), some (.int (half w)), some (.loc M.length), none, some (.loc (M.length + 1)), a, b, e] ∧ rs.length = regs ∧ BD rs ∧ os.length ≤ i ∧ i ≤ rows.length ∧ runR w is (rows.drop i) i rs os = Z
theorem at_off0 {M G : MH} : (M ++ G)[M.length]? = G[0]? := at_off (k := 0)
theorem set_off0 {M G : MH} {u : MO} : (M ++ G).set M.length u = M ++ G.set 0 u := set_off (k := 0)
theorem machine_step {w : Int} {ins regs nr ni : Nat} {rows : List Row} {is : List Int} {M : MH} (h1 : 2 ≤ w) (h2 : w ≤ 200) (r2 : regs ≤ 10000) (hn : rows.length ≤ 1000) (hR : M[nr]? = some (.lst (rows.map Row.d))) (ok : ∀ row ∈ rows, Row.ok w ins regs row)
    (hi : M[ni]? = some (.lst (is.map D.int))) (hil : is.length = ins) {Z : D} (i : Nat) (dd : D) (δ : Ev) (M' : MH) (hd : (rngD 0 1 rows.length)[i]? = some dd) (hP : PMa w rows is regs Z nr ni M i δ M') :
    ∃ δ', bindTg (.nm 8) dd δ = some δ' ∧ ((∃ δ2 M2, (exSs 0 lb_law_machine_2 δ' M' = .nx δ2 M2 ∨ exSs 0 lb_law_machine_2 δ' M' = .ct δ2 M2) ∧ PMa w rows is regs Z nr ni M (i + 1) δ2 M2) ∨ ∃ v M2, exSs 0 lb_law_machine_2 δ' M' = .rt v M2 ∧ ∃ G, Fl.rt v M2 = .rt Z (M ++ G)) := by
  obtain ⟨rs, os, a, b, e, rfl, rfl, hrl, bd, hol, hile, hrun⟩ := hP
  obtain ⟨hlt, rfl⟩ := rng_get hd
  obtain ⟨row, q⟩ : ∃ row, rows[i]? = some row := ⟨_, List.getElem?_eq_getElem hlt⟩
  have okr := ok row (List.mem_of_getElem? q)
  have hdrop : rows.drop i = row :: rows.drop (i + 1) := by
    rw [List.drop_eq_getElem_cons hlt]
    congr 1
    exact (List.getElem?_eq_some_iff.mp q).2
  rw [hdrop] at hrun
  unfold runR stepR at hrun
  have hrow : atI (rows.map Row.d) (i : Int) = some row.d := atI_nat (by rw [List.getElem?_map, q]; rfl)
  have hr : ∀ {j : Nat}, j < regs → atI (rs.map D.int) (j : Int) = some (.int (gt rs j)) := fun h => at_ints (by omega)
  have hr2 : ∀ {j : Nat}, j < regs → ixN rs.length (j : Int) = some j := fun {j} h => by have := ix_ints (xs := rs) (j := j) (by omega); rwa [List.length_map] at this
  have hb : ∀ {j : Nat}, j < regs → -(2 ^ 200) < gt rs j ∧ gt rs j < 2 ^ 200 := fun h => bd _ (gt_mem (by omega))
  have hx : ∀ {j : Nat}, j < ins → atI (is.map D.int) (j : Int) = some (.int (gt is j)) := fun h => at_ints (by omega)
  have hol2 : os.length < 16777216 := by omega
  have hh := half_le h2
  have hR' : (M ++ [.lst (rs.map D.int), .lst (os.map D.int)])[nr]? = some (.lst (rows.map Row.d)) := at_app hR
  have hi' : (M ++ [.lst (rs.map D.int), .lst (os.map D.int)])[ni]? = some (.lst (is.map D.int)) := at_app hi
  refine ⟨[some (.int w), some (.int regs), some (.loc nr), some (.loc ni), some (.int (half w)), some (.loc M.length), none, some (.loc (M.length + 1)), some (.int (0 + (i : Int) * 1)), b, e], rfl, ?_⟩
  cases row with
    | give r =>
      simp only [Row.ok] at okr
      rw [if_pos (by simp [Row.isGive])] at hrun
      exact .inl ⟨[some (.int w), some (.int regs), some (.loc nr), some (.loc ni), some (.int (half w)), some (.loc M.length), none, some (.loc (M.length + 1)), some (.int (i : Int)), some (Row.d (.give r)), e], M ++ [.lst (rs.map D.int), .lst ((os ++ [gt rs r]).map D.int)], .inr (by simp [lb_law_machine_2, runF, exSs, exS, evE, evEs, evAnd, evOr, evEo, evC, evIt, evT, thT, RE.bind, RE.fl, Fl.then, binD, cmpD, augD, idxD, slcD, Bi.sem, Bi.semL, isD, truth, fldD, setFldD, putFD, setIdxD, appD, getD, seqOf, bindTg, wipeD, D.isNon, List.replicate, List.getElem?_cons_zero, List.getElem?_cons_succ, List.set_cons_zero, List.set_cons_succ, List.map_cons, List.map_nil, List.length_cons, List.length_nil, atI_cons, ixN_lit, set_app, set_set, List.append_assoc, List.cons_append, List.nil_append, List.lookup_cons, szL, hR', hrow, Row.d, at_off0, at_off, set_off, hr okr, hol2]), rs, os ++ [gt rs r], _, _, _, rfl, rfl, hrl, bd, by simp; omega, by omega, hrun⟩
    | load r i' =>
      simp only [Row.ok] at okr
      rw [if_neg (by simp [Row.isGive])] at hrun
      by_cases c1 : gt is i' < -half w
      · rw [if_neg (show ¬ (-half w ≤ resV rs is (.load r i') ∧ resV rs is (.load r i') < half w) by simp only [resV]; omega)] at hrun
        refine .inr ⟨.tup [.str "overflow", .int i], M ++ [.lst (rs.map D.int), .lst (os.map D.int)], by simp [lb_law_machine_2, runF, exSs, exS, evE, evEs, evAnd, evOr, evEo, evC, evIt, evT, thT, RE.bind, RE.fl, Fl.then, binD, cmpD, augD, idxD, slcD, Bi.sem, Bi.semL, isD, truth, fldD, setFldD, putFD, setIdxD, appD, getD, seqOf, bindTg, wipeD, D.isNon, List.replicate, List.getElem?_cons_zero, List.getElem?_cons_succ, List.set_cons_zero, List.set_cons_succ, List.map_cons, List.map_nil, List.length_cons, List.length_nil, atI_cons, ixN_lit, set_app, set_set, List.append_assoc, List.cons_append, List.nil_append, List.lookup_cons, szL, hR', hi', hrow, Row.d, ks_ne, at_off0, at_off, set_off0, set_off, max0, hr2 okr.1, hr okr.1, hx okr.2, c1], [.lst (rs.map D.int), .lst (os.map D.int)], by rw [← hrun]⟩
      · by_cases c2 : half w ≤ gt is i'
        · rw [if_neg (show ¬ (-half w ≤ resV rs is (.load r i') ∧ resV rs is (.load r i') < half w) by simp only [resV]; omega)] at hrun
          refine .inr ⟨.tup [.str "overflow", .int i], M ++ [.lst (rs.map D.int), .lst (os.map D.int)], by simp [lb_law_machine_2, runF, exSs, exS, evE, evEs, evAnd, evOr, evEo, evC, evIt, evT, thT, RE.bind, RE.fl, Fl.then, binD, cmpD, augD, idxD, slcD, Bi.sem, Bi.semL, isD, truth, fldD, setFldD, putFD, setIdxD, appD, getD, seqOf, bindTg, wipeD, D.isNon, List.replicate, List.getElem?_cons_zero, List.getElem?_cons_succ, List.set_cons_zero, List.set_cons_succ, List.map_cons, List.map_nil, List.length_cons, List.length_nil, atI_cons, ixN_lit, set_app, set_set, List.append_assoc, List.cons_append, List.nil_append, List.lookup_cons, szL, hR', hi', hrow, Row.d, ks_ne, at_off0, at_off, set_off0, set_off, max0, hr2 okr.1, hr okr.1, hx okr.2, c1, c2], [.lst (rs.map D.int), .lst (os.map D.int)], by rw [← hrun]⟩
        · rw [if_pos (show -half w ≤ resV rs is (.load r i') ∧ resV rs is (.load r i') < half w by simp only [resV]; omega)] at hrun
          exact .inl ⟨[some (.int w), some (.int regs), some (.loc nr), some (.loc ni), some (.int (half w)), some (.loc M.length), none, some (.loc (M.length + 1)), some (.int (i : Int)), some (Row.d (.load r i')), some (.int (gt is i'))], M ++ [.lst ((rs.set r (gt is i')).map D.int), .lst (os.map D.int)], .inl (by simp [lb_law_machine_2, runF, exSs, exS, evE, evEs, evAnd, evOr, evEo, evC, evIt, evT, thT, RE.bind, RE.fl, Fl.then, binD, cmpD, augD, idxD, slcD, Bi.sem, Bi.semL, isD, truth, fldD, setFldD, putFD, setIdxD, appD, getD, seqOf, bindTg, wipeD, D.isNon, List.replicate, List.getElem?_cons_zero, List.getElem?_cons_succ, List.set_cons_zero, List.set_cons_succ, List.map_cons, List.map_nil, List.length_cons, List.length_nil, atI_cons, ixN_lit, set_app, set_set, List.append_assoc, List.cons_append, List.nil_append, List.lookup_cons, szL, hR', hi', hrow, Row.d, ks_ne, at_off0, at_off, set_off0, set_off, max0, hr2 okr.1, hr okr.1, hx okr.2, c1, c2]), _, os, _, _, _, rfl, rfl, by simp [hrl], bd.set (fit_bd (v := gt is i') h2 (by omega) (by omega)), by omega, by omega, hrun⟩
    | set r v =>
      simp only [Row.ok] at okr
      rw [if_neg (by simp [Row.isGive])] at hrun
      by_cases c1 : v < -half w
      · rw [if_neg (show ¬ (-half w ≤ resV rs is (.set r v) ∧ resV rs is (.set r v) < half w) by simp only [resV]; omega)] at hrun
        refine .inr ⟨.tup [.str "overflow", .int i], M ++ [.lst (rs.map D.int), .lst (os.map D.int)], by simp [lb_law_machine_2, runF, exSs, exS, evE, evEs, evAnd, evOr, evEo, evC, evIt, evT, thT, RE.bind, RE.fl, Fl.then, binD, cmpD, augD, idxD, slcD, Bi.sem, Bi.semL, isD, truth, fldD, setFldD, putFD, setIdxD, appD, getD, seqOf, bindTg, wipeD, D.isNon, List.replicate, List.getElem?_cons_zero, List.getElem?_cons_succ, List.set_cons_zero, List.set_cons_succ, List.map_cons, List.map_nil, List.length_cons, List.length_nil, atI_cons, ixN_lit, set_app, set_set, List.append_assoc, List.cons_append, List.nil_append, List.lookup_cons, szL, hR', hi', hrow, Row.d, ks_ne, at_off0, at_off, set_off0, set_off, max0, hr2 okr.1, hr okr.1, c1], [.lst (rs.map D.int), .lst (os.map D.int)], by rw [← hrun]⟩
      · by_cases c2 : half w ≤ v
        · rw [if_neg (show ¬ (-half w ≤ resV rs is (.set r v) ∧ resV rs is (.set r v) < half w) by simp only [resV]; omega)] at hrun
          refine .inr ⟨.tup [.str "overflow", .int i], M ++ [.lst (rs.map D.int), .lst (os.map D.int)], by simp [lb_law_machine_2, runF, exSs, exS, evE, evEs, evAnd, evOr, evEo, evC, evIt, evT, thT, RE.bind, RE.fl, Fl.then, binD, cmpD, augD, idxD, slcD, Bi.sem, Bi.semL, isD, truth, fldD, setFldD, putFD, setIdxD, appD, getD, seqOf, bindTg, wipeD, D.isNon, List.replicate, List.getElem?_cons_zero, List.getElem?_cons_succ, List.set_cons_zero, List.set_cons_succ, List.map_cons, List.map_nil, List.length_cons, List.length_nil, atI_cons, ixN_lit, set_app, set_set, List.append_assoc, List.cons_append, List.nil_append, List.lookup_cons, szL, hR', hi', hrow, Row.d, ks_ne, at_off0, at_off, set_off0, set_off, max0, hr2 okr.1, hr okr.1, c1, c2], [.lst (rs.map D.int), .lst (os.map D.int)], by rw [← hrun]⟩
        · rw [if_pos (show -half w ≤ resV rs is (.set r v) ∧ resV rs is (.set r v) < half w by simp only [resV]; omega)] at hrun
          exact .inl ⟨[some (.int w), some (.int regs), some (.loc nr), some (.loc ni), some (.int (half w)), some (.loc M.length), none, some (.loc (M.length + 1)), some (.int (i : Int)), some (Row.d (.set r v)), some (.int (v))], M ++ [.lst ((rs.set r (v)).map D.int), .lst (os.map D.int)], .inl (by simp [lb_law_machine_2, runF, exSs, exS, evE, evEs, evAnd, evOr, evEo, evC, evIt, evT, thT, RE.bind, RE.fl, Fl.then, binD, cmpD, augD, idxD, slcD, Bi.sem, Bi.semL, isD, truth, fldD, setFldD, putFD, setIdxD, appD, getD, seqOf, bindTg, wipeD, D.isNon, List.replicate, List.getElem?_cons_zero, List.getElem?_cons_succ, List.set_cons_zero, List.set_cons_succ, List.map_cons, List.map_nil, List.length_cons, List.length_nil, atI_cons, ixN_lit, set_app, set_set, List.append_assoc, List.cons_append, List.nil_append, List.lookup_cons, szL, hR', hi', hrow, Row.d, ks_ne, at_off0, at_off, set_off0, set_off, max0, hr2 okr.1, hr okr.1, c1, c2]), _, os, _, _, _, rfl, rfl, by simp [hrl], bd.set (fit_bd (v := v) h2 (by omega) (by omega)), by omega, by omega, hrun⟩
    | times r s v =>
      simp only [Row.ok] at okr
      rw [if_neg (by simp [Row.isGive])] at hrun
      have mv : okMul v (gt rs s) := okMul_b (by omega) (by omega) (hb okr.2.1).1 (hb okr.2.1).2
      by_cases c1 : v * gt rs s < -half w
      · rw [if_neg (show ¬ (-half w ≤ resV rs is (.times r s v) ∧ resV rs is (.times r s v) < half w) by simp only [resV]; omega)] at hrun
        refine .inr ⟨.tup [.str "overflow", .int i], M ++ [.lst (rs.map D.int), .lst (os.map D.int)], by simp [lb_law_machine_2, runF, exSs, exS, evE, evEs, evAnd, evOr, evEo, evC, evIt, evT, thT, RE.bind, RE.fl, Fl.then, binD, cmpD, augD, idxD, slcD, Bi.sem, Bi.semL, isD, truth, fldD, setFldD, putFD, setIdxD, appD, getD, seqOf, bindTg, wipeD, D.isNon, List.replicate, List.getElem?_cons_zero, List.getElem?_cons_succ, List.set_cons_zero, List.set_cons_succ, List.map_cons, List.map_nil, List.length_cons, List.length_nil, atI_cons, ixN_lit, set_app, set_set, List.append_assoc, List.cons_append, List.nil_append, List.lookup_cons, szL, hR', hi', hrow, Row.d, ks_ne, at_off0, at_off, set_off0, set_off, max0, hr2 okr.1, hr okr.1, hr okr.2.1, mv, c1], [.lst (rs.map D.int), .lst (os.map D.int)], by rw [← hrun]⟩
      · by_cases c2 : half w ≤ v * gt rs s
        · rw [if_neg (show ¬ (-half w ≤ resV rs is (.times r s v) ∧ resV rs is (.times r s v) < half w) by simp only [resV]; omega)] at hrun
          refine .inr ⟨.tup [.str "overflow", .int i], M ++ [.lst (rs.map D.int), .lst (os.map D.int)], by simp [lb_law_machine_2, runF, exSs, exS, evE, evEs, evAnd, evOr, evEo, evC, evIt, evT, thT, RE.bind, RE.fl, Fl.then, binD, cmpD, augD, idxD, slcD, Bi.sem, Bi.semL, isD, truth, fldD, setFldD, putFD, setIdxD, appD, getD, seqOf, bindTg, wipeD, D.isNon, List.replicate, List.getElem?_cons_zero, List.getElem?_cons_succ, List.set_cons_zero, List.set_cons_succ, List.map_cons, List.map_nil, List.length_cons, List.length_nil, atI_cons, ixN_lit, set_app, set_set, List.append_assoc, List.cons_append, List.nil_append, List.lookup_cons, szL, hR', hi', hrow, Row.d, ks_ne, at_off0, at_off, set_off0, set_off, max0, hr2 okr.1, hr okr.1, hr okr.2.1, mv, c1, c2], [.lst (rs.map D.int), .lst (os.map D.int)], by rw [← hrun]⟩
        · rw [if_pos (show -half w ≤ resV rs is (.times r s v) ∧ resV rs is (.times r s v) < half w by simp only [resV]; omega)] at hrun
          exact .inl ⟨[some (.int w), some (.int regs), some (.loc nr), some (.loc ni), some (.int (half w)), some (.loc M.length), none, some (.loc (M.length + 1)), some (.int (i : Int)), some (Row.d (.times r s v)), some (.int (v * gt rs s))], M ++ [.lst ((rs.set r (v * gt rs s)).map D.int), .lst (os.map D.int)], .inl (by simp [lb_law_machine_2, runF, exSs, exS, evE, evEs, evAnd, evOr, evEo, evC, evIt, evT, thT, RE.bind, RE.fl, Fl.then, binD, cmpD, augD, idxD, slcD, Bi.sem, Bi.semL, isD, truth, fldD, setFldD, putFD, setIdxD, appD, getD, seqOf, bindTg, wipeD, D.isNon, List.replicate, List.getElem?_cons_zero, List.getElem?_cons_succ, List.set_cons_zero, List.set_cons_succ, List.map_cons, List.map_nil, List.length_cons, List.length_nil, atI_cons, ixN_lit, set_app, set_set, List.append_assoc, List.cons_append, List.nil_append, List.lookup_cons, szL, hR', hi', hrow, Row.d, ks_ne, at_off0, at_off, set_off0, set_off, max0, hr2 okr.1, hr okr.1, hr okr.2.1, mv, c1, c2]), _, os, _, _, _, rfl, rfl, by simp [hrl], bd.set (fit_bd (v := v * gt rs s) h2 (by omega) (by omega)), by omega, by omega, hrun⟩
    | add r s =>
      simp only [Row.ok] at okr
      rw [if_neg (by simp [Row.isGive])] at hrun
      by_cases c1 : gt rs r + gt rs s < -half w
      · rw [if_neg (show ¬ (-half w ≤ resV rs is (.add r s) ∧ resV rs is (.add r s) < half w) by simp only [resV]; omega)] at hrun
        refine .inr ⟨.tup [.str "overflow", .int i], M ++ [.lst (rs.map D.int), .lst (os.map D.int)], by simp [lb_law_machine_2, runF, exSs, exS, evE, evEs, evAnd, evOr, evEo, evC, evIt, evT, thT, RE.bind, RE.fl, Fl.then, binD, cmpD, augD, idxD, slcD, Bi.sem, Bi.semL, isD, truth, fldD, setFldD, putFD, setIdxD, appD, getD, seqOf, bindTg, wipeD, D.isNon, List.replicate, List.getElem?_cons_zero, List.getElem?_cons_succ, List.set_cons_zero, List.set_cons_succ, List.map_cons, List.map_nil, List.length_cons, List.length_nil, atI_cons, ixN_lit, set_app, set_set, List.append_assoc, List.cons_append, List.nil_append, List.lookup_cons, szL, hR', hi', hrow, Row.d, ks_ne, at_off0, at_off, set_off0, set_off, max0, hr2 okr.1, hr okr.1, hr okr.2, c1], [.lst (rs.map D.int), .lst (os.map D.int)], by rw [← hrun]⟩
      · by_cases c2 : half w ≤ gt rs r + gt rs s
        · rw [if_neg (show ¬ (-half w ≤ resV rs is (.add r s) ∧ resV rs is (.add r s) < half w) by simp only [resV]; omega)] at hrun
          refine .inr ⟨.tup [.str "overflow", .int i], M ++ [.lst (rs.map D.int), .lst (os.map D.int)], by simp [lb_law_machine_2, runF, exSs, exS, evE, evEs, evAnd, evOr, evEo, evC, evIt, evT, thT, RE.bind, RE.fl, Fl.then, binD, cmpD, augD, idxD, slcD, Bi.sem, Bi.semL, isD, truth, fldD, setFldD, putFD, setIdxD, appD, getD, seqOf, bindTg, wipeD, D.isNon, List.replicate, List.getElem?_cons_zero, List.getElem?_cons_succ, List.set_cons_zero, List.set_cons_succ, List.map_cons, List.map_nil, List.length_cons, List.length_nil, atI_cons, ixN_lit, set_app, set_set, List.append_assoc, List.cons_append, List.nil_append, List.lookup_cons, szL, hR', hi', hrow, Row.d, ks_ne, at_off0, at_off, set_off0, set_off, max0, hr2 okr.1, hr okr.1, hr okr.2, c1, c2], [.lst (rs.map D.int), .lst (os.map D.int)], by rw [← hrun]⟩
        · rw [if_pos (show -half w ≤ resV rs is (.add r s) ∧ resV rs is (.add r s) < half w by simp only [resV]; omega)] at hrun
          exact .inl ⟨[some (.int w), some (.int regs), some (.loc nr), some (.loc ni), some (.int (half w)), some (.loc M.length), none, some (.loc (M.length + 1)), some (.int (i : Int)), some (Row.d (.add r s)), some (.int (gt rs r + gt rs s))], M ++ [.lst ((rs.set r (gt rs r + gt rs s)).map D.int), .lst (os.map D.int)], .inl (by simp [lb_law_machine_2, runF, exSs, exS, evE, evEs, evAnd, evOr, evEo, evC, evIt, evT, thT, RE.bind, RE.fl, Fl.then, binD, cmpD, augD, idxD, slcD, Bi.sem, Bi.semL, isD, truth, fldD, setFldD, putFD, setIdxD, appD, getD, seqOf, bindTg, wipeD, D.isNon, List.replicate, List.getElem?_cons_zero, List.getElem?_cons_succ, List.set_cons_zero, List.set_cons_succ, List.map_cons, List.map_nil, List.length_cons, List.length_nil, atI_cons, ixN_lit, set_app, set_set, List.append_assoc, List.cons_append, List.nil_append, List.lookup_cons, szL, hR', hi', hrow, Row.d, ks_ne, at_off0, at_off, set_off0, set_off, max0, hr2 okr.1, hr okr.1, hr okr.2, c1, c2]), _, os, _, _, _, rfl, rfl, by simp [hrl], bd.set (fit_bd (v := gt rs r + gt rs s) h2 (by omega) (by omega)), by omega, by omega, hrun⟩
    | bend r =>
      simp only [Row.ok] at okr
      rw [if_neg (by simp [Row.isGive])] at hrun
      by_cases c1 : max 0 (gt rs r) < -half w
      · rw [if_neg (show ¬ (-half w ≤ resV rs is (.bend r) ∧ resV rs is (.bend r) < half w) by simp only [resV]; omega)] at hrun
        refine .inr ⟨.tup [.str "overflow", .int i], M ++ [.lst (rs.map D.int), .lst (os.map D.int)], by simp [lb_law_machine_2, runF, exSs, exS, evE, evEs, evAnd, evOr, evEo, evC, evIt, evT, thT, RE.bind, RE.fl, Fl.then, binD, cmpD, augD, idxD, slcD, Bi.sem, Bi.semL, isD, truth, fldD, setFldD, putFD, setIdxD, appD, getD, seqOf, bindTg, wipeD, D.isNon, List.replicate, List.getElem?_cons_zero, List.getElem?_cons_succ, List.set_cons_zero, List.set_cons_succ, List.map_cons, List.map_nil, List.length_cons, List.length_nil, atI_cons, ixN_lit, set_app, set_set, List.append_assoc, List.cons_append, List.nil_append, List.lookup_cons, szL, hR', hi', hrow, Row.d, ks_ne, at_off0, at_off, set_off0, set_off, max0, hr2 okr, hr okr, c1], [.lst (rs.map D.int), .lst (os.map D.int)], by rw [← hrun]⟩
      · by_cases c2 : half w ≤ max 0 (gt rs r)
        · rw [if_neg (show ¬ (-half w ≤ resV rs is (.bend r) ∧ resV rs is (.bend r) < half w) by simp only [resV]; omega)] at hrun
          refine .inr ⟨.tup [.str "overflow", .int i], M ++ [.lst (rs.map D.int), .lst (os.map D.int)], by simp [lb_law_machine_2, runF, exSs, exS, evE, evEs, evAnd, evOr, evEo, evC, evIt, evT, thT, RE.bind, RE.fl, Fl.then, binD, cmpD, augD, idxD, slcD, Bi.sem, Bi.semL, isD, truth, fldD, setFldD, putFD, setIdxD, appD, getD, seqOf, bindTg, wipeD, D.isNon, List.replicate, List.getElem?_cons_zero, List.getElem?_cons_succ, List.set_cons_zero, List.set_cons_succ, List.map_cons, List.map_nil, List.length_cons, List.length_nil, atI_cons, ixN_lit, set_app, set_set, List.append_assoc, List.cons_append, List.nil_append, List.lookup_cons, szL, hR', hi', hrow, Row.d, ks_ne, at_off0, at_off, set_off0, set_off, max0, hr2 okr, hr okr, c1, c2], [.lst (rs.map D.int), .lst (os.map D.int)], by rw [← hrun]⟩
        · rw [if_pos (show -half w ≤ resV rs is (.bend r) ∧ resV rs is (.bend r) < half w by simp only [resV]; omega)] at hrun
          exact .inl ⟨[some (.int w), some (.int regs), some (.loc nr), some (.loc ni), some (.int (half w)), some (.loc M.length), none, some (.loc (M.length + 1)), some (.int (i : Int)), some (Row.d (.bend r)), some (.int (max 0 (gt rs r)))], M ++ [.lst ((rs.set r (max 0 (gt rs r))).map D.int), .lst (os.map D.int)], .inl (by simp [lb_law_machine_2, runF, exSs, exS, evE, evEs, evAnd, evOr, evEo, evC, evIt, evT, thT, RE.bind, RE.fl, Fl.then, binD, cmpD, augD, idxD, slcD, Bi.sem, Bi.semL, isD, truth, fldD, setFldD, putFD, setIdxD, appD, getD, seqOf, bindTg, wipeD, D.isNon, List.replicate, List.getElem?_cons_zero, List.getElem?_cons_succ, List.set_cons_zero, List.set_cons_succ, List.map_cons, List.map_nil, List.length_cons, List.length_nil, atI_cons, ixN_lit, set_app, set_set, List.append_assoc, List.cons_append, List.nil_append, List.lookup_cons, szL, hR', hi', hrow, Row.d, ks_ne, at_off0, at_off, set_off0, set_off, max0, hr2 okr, hr okr, c1, c2]), _, os, _, _, _, rfl, rfl, by simp [hrl], bd.set (fit_bd (v := max 0 (gt rs r)) h2 (by omega) (by omega)), by omega, by omega, hrun⟩
theorem e_law_machine {w : Int} {ins regs nr ni : Nat} {rows : List Row} {is : List Int} {M : MH} (h1 : 2 ≤ w) (h2 : w ≤ 200) (r2 : regs ≤ 10000) (hn : rows.length ≤ 1000) (hR : M[nr]? = some (.lst (rows.map Row.d))) (ok : ∀ row ∈ rows, Row.ok w ins regs row)
    (hi : M[ni]? = some (.lst (is.map D.int))) (hil : is.length = ins) : F_law_machine [.int w, .int regs, .loc nr, .loc ni] M = .ok (runR w is rows 0 (List.replicate regs 0) []) M := by
  obtain ⟨Z, hZ⟩ : ∃ Z, runR w is rows 0 (List.replicate regs 0) [] = Z := ⟨_, rfl⟩
  have hZb : ∀ n, Z.bel n := fun n => hZ ▸ bel_run
  rw [hZ]
  have pw : okPow 1 (w - 1) := okPow_1 (by omega) (by omega)
  have hH := half_eq (w := w)
  have okg : okR (regs : Int) := okR_s (by omega) (by omega)
  have okn : okR (rows.length : Int) := okR_s (by omega) (by omega)
  obtain ⟨acc0, M0, hlc, hM0, hacc0⟩ := lcLoop_inv0 (g := []) (f := lcTurn (.nm 6) (fun _ M => .ok true M) (evE le_law_machine_1) [some (.int w), some (.int regs), some (.loc nr), some (.loc ni), some (.int (half w)), none, none, none, none, none, none]) (fun i acc M' => M' = M ∧ acc = List.replicate i (.int 0)) (rngD 0 1 regs) (by rw [rngD_len, szL]; omega) (M := M) ⟨rfl, rfl⟩ (fun _ _ _ _ => trivial) (fun i acc M' h => by rw [h.2]; simp) (by
    rintro i d acc M' hd ⟨rfl, rfl⟩
    exact ⟨.int 0, M', by simp [lcTurn, le_law_machine_1, runF, exSs, exS, evE, evEs, evAnd, evOr, evEo, evC, evIt, evT, thT, RE.bind, RE.fl, Fl.then, binD, cmpD, augD, idxD, slcD, Bi.sem, Bi.semL, isD, truth, fldD, setFldD, putFD, setIdxD, appD, getD, seqOf, bindTg, wipeD, D.isNon, List.replicate, List.getElem?_cons_zero, List.getElem?_cons_succ, List.set_cons_zero, List.set_cons_succ, List.map_cons, List.map_nil, List.length_cons, List.length_nil, atI_cons, ixN_lit, set_app, set_set, List.append_assoc, List.cons_append, List.nil_append, List.lookup_cons, szL], rfl, by rw [List.replicate_succ']⟩)
  rw [rngD_len] at hacc0
  rw [hM0, hacc0] at hlc
  have main := forLoop_ret0 (g := []) (tg := .nm 8) (body := exSs 0 lb_law_machine_2) (PMa w rows is regs Z nr ni M)
    (fun f => ∃ G, f = .rt Z (M ++ G)) (rngD 0 1 rows.length) (δ := [some (.int w), some (.int regs), some (.loc nr), some (.loc ni), some (.int (half w)), some (.loc M.length), none, some (.loc (M.length + 1)), none, none, none]) (M := M ++ [.lst (List.replicate regs (.int 0)), .lst []])
    ⟨List.replicate regs 0, [], none, none, none, by simp, rfl, by simp, fun x hx => by rw [(List.mem_replicate.mp hx).2]; decide, Nat.le_refl _, Nat.zero_le _, hZ⟩ (fun _ _ _ _ => trivial) (machine_step h1 h2 r2 hn hR ok hi hil)
  rcases main with ⟨δ2, M2, hl, rs, os, a, b, e, rfl, rfl, hrl, bd, hol, hile, hrun⟩ | ⟨v, M2, hl, G, hG⟩
  · rw [rngD_len, List.drop_length] at hrun
    unfold runR at hrun
    refine mean_g (G := [.lst (rs.map D.int), .lst (os.map D.int)]) ?_ hZb
    rw [← hrun]
    simp [b_law_machine, runF, exSs, exS, evE, evEs, evAnd, evOr, evEo, evC, evIt, evT, thT, RE.bind, RE.fl, Fl.then, binD, cmpD, augD, idxD, slcD, Bi.sem, Bi.semL, isD, truth, fldD, setFldD, putFD, setIdxD, appD, getD, seqOf, bindTg, wipeD, D.isNon, List.replicate, List.getElem?_cons_zero, List.getElem?_cons_succ, List.set_cons_zero, List.set_cons_succ, List.map_cons, List.map_nil, List.length_cons, List.length_nil, atI_cons, ixN_lit, set_app, set_set, List.append_assoc, List.cons_append, List.nil_append, List.lookup_cons, szL, pw, hH, okg, okn, hlc, hR, at_app, hl, at_off]
  · cases hG
    refine mean_g (G := G) ?_ hZb
    simp [b_law_machine, runF, exSs, exS, evE, evEs, evAnd, evOr, evEo, evC, evIt, evT, thT, RE.bind, RE.fl, Fl.then, binD, cmpD, augD, idxD, slcD, Bi.sem, Bi.semL, isD, truth, fldD, setFldD, putFD, setIdxD, appD, getD, seqOf, bindTg, wipeD, D.isNon, List.replicate, List.getElem?_cons_zero, List.getElem?_cons_succ, List.set_cons_zero, List.set_cons_succ, List.map_cons, List.map_nil, List.length_cons, List.length_nil, atI_cons, ixN_lit, set_app, set_set, List.append_assoc, List.cons_append, List.nil_append, List.lookup_cons, szL, pw, hH, okg, okn, hlc, hR, at_app, hl, at_off]
end K65


set_option maxHeartbeats 4000000
/-! k65: the law. -/
namespace K65
open PySem PySem.Spec PyProof.Rows L2 RF
/-! ### the law -/
/-! Code.__init__, slots 0 self, 1 width, 2 inputs, 3 registers, 4 instructions -/
abbrev st_Code_init : Stmt := inClass (topS 10) 0
theorem sn_Code_init : FnScope ["self", "width", "inputs", "registers", "instructions"] ["self", "width", "inputs", "registers", "instructions"] (defScope st_Code_init) := ⟨rfl, rfl, rfl, by decide +kernel, rfl, by decide +kernel, by decide +kernel⟩
noncomputable def b_Code_init : Ss := (.cons (.fld (.loc 0) "Code" "width" (.loc 1)) (.cons (.fld (.loc 0) "Code" "inputs" (.loc 2)) (.cons (.fld (.loc 0) "Code" "registers" (.loc 3)) (.cons (.fld (.loc 0) "Code" "instructions" (.loc 4)) .nil))))
theorem ck_Code_init : chkSs ["self", "width", "inputs", "registers", "instructions"] (defScope st_Code_init) none true b_Code_init (defBody st_Code_init) = true := by decide +kernel
noncomputable def F_Code_init : FS := mean 0 0 b_Code_init 5
theorem dr_Code_init {ds : List D} {M : MH} (c : Cl M) (b : bels M.length ds) : ∃ n, Drop M (F_Code_init ds M) (runF n b_Code_init 5 ds M) := mean_drop (a := 0) (m := 0) (body := b_Code_init) (k := 5) c b
theorem e_Code_init {n : Nat} {w : Int} {ins regs : Nat} {rows : List Row} {M : MH} (hM : M[n]? = some (.ins "Code" [])) : F_Code_init [.loc n, .int w, .int ins, .int regs, .tup (rows.map Row.d)] M = .ok .non (M.set n (.ins "Code" (codeF w ins regs rows))) := by
  refine mean_ok (G := []) ?_ (by simp) fun cm _ => ⟨by simp [D.bel], cm.set n (by simp [MO.bel, belF, codeF, D.bel, bels_iff, bel_row])⟩
  have e : ∀ u, (M.set n u)[n]? = some u := at_set hM
  simp [b_Code_init, runF, exSs, exS, evE, evEs, evAnd, evOr, evEo, evC, evIt, evT, thT, RE.bind, RE.fl, Fl.then, binD, cmpD, augD, idxD, slcD, Bi.sem, Bi.semL, isD, truth, fldD, setFldD, putFD, setIdxD, appD, getD, seqOf, bindTg, wipeD, D.isNon, List.replicate, List.getElem?_cons_zero, List.getElem?_cons_succ, List.set_cons_zero, List.set_cons_succ, List.map_cons, List.map_nil, List.length_cons, List.length_nil, atI_cons, ixN_lit, set_app, set_set, List.append_assoc, List.cons_append, List.nil_append, List.lookup_cons, szL, hM, e, kf_ne, codeF]
theorem lk_code {w : Int} {ins regs : Nat} {rows : List Row} : (codeF w ins regs rows).lookup ("width" : Str) = some (.int w) ∧ (codeF w ins regs rows).lookup ("inputs" : Str) = some (.int ins) ∧ (codeF w ins regs rows).lookup ("registers" : Str) = some (.int regs) ∧ (codeF w ins regs rows).lookup ("instructions" : Str) = some (.tup (rows.map Row.d)) := by
  simp [codeF, List.lookup_cons, kf_bq]
theorem toP_pl : ∀ (k : Nat) (d : D) (M : MH) (j : Nat), Pl k d → ∃ p, toP M j d = some p ∧ p.canLay0 = true ∧ p.depth ≤ k
  | k, .int i, M, j, h => ⟨.int i, by simp [toP], by simp [PyData.canLay0], by simp [PyData.depth]⟩
  | k, .str i, M, j, h => ⟨.str i, by simp [toP], by unfold Pl at h; simpa [PyData.canLay0] using h, by simp [PyData.depth]⟩
  | k + 1, .tup xs, M, j, h => by
    have q : ∀ (ys : List D), (∀ x ∈ ys, Pl k x) → ∃ ps, toPs M j ys = some ps ∧ PyData.canLayAll0 ps = true ∧ PyData.depthAll ps ≤ k := by
      intro ys
      induction ys with
      | nil => exact fun _ => ⟨[], by simp [toPs], by simp [PyData.canLayAll0], by simp [PyData.depthAll]⟩
      | cons y ys ih =>
        intro hy
        obtain ⟨p, e1, e2, e3⟩ := toP_pl k y M j (hy y List.mem_cons_self)
        obtain ⟨ps, f1, f2, f3⟩ := ih fun x hx => hy x (List.mem_cons_of_mem _ hx)
        exact ⟨p :: ps, by simp [toPs, e1, f1], by simp [PyData.canLayAll0, e2, f2], by simp [PyData.depthAll]; omega⟩
    obtain ⟨ps, e1, e2, e3⟩ := q xs h.2
    exact ⟨.tuple ps, by simp [toP, e1], by simpa [PyData.canLay0] using e2, by simp [PyData.depth]; omega⟩
  | 0, .tup xs, M, j, h => h.elim
  | k, .non, M, j, h => by cases k <;> exact h.elim
  | k, .bl _, M, j, h => by cases k <;> exact h.elim
  | k, .frl _, M, j, h => by cases k <;> exact h.elim
  | k, .loc _, M, j, h => by cases k <;> exact h.elim
theorem eq_self {k : Nat} {d : D} {M : MH} (hk : k ≤ 60) (h : Pl k d) : eqD M d d = some true := by
  obtain ⟨p, e1, e2, e3⟩ := toP_pl k d M 3 h
  have s : SeqAt.shaped p = true := by unfold SeqAt.shaped; rw [e2]; simp; omega
  unfold eqD
  rw [e1]
  simp only [s, and_self, if_true, SeqAt.eqv_refl p e2]
theorem toPs_ints {M : MH} {j : Nat} : ∀ xs : List Int, toPs M j (xs.map D.int) = some (xs.map PyData.int) ∧ PyData.canLayAll0 (xs.map PyData.int) = true ∧ PyData.depthAll (xs.map PyData.int) = 0
  | [] => by simp [toPs, PyData.canLayAll0, PyData.depthAll]
  | x :: xs => by
    obtain ⟨h1, h2, h3⟩ := toPs_ints (M := M) (j := j) xs
    simp [toPs, toP, h1, PyData.canLayAll0, PyData.canLay0, h2, PyData.depthAll, PyData.depth, h3]
theorem eq_lists {xs : List Int} {n m : Nat} {M : MH} (h1 : M[n]? = some (.lst (xs.map D.int))) (h2 : M[m]? = some (.lst (xs.map D.int))) : eqD M (.loc n) (.loc m) = some true := by
  obtain ⟨q1, q2, q3⟩ := toPs_ints (M := M) (j := 2) xs
  have e1 : toP M 3 (.loc n) = some (.list (xs.map PyData.int)) := by simp [toP, h1, q1]
  have e2 : toP M 3 (.loc m) = some (.list (xs.map PyData.int)) := by simp [toP, h2, q1]
  have cl : (PyData.list (xs.map PyData.int)).canLay0 = true := by simpa [PyData.canLay0] using q2
  have sh : SeqAt.shaped (.list (xs.map PyData.int)) = true := by
    unfold SeqAt.shaped
    rw [cl]
    simp [PyData.depth, q3]
  unfold eqD
  rw [e1, e2]
  simp only [sh, and_self, if_true, SeqAt.eqv_refl _ cl]
theorem pl_row (r : Row) : Pl 2 r.d := by
  have h : PyData.strOk "load" = true ∧ PyData.strOk "set" = true ∧ PyData.strOk "times" = true ∧ PyData.strOk "add" = true ∧ PyData.strOk "bend" = true ∧ PyData.strOk "give" = true := by decide +kernel
  cases r <;> simp [Row.d, Pl, h]
theorem pl_run {w : Int} {is : List Int} : ∀ {rows : List Row} {k : Nat} {rs os : List Int}, os.length + rows.length ≤ 1000 → Pl 3 (runR w is rows k rs os)
  | [], k, rs, os, h => by
    have hs : PyData.strOk "done" = true := by decide +kernel
    unfold runR
    simp [Pl, hs]
    omega
  | r :: rows, k, rs, os, h => by
    have hs : PyData.strOk "overflow" = true := by decide +kernel
    unfold runR
    rw [List.length_cons] at h
    split
    · rename_i rs' os' e
      refine pl_run ?_
      unfold stepR at e
      split at e
      · cases e; simp; omega
      · split at e
        · cases e; omega
        · cases e
    · simp [Pl, hs]
/-! law, slots 0 _law_script, 1 _law_stream_here, 2 _law_width_here, 3 _law_inputs_here, 4 _law_registers, 5 _law_given, 6 _law_rows, 7 _law_k, 8 _law_cell_here, 9 _law_code, 10 _law_due, 11 _law_passed -/
abbrev st_law : Stmt := topS 28
theorem sn_law : FnScope ["_law_script", "_law_stream_here", "_law_width_here", "_law_inputs_here", "_law_registers", "_law_given", "_law_rows", "_law_k", "_law_cell_here", "_law_code", "_law_due", "_law_passed"] ["_law_script"] (defScope st_law) := ⟨rfl, rfl, rfl, by decide +kernel, rfl, by decide +kernel, by decide +kernel⟩
noncomputable def le_law_1 : E := (.tup (.cons (.str "load") (.cons (.bin .Mod (.loc 7) (.loc 4)) (.cons (.loc 7) .nil))))
noncomputable def lb_law_2 : Ss := (.cons (.ex (.app (.loc 6) (.call "_law_row" F_law_row (.cons (.call "_law_stream" F_law_stream (.cons (.loc 8) .nil)) (.cons (.loc 2) (.cons (.loc 3) (.cons (.loc 4) .nil))))))) .nil)
noncomputable def lb_law_3 : Ss := (.cons (.ite (.or (.cons (.not (.call "_law_same" (F_law_same 4) (.cons (.call "run_code" F_run_code (.cons (.loc 9) (.cons (.loc 11) .nil))) (.cons (.loc 10) .nil)))) (.cons (.cmp .NotEq (.loc 11) (.loc 5)) .nil))) (.cons (.ret (.bl false)) .nil) .nil) .nil)
noncomputable def b_law : Ss := (.cons (.set 1 (.call "_law_stream" F_law_stream (.cons (.call "_law_cell" F_law_cell (.cons (.loc 0) (.cons (.int 0) .nil))) .nil))) (.cons (.set 2 (.call "_law_width" F_law_width (.cons (.loc 1) .nil))) (.cons (.set 3 (.bin .Add (.int 1) (.call "_law_take" F_law_take (.cons (.loc 1) (.cons (.int 4) .nil))))) (.cons (.set 4 (.bin .Add (.int 1) (.call "_law_take" F_law_take (.cons (.loc 1) (.cons (.int 6) .nil))))) (.cons (.set 5 (.call "_law_inputs" F_law_inputs (.cons (.loc 1) (.cons (.loc 2) (.cons (.loc 3) .nil))))) (.cons (.set 6 (.lc [("_law_k", 7)] (.nm 7) (.rng1 (.loc 3)) .none le_law_1)) (.cons (.for (.nm 8) (.seq (.slc (.loc 0) (.some (.int 1)) (.some (.int 41)))) lb_law_2) (.cons (.set 9 (.mk "Code" F_Code_init (.cons (.loc 2) (.cons (.loc 3) (.cons (.loc 4) (.cons (.bi .tuple (.cons (.loc 6) .nil)) .nil)))))) (.cons (.ite (.cmp .IsNot (.call "check_code" F_check_code (.cons (.loc 9) .nil)) .non) (.cons (.ret (.bl false)) .nil) .nil) (.cons (.set 10 (.call "_law_machine" F_law_machine (.cons (.loc 2) (.cons (.loc 4) (.cons (.loc 6) (.cons (.loc 5) .nil)))))) (.cons (.set 11 (.bi .list (.cons (.loc 5) .nil))) (.cons (.for (.nm 7) (.rng1 (.int 2)) lb_law_3) (.cons (.ite (.not (.call "_law_same" (F_law_same 4) (.cons (.call "run_code" F_run_code (.cons (.loc 9) (.cons (.bi .tuple (.cons (.loc 5) .nil)) .nil))) (.cons (.loc 10) .nil)))) (.cons (.ret (.bl false)) .nil) .nil) (.cons (.ret (.and (.cons (.cmp .Eq (.fld (.loc 9) "Code" "instructions") (.bi .tuple (.cons (.loc 6) .nil))) (.cons (.cmp .Eq (.fld (.loc 9) "Code" "width") (.loc 2)) (.cons (.cmp .Eq (.fld (.loc 9) "Code" "registers") (.loc 4)) (.cons (.cmp .Eq (.fld (.loc 9) "Code" "inputs") (.loc 3)) .nil)))))) .nil))))))))))))))
theorem ck_law : chkSs ["_law_script", "_law_stream_here", "_law_width_here", "_law_inputs_here", "_law_registers", "_law_given", "_law_rows", "_law_k", "_law_cell_here", "_law_code", "_law_due", "_law_passed"] (defScope st_law) none true b_law (defBody st_law) = true := by decide +kernel
noncomputable def F_law : FS := mean 0 0 b_law 12
theorem dr_law {ds : List D} {M : MH} (c : Cl M) (b : bels M.length ds) : ∃ n, Drop M (F_law ds M) (runF n b_law 12 ds M) := mean_drop (a := 0) (m := 0) (body := b_law) (k := 12) c b
def rows0 (ins regs : Nat) : List Row := (List.range ins).map fun k => Row.load (k % regs) k
theorem cut_ints (ns : List Int) (lo hi : Option Int) : ∃ cs : List Int, RF.cutD (ns.map D.int) lo hi = cs.map D.int ∧ cs.length ≤ ns.length :=
  ⟨(ns.drop (HT.sIx (ns.map D.int).length 0 lo)).take (HT.sIx (ns.map D.int).length (ns.map D.int).length hi - HT.sIx (ns.map D.int).length 0 lo), by unfold RF.cutD; rw [List.map_take, List.map_drop], by rw [List.length_take, List.length_drop]; omega⟩
def PLaw (w : Int) (ins regs : Nat) (is cs : List Int) (sc : D) (i : Nat) (δ : Ev) (M : MH) : Prop := ∃ (rows : List Row) (x : Option D), δ = [some sc, some (.loc 0), some (.int w), some (.int ins), some (.int regs), some (.loc 1), some (.loc 2), none, x, none, none, none] ∧ M[1]? = some (.lst (is.map D.int)) ∧ M[2]? = some (.lst (rows.map Row.d)) ∧ M[3]? = some (.lst (cs.map D.int)) ∧ (∀ r ∈ rows, Row.ok w ins regs r) ∧ rows.length ≤ ins + i ∧ i ≤ cs.length
theorem law_step {w : Int} {ins regs : Nat} {is cs : List Int} {sc : D} (h1 : 2 ≤ w) (h2 : w ≤ 200) (i1 : 1 ≤ ins) (i2 : ins ≤ 100) (r1 : 1 ≤ regs) (r2 : regs ≤ 100) (hc : cs.length ≤ 100) (i : Nat) (d : D) (δ : Ev) (M : MH) (hd : (cs.map D.int)[i]? = some d) (hP : PLaw w ins regs is cs sc i δ M) :
    ∃ δ' δ2 M2, bindTg (.nm 8) d δ = some δ' ∧ (exSs 0 lb_law_2 δ' M = .nx δ2 M2 ∨ exSs 0 lb_law_2 δ' M = .ct δ2 M2) ∧ PLaw w ins regs is cs sc (i + 1) δ2 M2 := by
  obtain ⟨rows, x, rfl, m1, m2, m3, ok, hl, hi⟩ := hP
  have hlt : i < cs.length := by
    have := (List.getElem?_eq_some_iff.mp hd).1
    rwa [List.length_map] at this
  rw [List.getElem?_map, List.getElem?_eq_getElem hlt] at hd
  cases hd
  obtain ⟨a, b, e1⟩ := e_law_stream cs[i] M
  obtain ⟨row, a2, b2, okr, e2⟩ := e_law_row (n := M.length) (M := M ++ [St a b]) (w := w) (ins := ins) (regs := regs) h1 h2 i1 (by omega) r1 (by omega) at_new
  rw [set_new] at e2
  have l2 := at_lt m2
  have hrl : rows.length < 16777216 := by omega
  refine ⟨[some sc, some (.loc 0), some (.int w), some (.int ins), some (.int regs), some (.loc 1), some (.loc 2), none, some (.int cs[i]), none, none, none], [some sc, some (.loc 0), some (.int w), some (.int ins), some (.int regs), some (.loc 1), some (.loc 2), none, some (.int cs[i]), none, none, none], M.set 2 (.lst ((rows ++ [row]).map Row.d)) ++ [St a2 b2], rfl, .inl ?_, rows ++ [row], _, rfl, ?_, ?_, ?_, ?_, ?_, by omega⟩
  · have m2' : (M ++ [St a2 b2])[2]? = some (.lst (rows.map Row.d)) := at_app m2
    have s2 : ∀ u, (M ++ [St a2 b2]).set 2 u = M.set 2 u ++ [St a2 b2] := fun u => set_app l2 u
    simp [lb_law_2, runF, exSs, exS, evE, evEs, evAnd, evOr, evEo, evC, evIt, evT, thT, RE.bind, RE.fl, Fl.then, binD, cmpD, augD, idxD, slcD, Bi.sem, Bi.semL, isD, truth, fldD, setFldD, putFD, setIdxD, appD, getD, seqOf, bindTg, wipeD, D.isNon, List.replicate, List.getElem?_cons_zero, List.getElem?_cons_succ, List.set_cons_zero, List.set_cons_succ, List.map_cons, List.map_nil, List.length_cons, List.length_nil, atI_cons, ixN_lit, set_app, set_set, List.append_assoc, List.cons_append, List.nil_append, List.lookup_cons, szL, m2, m2', e1, e2, hrl, s2]
  · exact at_app (at_set_ne m1 (by decide) _)
  · exact at_app (at_set m2 _)
  · exact at_app (at_set_ne m3 (by decide) _)
  · intro r hr
    rcases List.mem_append.mp hr with q | q
    · exact ok r q
    · rw [List.mem_singleton] at q; subst q; exact okr
  · rw [List.length_append, List.length_singleton]; omega
theorem e_law (ns : List Int) (hns : ns.length ≤ 63) : F_law [.frl (ns.map D.int)] [] = .ok (.bl true) [] := by
  obtain ⟨a0, b0, e0⟩ := e_law_stream (gt ns 0) []
  have e0 : F_law_stream [.int (gt ns 0)] [] = .ok (.loc 0) [St a0 b0] := e0
  obtain ⟨w, a1, b1, h1, h2, e1⟩ := e_law_width (n := 0) (M := [St a0 b0]) rfl
  have e1 : F_law_width [.loc 0] [St a0 b0] = .ok (.int w) [St a1 b1] := e1
  obtain ⟨j0, a2, b2, q2, e2⟩ := e_law_take (n := 0) (m := 4) (M := [St a1 b1]) (by decide) (by decide) rfl
  have e2 : F_law_take [.loc 0, .int 4] [St a1 b1] = .ok (.int j0) [St a2 b2] := e2
  obtain ⟨j1, a3, b3, q3, e3⟩ := e_law_take (n := 0) (m := 6) (M := [St a2 b2]) (by decide) (by decide) rfl
  have e3 : F_law_take [.loc 0, .int 6] [St a2 b2] = .ok (.int j1) [St a3 b3] := e3
  obtain ⟨ins, hI⟩ : ∃ ins : Nat, 1 + (j0 : Int) = ins := ⟨1 + j0, by omega⟩
  obtain ⟨regs, hR⟩ : ∃ regs : Nat, 1 + (j1 : Int) = regs := ⟨1 + j1, by omega⟩
  obtain ⟨is, a4, b4, hil, e4⟩ := e_law_inputs (n := 0) (cnt := ins) (M := [St a3 b3]) h1 h2 (by omega) rfl
  have e4 : F_law_inputs [.loc 0, .int w, .int ins] [St a3 b3] = .ok (.loc 1) [St a4 b4, .lst (is.map D.int)] := e4
  have okI : okR (ins : Int) := okR_s (by omega) (by omega)
  have r0 : ¬ regs = 0 := by omega
  obtain ⟨acc0, M0, hlc, hM0, hacc0⟩ := lcLoop_inv0 (g := []) (f := lcTurn (.nm 7) (fun _ M => .ok true M) (evE le_law_1) [some (.frl (ns.map D.int)), some (.loc 0), some (.int w), some (.int ins), some (.int regs), some (.loc 1), none, none, none, none, none, none]) (fun i acc M' => M' = [St a4 b4, .lst (is.map D.int)] ∧ acc = (rows0 i regs).map Row.d) (rngD 0 1 ins) (by rw [rngD_len, szL]; omega) (M := [St a4 b4, .lst (is.map D.int)]) ⟨rfl, rfl⟩ (fun _ _ _ _ => trivial) (fun i acc M' h => by rw [h.2]; simp [rows0]) (by
    rintro i d acc M' hd ⟨rfl, rfl⟩
    obtain ⟨hi, rfl⟩ := rng_get hd
    refine ⟨(Row.load (i % regs) i).d, [St a4 b4, .lst (is.map D.int)], ?_, rfl, ?_⟩
    · have fm : (i : Int).fmod (regs : Int) = ((i % regs : Nat) : Int) := by rw [Int.fmod_eq_emod_of_nonneg _ (by omega)]; rfl
      simp [lcTurn, le_law_1, runF, exSs, exS, evE, evEs, evAnd, evOr, evEo, evC, evIt, evT, thT, RE.bind, RE.fl, Fl.then, binD, cmpD, augD, idxD, slcD, Bi.sem, Bi.semL, isD, truth, fldD, setFldD, putFD, setIdxD, appD, getD, seqOf, bindTg, wipeD, D.isNon, List.replicate, List.getElem?_cons_zero, List.getElem?_cons_succ, List.set_cons_zero, List.set_cons_succ, List.map_cons, List.map_nil, List.length_cons, List.length_nil, atI_cons, ixN_lit, set_app, set_set, List.append_assoc, List.cons_append, List.nil_append, List.lookup_cons, szL, r0, fm, Row.d]
    · unfold rows0; rw [List.range_succ]; simp)
  rw [rngD_len] at hacc0
  rw [hM0, hacc0] at hlc
  obtain ⟨cs, hcs, hcl⟩ := cut_ints ns (some 1) (some 41)
  obtain ⟨δ8, M8, hl8, rows, x, rfl, m1, m2, m3, ok, hrl, _⟩ := forLoop_inv0 (g := [(3, cs.map D.int)]) (tg := .nm 8) (body := exSs 0 lb_law_2) (PLaw w ins regs is cs (.frl (ns.map D.int))) (cs.map D.int) (δ := [some (.frl (ns.map D.int)), some (.loc 0), some (.int w), some (.int ins), some (.int regs), some (.loc 1), some (.loc 2), none, none, none, none, none]) (M := [St a4 b4, .lst (is.map D.int), .lst ((rows0 ins regs).map Row.d), .lst (cs.map D.int)])
    ⟨rows0 ins regs, none, rfl, rfl, rfl, rfl, fun r hr => by
      unfold rows0 at hr
      obtain ⟨k, hk, rfl⟩ := List.mem_map.mp hr
      exact ⟨Nat.mod_lt _ (by omega), List.mem_range.mp hk⟩, by simp [rows0], Nat.zero_le _⟩ (fun i δ M h => by obtain ⟨_, _, _, _, _, h, _⟩ := h; exact ⟨h, trivial⟩) (law_step h1 h2 (by omega) (by omega) (by omega) (by omega) (by omega))
  rw [List.length_map] at hrl
  have hrl2 : rows.length ≤ 1000 := by omega
  have e5 := e_Code_init (n := M8.length) (w := w) (ins := ins) (regs := regs) (rows := rows) (M := M8 ++ [.ins "Code" []]) at_new
  rw [set_new] at e5
  have hC : (M8 ++ [.ins "Code" (codeF w ins regs rows)])[M8.length]? = some (.ins "Code" (codeF w ins regs rows)) := at_new
  have e6 := e_check_code h1 h2 (by omega) (by omega) (by omega) (by omega) hC ok
  have e7 := e_law_machine (nr := 2) (ni := 1) h1 h2 (by omega) hrl2 (at_app (G := [.ins "Code" (codeF w ins regs rows)]) m2) ok (at_app m1) hil
  have hC2 : (M8 ++ [.ins "Code" (codeF w ins regs rows), .lst (is.map D.int)])[M8.length]? = some (.ins "Code" (codeF w ins regs rows)) := at_off0
  have hP2 : (M8 ++ [.ins "Code" (codeF w ins regs rows), .lst (is.map D.int)])[M8.length + 1]? = some (.lst (is.map D.int)) := at_off
  have m1' : (M8 ++ [.ins "Code" (codeF w ins regs rows), .lst (is.map D.int)])[1]? = some (.lst (is.map D.int)) := at_app m1
  have m2' : (M8 ++ [.ins "Code" (codeF w ins regs rows), .lst (is.map D.int)])[2]? = some (.lst (rows.map Row.d)) := at_app m2
  have m1c : (M8 ++ [.ins "Code" (codeF w ins regs rows)])[1]? = some (.lst (is.map D.int)) := at_app m1
  have e8 := e_run_code (d := .loc (M8.length + 1)) h1 h2 (by omega) hrl2 hC2 ok (.inr ⟨_, rfl, hP2⟩) hil
  have e9 := e_run_code (d := .tup (is.map D.int)) h1 h2 (by omega) hrl2 hC2 ok (.inl rfl) hil
  have pz : Pl 3 (runR w is rows 0 (List.replicate regs 0) []) := pl_run (by simpa using hrl2)
  generalize runR w is rows 0 (List.replicate regs 0) [] = Z at e7 e8 e9 pz
  have e10 := e_law_same 3 Z (M8 ++ [.ins "Code" (codeF w ins regs rows), .lst (is.map D.int)]) pz
  have e11 := eq_lists hP2 m1'
  have e12 := eq_self (k := 3) (d := .tup (rows.map Row.d)) (M := M8 ++ [.ins "Code" (codeF w ins regs rows), .lst (is.map D.int)]) (by decide) ⟨by simpa using hrl2, fun y hy => by
    obtain ⟨r, _, rfl⟩ := List.mem_map.mp hy
    exact pl_row r⟩
  have r2 : rngD 0 1 2 = [.int 0, .int 1] := by simp [rngD, List.range_succ]
  have ok2 : okR 2 := okR_s (by decide) (by decide)
  refine mean_g (G := M8 ++ [.ins "Code" (codeF w ins regs rows), .lst (is.map D.int)]) ?_ fun _ => by simp [D.bel]
  simp [b_law, runF, exSs, exS, evE, evEs, evAnd, evOr, evEo, evC, evIt, evT, thT, RE.bind, RE.fl, Fl.then, binD, cmpD, augD, idxD, slcD, Bi.sem, Bi.semL, isD, truth, fldD, setFldD, putFD, setIdxD, appD, getD, seqOf, bindTg, wipeD, D.isNon, List.replicate, List.getElem?_cons_zero, List.getElem?_cons_succ, List.set_cons_zero, List.set_cons_succ, List.map_cons, List.map_nil, List.length_cons, List.length_nil, atI_cons, ixN_lit, set_app, set_set, List.append_assoc, List.cons_append, List.nil_append, List.lookup_cons, szL, e_law_cell, e0, e1, e2, e3, hI, hR, e4, okI, hlc, hcs, hl8, m1, m2, m1c, m1', m2', e5, e6, e7, e8, e9, e10, e11, e12, r2, ok2, forLoop, gdOk, lb_law_3, hC2, hC, lk_code, -List.getElem?_eq_getElem, -getElem?_pos]
end K65


set_option maxHeartbeats 4000000
/-! k65: the end. -/
namespace K65
open PySem PySem.Spec PyProof.Rows L2 RF
theorem ok_is_integer {P : Program} {w : World} {K : PySem.W.Frag} {mg : Str → Option Value} {base : Heap} {cl : Cls0} {f : Addr} {fd : FuncData} (bn : ∀ x ∈ biNames, mg x = none) (F : Fun K "is_integer" "is_integer" st_is_integer f fd)  : FnOk P w K mg base (L2.CX P w) 1 f fd ["value"] (spF K cl 1 F_is_integer) :=
  fn_snd F sn_is_integer bn b_is_integer ck_is_integer (by refine ScA.of ?_; simp only [b_is_integer, scSs, scS, scE, scEs, scEo, scIt, Bi.sc, Es.len, List.nil_append, List.append_nil, List.cons_append, ScA_append, ScA, and_true, true_and, and_self, and_assoc]) _ (fun ds M _ c b => dr_is_integer c b)
theorem ok_power_of_two {P : Program} {w : World} {K : PySem.W.Frag} {mg : Str → Option Value} {base : Heap} {cl : Cls0} {f : Addr} {fd : FuncData} (bn : ∀ x ∈ biNames, mg x = none) (F : Fun K "power_of_two" "power_of_two" st_power_of_two f fd)  : FnOk P w K mg base (L2.CX P w) 1 f fd ["exponent"] (spF K cl 1 F_power_of_two) :=
  fn_snd F sn_power_of_two bn b_power_of_two ck_power_of_two (by refine ScA.of ?_; simp only [b_power_of_two, scSs, scS, scE, scEs, scEo, scIt, Bi.sc, Es.len, List.nil_append, List.append_nil, List.cons_append, ScA_append, ScA, and_true, true_and, and_self, and_assoc]) _ (fun ds M _ c b => dr_power_of_two c b)
theorem ok_fits {P : Program} {w : World} {K : PySem.W.Frag} {mg : Str → Option Value} {base : Heap} {cl : Cls0} {f : Addr} {fd : FuncData} (bn : ∀ x ∈ biNames, mg x = none) (F : Fun K "fits" "fits" st_fits f fd) (s0 : SCt P w K mg base cl 1 (.fn "power_of_two" 1 F_power_of_two)) : FnOk P w K mg base (L2.CX P w) 2 f fd ["width", "value"] (spF K cl 2 F_fits) :=
  fn_snd F sn_fits bn b_fits ck_fits (by refine ScA.of ?_; simp only [b_fits, scSs, scS, scE, scEs, scEo, scIt, Bi.sc, Es.len, List.nil_append, List.append_nil, List.cons_append, ScA_append, ScA, and_true, true_and, and_self, and_assoc]; (repeat' (with_reducible apply And.intro)); all_goals first | trivial | exact s0) _ (fun ds M _ c b => dr_fits c b)
theorem ok_is_index {P : Program} {w : World} {K : PySem.W.Frag} {mg : Str → Option Value} {base : Heap} {cl : Cls0} {f : Addr} {fd : FuncData} (bn : ∀ x ∈ biNames, mg x = none) (F : Fun K "is_index" "is_index" st_is_index f fd) (s0 : SCt P w K mg base cl 1 (.fn "is_integer" 1 F_is_integer)) : FnOk P w K mg base (L2.CX P w) 2 f fd ["value", "count"] (spF K cl 2 F_is_index) :=
  fn_snd F sn_is_index bn b_is_index ck_is_index (by refine ScA.of ?_; simp only [b_is_index, scSs, scS, scE, scEs, scEo, scIt, Bi.sc, Es.len, List.nil_append, List.append_nil, List.cons_append, ScA_append, ScA, and_true, true_and, and_self, and_assoc]; (repeat' (with_reducible apply And.intro)); all_goals first | trivial | exact s0) _ (fun ds M _ c b => dr_is_index c b)
theorem ok_is_instruction {P : Program} {w : World} {K : PySem.W.Frag} {mg : Str → Option Value} {base : Heap} {cl : Cls0} {f : Addr} {fd : FuncData} (bn : ∀ x ∈ biNames, mg x = none) (F : Fun K "is_instruction" "is_instruction" st_is_instruction f fd) (s0 : SCt P w K mg base cl 2 (.dct "SIZES" [("load", (D.int (3))), ("set", (D.int (3))), ("times", (D.int (4))), ("add", (D.int (3))), ("bend", (D.int (2))), ("give", (D.int (2)))])) (s1 : SCt P w K mg base cl 2 (.fn "is_index" 2 F_is_index)) (s2 : SCt P w K mg base cl 2 (.fld "Code" "registers")) (s3 : SCt P w K mg base cl 2 (.fld "Code" "inputs")) (s4 : SCt P w K mg base cl 2 (.fn "is_integer" 1 F_is_integer)) (s5 : SCt P w K mg base cl 2 (.fn "fits" 2 F_fits)) (s6 : SCt P w K mg base cl 2 (.fld "Code" "width")) : FnOk P w K mg base (L2.CX P w) 3 f fd ["code", "row"] (spF K cl 2 F_is_instruction) :=
  fn_snd F sn_is_instruction bn b_is_instruction ck_is_instruction (by refine ScA.of ?_; simp only [b_is_instruction, scSs, scS, scE, scEs, scEo, scIt, Bi.sc, Es.len, List.nil_append, List.append_nil, List.cons_append, ScA_append, ScA, and_true, true_and, and_self, and_assoc]; (repeat' (with_reducible apply And.intro)); all_goals first | trivial | exact s0 | exact s1 | exact s2 | exact s3 | exact s4 | exact s5 | exact s6) _ (fun ds M _ c b => dr_is_instruction c b)
theorem ok_check_code {P : Program} {w : World} {K : PySem.W.Frag} {mg : Str → Option Value} {base : Heap} {cl : Cls0} {f : Addr} {fd : FuncData} (bn : ∀ x ∈ biNames, mg x = none) (F : Fun K "check_code" "check_code" st_check_code f fd) (s0 : SCt P w K mg base cl 3 (.fn "is_integer" 1 F_is_integer)) (s1 : SCt P w K mg base cl 3 (.fld "Code" "width")) (s2 : SCt P w K mg base cl 3 (.cst "LEAST_WIDTH" (D.int (2)))) (s3 : SCt P w K mg base cl 3 (.cst "MOST_WIDTH" (D.int (200)))) (s4 : SCt P w K mg base cl 3 (.fld "Code" "inputs")) (s5 : SCt P w K mg base cl 3 (.fld "Code" "registers")) (s6 : SCt P w K mg base cl 3 (.cst "MOST_REGISTERS" (D.int (10000)))) (s7 : SCt P w K mg base cl 3 (.fld "Code" "instructions")) (s8 : SCt P w K mg base cl 3 (.fn "is_instruction" 2 F_is_instruction)) : FnOk P w K mg base (L2.CX P w) 4 f fd ["code"] (spF K cl 1 F_check_code) :=
  fn_snd F sn_check_code bn b_check_code ck_check_code (by refine ScA.of ?_; simp only [b_check_code, lb_check_code_1, lb_check_code_2, scSs, scS, scE, scEs, scEo, scIt, Bi.sc, Es.len, List.nil_append, List.append_nil, List.cons_append, ScA_append, ScA, and_true, true_and, and_self, and_assoc]; (repeat' (with_reducible apply And.intro)); all_goals first | trivial | exact s0 | exact s1 | exact s2 | exact s3 | exact s4 | exact s5 | exact s6 | exact s7 | exact s8) _ (fun ds M _ c b => dr_check_code c b)
theorem ok_result_of {P : Program} {w : World} {K : PySem.W.Frag} {mg : Str → Option Value} {base : Heap} {cl : Cls0} {f : Addr} {fd : FuncData} (bn : ∀ x ∈ biNames, mg x = none) (F : Fun K "result_of" "result_of" st_result_of f fd)  : FnOk P w K mg base (L2.CX P w) 1 f fd ["row", "registers", "inputs"] (spF K cl 3 F_result_of) :=
  fn_snd F sn_result_of bn b_result_of ck_result_of (by refine ScA.of ?_; simp only [b_result_of, scSs, scS, scE, scEs, scEo, scIt, Bi.sc, Es.len, List.nil_append, List.append_nil, List.cons_append, ScA_append, ScA, and_true, true_and, and_self, and_assoc]) _ (fun ds M _ c b => dr_result_of c b)
theorem ok_run_code {P : Program} {w : World} {K : PySem.W.Frag} {mg : Str → Option Value} {base : Heap} {cl : Cls0} {f : Addr} {fd : FuncData} (bn : ∀ x ∈ biNames, mg x = none) (F : Fun K "run_code" "run_code" st_run_code f fd) (s0 : SCt P w K mg base cl 2 (.fld "Code" "registers")) (s1 : SCt P w K mg base cl 2 (.fld "Code" "instructions")) (s2 : SCt P w K mg base cl 2 (.fn "result_of" 3 F_result_of)) (s3 : SCt P w K mg base cl 2 (.fn "fits" 2 F_fits)) (s4 : SCt P w K mg base cl 2 (.fld "Code" "width")) : FnOk P w K mg base (L2.CX P w) 3 f fd ["code", "inputs"] (spF K cl 2 F_run_code) :=
  fn_snd F sn_run_code bn b_run_code ck_run_code (by refine ScA.of ?_; simp only [b_run_code, lb_run_code_1, scSs, scS, scE, scEs, scEo, scIt, Bi.sc, Es.len, List.nil_append, List.append_nil, List.cons_append, ScA_append, ScA, and_true, true_and, and_self, and_assoc]; (repeat' (with_reducible apply And.intro)); all_goals first | trivial | exact s0 | exact s1 | exact s2 | exact s3 | exact s4) _ (fun ds M _ c b => dr_run_code c b)
theorem ok_law_cell {P : Program} {w : World} {K : PySem.W.Frag} {mg : Str → Option Value} {base : Heap} {cl : Cls0} {f : Addr} {fd : FuncData} (bn : ∀ x ∈ biNames, mg x = none) (F : Fun K "_law_cell" "_law_cell" st_law_cell f fd)  : FnOk P w K mg base (L2.CX P w) 1 f fd ["_law_script", "_law_k"] (spF K cl 2 F_law_cell) :=
  fn_snd F sn_law_cell bn b_law_cell ck_law_cell (by refine ScA.of ?_; simp only [b_law_cell, scSs, scS, scE, scEs, scEo, scIt, Bi.sc, Es.len, List.nil_append, List.append_nil, List.cons_append, ScA_append, ScA, and_true, true_and, and_self, and_assoc]) _ (fun ds M _ c b => dr_law_cell c b)
theorem ok_law_stream {P : Program} {w : World} {K : PySem.W.Frag} {mg : Str → Option Value} {base : Heap} {cl : Cls0} {f : Addr} {fd : FuncData} (bn : ∀ x ∈ biNames, mg x = none) (F : Fun K "_law_stream" "_law_stream" st_law_stream f fd)  : FnOk P w K mg base (L2.CX P w) 1 f fd ["_law_cell_here"] (spF K cl 1 F_law_stream) :=
  fn_snd F sn_law_stream bn b_law_stream ck_law_stream (by refine ScA.of ?_; simp only [b_law_stream, scSs, scS, scE, scEs, scEo, scIt, Bi.sc, Es.len, List.nil_append, List.append_nil, List.cons_append, ScA_append, ScA, and_true, true_and, and_self, and_assoc]) _ (fun ds M _ c b => dr_law_stream c b)
theorem ok_law_take {P : Program} {w : World} {K : PySem.W.Frag} {mg : Str → Option Value} {base : Heap} {cl : Cls0} {f : Addr} {fd : FuncData} (bn : ∀ x ∈ biNames, mg x = none) (F : Fun K "_law_take" "_law_take" st_law_take f fd)  : FnOk P w K mg base (L2.CX P w) 1 f fd ["_law_stream_here", "_law_many"] (spF K cl 2 F_law_take) :=
  fn_snd F sn_law_take bn b_law_take ck_law_take (by refine ScA.of ?_; simp only [b_law_take, scSs, scS, scE, scEs, scEo, scIt, Bi.sc, Es.len, List.nil_append, List.append_nil, List.cons_append, ScA_append, ScA, and_true, true_and, and_self, and_assoc]) _ (fun ds M _ c b => dr_law_take c b)
theorem ok_law_same {P : Program} {w : World} {K : PySem.W.Frag} {mg : Str → Option Value} {base : Heap} {cl : Cls0} {f : Addr} {fd : FuncData} {j k : Nat} (bn : ∀ x ∈ biNames, mg x = none) (F : Fun K "_law_same" "_law_same" st_law_same f fd) (s0 : SCt P w K mg base cl j (.fn "_law_same" 2 (F_law_same k))) : FnOk P w K mg base (L2.CX P w) (j + 1) f fd ["_law_actual", "_law_expected"] (spF K cl 2 (F_law_same (k + 1))) :=
  fn_snd F sn_law_same bn (b_law_same (F_law_same k)) (ck_law_same _) (by refine ScA.of ?_; simp only [b_law_same, lb_law_same_1, scSs, scS, scE, scEs, scEo, scIt, Bi.sc, Es.len, List.nil_append, List.append_nil, List.cons_append, ScA_append, ScA, and_true, true_and, and_self, and_assoc]; (repeat' (with_reducible apply And.intro)); all_goals first | trivial | exact s0) _ (fun ds M _ c b => dr_law_same c b)
theorem ok_law_machine {P : Program} {w : World} {K : PySem.W.Frag} {mg : Str → Option Value} {base : Heap} {cl : Cls0} {f : Addr} {fd : FuncData} (bn : ∀ x ∈ biNames, mg x = none) (F : Fun K "_law_machine" "_law_machine" st_law_machine f fd)  : FnOk P w K mg base (L2.CX P w) 1 f fd ["_law_width_here", "_law_registers", "_law_rows", "_law_inputs_here"] (spF K cl 4 F_law_machine) :=
  fn_snd F sn_law_machine bn b_law_machine ck_law_machine (by refine ScA.of ?_; simp only [b_law_machine, le_law_machine_1, lb_law_machine_2, scSs, scS, scE, scEs, scEo, scIt, Bi.sc, Es.len, List.nil_append, List.append_nil, List.cons_append, ScA_append, ScA, and_true, true_and, and_self, and_assoc]) _ (fun ds M _ c b => dr_law_machine c b)
theorem ok_law_width {P : Program} {w : World} {K : PySem.W.Frag} {mg : Str → Option Value} {base : Heap} {cl : Cls0} {f : Addr} {fd : FuncData} (bn : ∀ x ∈ biNames, mg x = none) (F : Fun K "_law_width" "_law_width" st_law_width f fd) (s0 : SCt P w K mg base cl 1 (.fn "_law_take" 2 F_law_take)) : FnOk P w K mg base (L2.CX P w) 2 f fd ["_law_stream_here"] (spF K cl 1 F_law_width) :=
  fn_snd F sn_law_width bn b_law_width ck_law_width (by refine ScA.of ?_; simp only [b_law_width, scSs, scS, scE, scEs, scEo, scIt, Bi.sc, Es.len, List.nil_append, List.append_nil, List.cons_append, ScA_append, ScA, and_true, true_and, and_self, and_assoc]; (repeat' (with_reducible apply And.intro)); all_goals first | trivial | exact s0) _ (fun ds M _ c b => dr_law_width c b)
theorem ok_law_integer {P : Program} {w : World} {K : PySem.W.Frag} {mg : Str → Option Value} {base : Heap} {cl : Cls0} {f : Addr} {fd : FuncData} (bn : ∀ x ∈ biNames, mg x = none) (F : Fun K "_law_integer" "_law_integer" st_law_integer f fd) (s0 : SCt P w K mg base cl 1 (.fn "_law_take" 2 F_law_take)) : FnOk P w K mg base (L2.CX P w) 2 f fd ["_law_stream_here", "_law_width_here"] (spF K cl 2 F_law_integer) :=
  fn_snd F sn_law_integer bn b_law_integer ck_law_integer (by refine ScA.of ?_; simp only [b_law_integer, scSs, scS, scE, scEs, scEo, scIt, Bi.sc, Es.len, List.nil_append, List.append_nil, List.cons_append, ScA_append, ScA, and_true, true_and, and_self, and_assoc]; (repeat' (with_reducible apply And.intro)); all_goals first | trivial | exact s0) _ (fun ds M _ c b => dr_law_integer c b)
theorem ok_law_row {P : Program} {w : World} {K : PySem.W.Frag} {mg : Str → Option Value} {base : Heap} {cl : Cls0} {f : Addr} {fd : FuncData} (bn : ∀ x ∈ biNames, mg x = none) (F : Fun K "_law_row" "_law_row" st_law_row f fd) (s0 : SCt P w K mg base cl 2 (.fn "_law_take" 2 F_law_take)) (s1 : SCt P w K mg base cl 2 (.fn "_law_integer" 2 F_law_integer)) : FnOk P w K mg base (L2.CX P w) 3 f fd ["_law_stream_here", "_law_width_here", "_law_inputs_here", "_law_registers"] (spF K cl 4 F_law_row) :=
  fn_snd F sn_law_row bn b_law_row ck_law_row (by refine ScA.of ?_; simp only [b_law_row, scSs, scS, scE, scEs, scEo, scIt, Bi.sc, Es.len, List.nil_append, List.append_nil, List.cons_append, ScA_append, ScA, and_true, true_and, and_self, and_assoc]; (repeat' (with_reducible apply And.intro)); all_goals first | trivial | exact s0 | exact s1) _ (fun ds M _ c b => dr_law_row c b)
theorem ok_law_inputs {P : Program} {w : World} {K : PySem.W.Frag} {mg : Str → Option Value} {base : Heap} {cl : Cls0} {f : Addr} {fd : FuncData} (bn : ∀ x ∈ biNames, mg x = none) (F : Fun K "_law_inputs" "_law_inputs" st_law_inputs f fd) (s0 : SCt P w K mg base cl 2 (.fn "_law_integer" 2 F_law_integer)) (s1 : SCt P w K mg base cl 2 (.fn "_law_take" 2 F_law_take)) : FnOk P w K mg base (L2.CX P w) 3 f fd ["_law_stream_here", "_law_width_here", "_law_count"] (spF K cl 3 F_law_inputs) :=
  fn_snd F sn_law_inputs bn b_law_inputs ck_law_inputs (by refine ScA.of ?_; simp only [b_law_inputs, lb_law_inputs_1, scSs, scS, scE, scEs, scEo, scIt, Bi.sc, Es.len, List.nil_append, List.append_nil, List.cons_append, ScA_append, ScA, and_true, true_and, and_self, and_assoc]; (repeat' (with_reducible apply And.intro)); all_goals first | trivial | exact s0 | exact s1) _ (fun ds M _ c b => dr_law_inputs c b)
theorem ok_Code_init {P : Program} {w : World} {K : PySem.W.Frag} {mg : Str → Option Value} {base : Heap} {cl : Cls0} {f : Addr} {fd : FuncData} (bn : ∀ x ∈ biNames, mg x = none) (F : Fun K "__init__" "Code.__init__" st_Code_init f fd) (s0 : SCt P w K mg base cl 0 (.fld "Code" "width")) (s1 : SCt P w K mg base cl 0 (.fld "Code" "inputs")) (s2 : SCt P w K mg base cl 0 (.fld "Code" "registers")) (s3 : SCt P w K mg base cl 0 (.fld "Code" "instructions")) : FnOk P w K mg base (L2.CX P w) 1 f fd ["self", "width", "inputs", "registers", "instructions"] (spF K cl 5 F_Code_init) :=
  fn_snd F sn_Code_init bn b_Code_init ck_Code_init (by refine ScA.of ?_; simp only [b_Code_init, scSs, scS, scE, scEs, scEo, scIt, Bi.sc, Es.len, List.nil_append, List.append_nil, List.cons_append, ScA_append, ScA, and_true, true_and, and_self, and_assoc]; (repeat' (with_reducible apply And.intro)); all_goals first | trivial | exact s0 | exact s1 | exact s2 | exact s3) _ (fun ds M _ c b => dr_Code_init c b)
theorem ok_law {P : Program} {w : World} {K : PySem.W.Frag} {mg : Str → Option Value} {base : Heap} {cl : Cls0} {f : Addr} {fd : FuncData} (bn : ∀ x ∈ biNames, mg x = none) (F : Fun K "law" "law" st_law f fd) (s0 : SCt P w K mg base cl 5 (.fn "_law_stream" 1 F_law_stream)) (s1 : SCt P w K mg base cl 5 (.fn "_law_cell" 2 F_law_cell)) (s2 : SCt P w K mg base cl 5 (.fn "_law_width" 1 F_law_width)) (s3 : SCt P w K mg base cl 5 (.fn "_law_take" 2 F_law_take)) (s4 : SCt P w K mg base cl 5 (.fn "_law_inputs" 3 F_law_inputs)) (s5 : SCt P w K mg base cl 5 (.fn "_law_row" 4 F_law_row)) (s6 : SCt P w K mg base cl 5 (.mk "Code" 4 F_Code_init)) (s7 : SCt P w K mg base cl 5 (.fn "check_code" 1 F_check_code)) (s8 : SCt P w K mg base cl 5 (.fn "_law_machine" 4 F_law_machine)) (s9 : SCt P w K mg base cl 5 (.fn "_law_same" 2 (F_law_same 4))) (s10 : SCt P w K mg base cl 5 (.fn "run_code" 2 F_run_code)) (s11 : SCt P w K mg base cl 5 (.fld "Code" "instructions")) (s12 : SCt P w K mg base cl 5 (.fld "Code" "width")) (s13 : SCt P w K mg base cl 5 (.fld "Code" "registers")) (s14 : SCt P w K mg base cl 5 (.fld "Code" "inputs")) : FnOk P w K mg base (L2.CX P w) 6 f fd ["_law_script"] (spF K cl 1 F_law) :=
  fn_snd F sn_law bn b_law ck_law (by refine ScA.of ?_; simp only [b_law, le_law_1, lb_law_2, lb_law_3, scSs, scS, scE, scEs, scEo, scIt, Bi.sc, Es.len, List.nil_append, List.append_nil, List.cons_append, ScA_append, ScA, and_true, true_and, and_self, and_assoc]; (repeat' (with_reducible apply And.intro)); all_goals first | trivial | exact s0 | exact s1 | exact s2 | exact s3 | exact s4 | exact s5 | exact s6 | exact s7 | exact s8 | exact s9 | exact s10 | exact s11 | exact s12 | exact s13 | exact s14) _ (fun ds M _ c b => dr_law c b)
theorem chain {P : Program} {w : World} {K : PySem.W.Frag} {mg : Str → Option Value} {base : Heap} {a_is_integer a_power_of_two a_fits a_is_index a_is_instruction a_check_code a_result_of a_run_code a_law_cell a_law_stream a_law_take a_law_same a_law_machine a_law_width a_law_integer a_law_row a_law_inputs a_Code_init a_law C_Code q_SIZES : Addr} {d_is_integer d_power_of_two d_fits d_is_index d_is_instruction d_check_code d_result_of d_run_code d_law_cell d_law_stream d_law_take d_law_same d_law_machine d_law_width d_law_integer d_law_row d_law_inputs d_Code_init d_law : FuncData} {t_LEAST_WIDTH t_MOST_WIDTH t_MOST_REGISTERS : Tok}
    (bn : ∀ x ∈ biNames, mg x = none)
    (D_is_integer : DF K mg "is_integer" st_is_integer ["value"] a_is_integer d_is_integer)
    (D_power_of_two : DF K mg "power_of_two" st_power_of_two ["exponent"] a_power_of_two d_power_of_two)
    (D_fits : DF K mg "fits" st_fits ["width", "value"] a_fits d_fits)
    (D_is_index : DF K mg "is_index" st_is_index ["value", "count"] a_is_index d_is_index)
    (D_is_instruction : DF K mg "is_instruction" st_is_instruction ["code", "row"] a_is_instruction d_is_instruction)
    (D_check_code : DF K mg "check_code" st_check_code ["code"] a_check_code d_check_code)
    (D_result_of : DF K mg "result_of" st_result_of ["row", "registers", "inputs"] a_result_of d_result_of)
    (D_run_code : DF K mg "run_code" st_run_code ["code", "inputs"] a_run_code d_run_code)
    (D_law_cell : DF K mg "_law_cell" st_law_cell ["_law_script", "_law_k"] a_law_cell d_law_cell)
    (D_law_stream : DF K mg "_law_stream" st_law_stream ["_law_cell_here"] a_law_stream d_law_stream)
    (D_law_take : DF K mg "_law_take" st_law_take ["_law_stream_here", "_law_many"] a_law_take d_law_take)
    (D_law_same : DF K mg "_law_same" st_law_same ["_law_actual", "_law_expected"] a_law_same d_law_same)
    (D_law_machine : DF K mg "_law_machine" st_law_machine ["_law_width_here", "_law_registers", "_law_rows", "_law_inputs_here"] a_law_machine d_law_machine)
    (D_law_width : DF K mg "_law_width" st_law_width ["_law_stream_here"] a_law_width d_law_width)
    (D_law_integer : DF K mg "_law_integer" st_law_integer ["_law_stream_here", "_law_width_here"] a_law_integer d_law_integer)
    (D_law_row : DF K mg "_law_row" st_law_row ["_law_stream_here", "_law_width_here", "_law_inputs_here", "_law_registers"] a_law_row d_law_row)
    (D_law_inputs : DF K mg "_law_inputs" st_law_inputs ["_law_stream_here", "_law_width_here", "_law_count"] a_law_inputs d_law_inputs)
    (D_law : DF K mg "law" st_law ["_law_script"] a_law d_law)
    (E_Code_init : Fun K "__init__" "Code.__init__" st_Code_init a_Code_init d_Code_init) (B_Code_init : Binds K d_Code_init ["self", "width", "inputs", "registers", "instructions"] [])
    (K_Code : Cls K C_Code)
    (M_Code : Mk K C_Code a_Code_init) (G_Code : mg "Code" = some (.ref C_Code))
    (A_Code_registers : NoAttr K C_Code "registers")
    (A_Code_inputs : NoAttr K C_Code "inputs")
    (A_Code_width : NoAttr K C_Code "width")
    (A_Code_instructions : NoAttr K C_Code "instructions")
    (V_LEAST_WIDTH : mg "LEAST_WIDTH" = some (.int (2) t_LEAST_WIDTH))
    (V_MOST_WIDTH : mg "MOST_WIDTH" = some (.int (200) t_MOST_WIDTH))
    (V_MOST_REGISTERS : mg "MOST_REGISTERS" = some (.int (10000) t_MOST_REGISTERS))
    (W_SIZES : mg "SIZES" = some (.ref q_SIZES)) (Z_SIZES : DgOk K w q_SIZES [("load", (D.int (3))), ("set", (D.int (3))), ("times", (D.int (4))), ("add", (D.int (3))), ("bend", (D.int (2))), ("give", (D.int (2)))]) :
    FnOk P w K mg base (L2.CX P w) 6 a_law d_law ["_law_script"] (spLaw K) := by
  obtain ⟨cl, hcl⟩ : ∃ cl : Cls0, cl = (fun x => C_Code) := ⟨_, rfl⟩
  have clE_Code : cl "Code" = C_Code := by subst hcl; rfl
  rw [← clE_Code] at K_Code A_Code_registers A_Code_inputs A_Code_width A_Code_instructions M_Code G_Code
  have s_fld_Code_registers : SCt P w K mg base cl 0 (.fld "Code" "registers") := ⟨K_Code, A_Code_registers⟩
  have s_fld_Code_inputs : SCt P w K mg base cl 0 (.fld "Code" "inputs") := ⟨K_Code, A_Code_inputs⟩
  have s_fld_Code_width : SCt P w K mg base cl 0 (.fld "Code" "width") := ⟨K_Code, A_Code_width⟩
  have s_fld_Code_instructions : SCt P w K mg base cl 0 (.fld "Code" "instructions") := ⟨K_Code, A_Code_instructions⟩
  have s_cst_LEAST_WIDTH : SCt P w K mg base cl 0 (.cst "LEAST_WIDTH" (D.int (2))) := sct_int V_LEAST_WIDTH
  have s_cst_MOST_WIDTH : SCt P w K mg base cl 0 (.cst "MOST_WIDTH" (D.int (200))) := sct_int V_MOST_WIDTH
  have s_cst_MOST_REGISTERS : SCt P w K mg base cl 0 (.cst "MOST_REGISTERS" (D.int (10000))) := sct_int V_MOST_REGISTERS
  have s_dct_SIZES : SCt P w K mg base cl 0 (.dct "SIZES" [("load", (D.int (3))), ("set", (D.int (3))), ("times", (D.int (4))), ("add", (D.int (3))), ("bend", (D.int (2))), ("give", (D.int (2)))]) := ⟨_, W_SIZES, Z_SIZES⟩
  have o_is_integer : FnOk P w K mg base (L2.CX P w) 1 a_is_integer d_is_integer ["value"] (spF K cl 1 F_is_integer) := ok_is_integer bn D_is_integer.fn 
  have s_is_integer : SCt P w K mg base cl 1 (.fn "is_integer" 1 F_is_integer) := sct_fn D_is_integer rfl o_is_integer
  have o_power_of_two : FnOk P w K mg base (L2.CX P w) 1 a_power_of_two d_power_of_two ["exponent"] (spF K cl 1 F_power_of_two) := ok_power_of_two bn D_power_of_two.fn 
  have s_power_of_two : SCt P w K mg base cl 1 (.fn "power_of_two" 1 F_power_of_two) := sct_fn D_power_of_two rfl o_power_of_two
  have o_fits : FnOk P w K mg base (L2.CX P w) 2 a_fits d_fits ["width", "value"] (spF K cl 2 F_fits) := ok_fits bn D_fits.fn (SCt.mono (Nat.le_of_ble_eq_true rfl) s_power_of_two)
  have s_fits : SCt P w K mg base cl 2 (.fn "fits" 2 F_fits) := sct_fn D_fits rfl o_fits
  have o_is_index : FnOk P w K mg base (L2.CX P w) 2 a_is_index d_is_index ["value", "count"] (spF K cl 2 F_is_index) := ok_is_index bn D_is_index.fn (SCt.mono (Nat.le_of_ble_eq_true rfl) s_is_integer)
  have s_is_index : SCt P w K mg base cl 2 (.fn "is_index" 2 F_is_index) := sct_fn D_is_index rfl o_is_index
  have o_is_instruction : FnOk P w K mg base (L2.CX P w) 3 a_is_instruction d_is_instruction ["code", "row"] (spF K cl 2 F_is_instruction) := ok_is_instruction bn D_is_instruction.fn (SCt.mono (Nat.le_of_ble_eq_true rfl) s_dct_SIZES) (SCt.mono (Nat.le_of_ble_eq_true rfl) s_is_index) (SCt.mono (Nat.le_of_ble_eq_true rfl) s_fld_Code_registers) (SCt.mono (Nat.le_of_ble_eq_true rfl) s_fld_Code_inputs) (SCt.mono (Nat.le_of_ble_eq_true rfl) s_is_integer) (SCt.mono (Nat.le_of_ble_eq_true rfl) s_fits) (SCt.mono (Nat.le_of_ble_eq_true rfl) s_fld_Code_width)
  have s_is_instruction : SCt P w K mg base cl 3 (.fn "is_instruction" 2 F_is_instruction) := sct_fn D_is_instruction rfl o_is_instruction
  have o_check_code : FnOk P w K mg base (L2.CX P w) 4 a_check_code d_check_code ["code"] (spF K cl 1 F_check_code) := ok_check_code bn D_check_code.fn (SCt.mono (Nat.le_of_ble_eq_true rfl) s_is_integer) (SCt.mono (Nat.le_of_ble_eq_true rfl) s_fld_Code_width) (SCt.mono (Nat.le_of_ble_eq_true rfl) s_cst_LEAST_WIDTH) (SCt.mono (Nat.le_of_ble_eq_true rfl) s_cst_MOST_WIDTH) (SCt.mono (Nat.le_of_ble_eq_true rfl) s_fld_Code_inputs) (SCt.mono (Nat.le_of_ble_eq_true rfl) s_fld_Code_registers) (SCt.mono (Nat.le_of_ble_eq_true rfl) s_cst_MOST_REGISTERS) (SCt.mono (Nat.le_of_ble_eq_true rfl) s_fld_Code_instructions) (SCt.mono (Nat.le_of_ble_eq_true rfl) s_is_instruction)
  have s_check_code : SCt P w K mg base cl 4 (.fn "check_code" 1 F_check_code) := sct_fn D_check_code rfl o_check_code
  have o_result_of : FnOk P w K mg base (L2.CX P w) 1 a_result_of d_result_of ["row", "registers", "inputs"] (spF K cl 3 F_result_of) := ok_result_of bn D_result_of.fn 
  have s_result_of : SCt P w K mg base cl 1 (.fn "result_of" 3 F_result_of) := sct_fn D_result_of rfl o_result_of
  have o_run_code : FnOk P w K mg base (L2.CX P w) 3 a_run_code d_run_code ["code", "inputs"] (spF K cl 2 F_run_code) := ok_run_code bn D_run_code.fn (SCt.mono (Nat.le_of_ble_eq_true rfl) s_fld_Code_registers) (SCt.mono (Nat.le_of_ble_eq_true rfl) s_fld_Code_instructions) (SCt.mono (Nat.le_of_ble_eq_true rfl) s_result_of) (SCt.mono (Nat.le_of_ble_eq_true rfl) s_fits) (SCt.mono (Nat.le_of_ble_eq_true rfl) s_fld_Code_width)
  have s_run_code : SCt P w K mg base cl 3 (.fn "run_code" 2 F_run_code) := sct_fn D_run_code rfl o_run_code
  have o_law_cell : FnOk P w K mg base (L2.CX P w) 1 a_law_cell d_law_cell ["_law_script", "_law_k"] (spF K cl 2 F_law_cell) := ok_law_cell bn D_law_cell.fn 
  have s_law_cell : SCt P w K mg base cl 1 (.fn "_law_cell" 2 F_law_cell) := sct_fn D_law_cell rfl o_law_cell
  have o_law_stream : FnOk P w K mg base (L2.CX P w) 1 a_law_stream d_law_stream ["_law_cell_here"] (spF K cl 1 F_law_stream) := ok_law_stream bn D_law_stream.fn 
  have s_law_stream : SCt P w K mg base cl 1 (.fn "_law_stream" 1 F_law_stream) := sct_fn D_law_stream rfl o_law_stream
  have o_law_take : FnOk P w K mg base (L2.CX P w) 1 a_law_take d_law_take ["_law_stream_here", "_law_many"] (spF K cl 2 F_law_take) := ok_law_take bn D_law_take.fn 
  have s_law_take : SCt P w K mg base cl 1 (.fn "_law_take" 2 F_law_take) := sct_fn D_law_take rfl o_law_take
  have z_law_same : ∀ k : Nat, FnOk P w K mg base (L2.CX P w) (1 + k) a_law_same d_law_same ["_law_actual", "_law_expected"] (spF K cl 2 (F_law_same k)) := by
    intro k
    induction k with
    | zero => exact fn_none D_law_same sn_law_same rfl
    | succ k ih => exact ok_law_same bn D_law_same.fn (sct_fn D_law_same rfl ih)
  have s_law_same : SCt P w K mg base cl 5 (.fn "_law_same" 2 (F_law_same 4)) := sct_fn D_law_same rfl (z_law_same 4)
  have o_law_machine : FnOk P w K mg base (L2.CX P w) 1 a_law_machine d_law_machine ["_law_width_here", "_law_registers", "_law_rows", "_law_inputs_here"] (spF K cl 4 F_law_machine) := ok_law_machine bn D_law_machine.fn 
  have s_law_machine : SCt P w K mg base cl 1 (.fn "_law_machine" 4 F_law_machine) := sct_fn D_law_machine rfl o_law_machine
  have o_law_width : FnOk P w K mg base (L2.CX P w) 2 a_law_width d_law_width ["_law_stream_here"] (spF K cl 1 F_law_width) := ok_law_width bn D_law_width.fn (SCt.mono (Nat.le_of_ble_eq_true rfl) s_law_take)
  have s_law_width : SCt P w K mg base cl 2 (.fn "_law_width" 1 F_law_width) := sct_fn D_law_width rfl o_law_width
  have o_law_integer : FnOk P w K mg base (L2.CX P w) 2 a_law_integer d_law_integer ["_law_stream_here", "_law_width_here"] (spF K cl 2 F_law_integer) := ok_law_integer bn D_law_integer.fn (SCt.mono (Nat.le_of_ble_eq_true rfl) s_law_take)
  have s_law_integer : SCt P w K mg base cl 2 (.fn "_law_integer" 2 F_law_integer) := sct_fn D_law_integer rfl o_law_integer
  have o_law_row : FnOk P w K mg base (L2.CX P w) 3 a_law_row d_law_row ["_law_stream_here", "_law_width_here", "_law_inputs_here", "_law_registers"] (spF K cl 4 F_law_row) := ok_law_row bn D_law_row.fn (SCt.mono (Nat.le_of_ble_eq_true rfl) s_law_take) (SCt.mono (Nat.le_of_ble_eq_true rfl) s_law_integer)
  have s_law_row : SCt P w K mg base cl 3 (.fn "_law_row" 4 F_law_row) := sct_fn D_law_row rfl o_law_row
  have o_law_inputs : FnOk P w K mg base (L2.CX P w) 3 a_law_inputs d_law_inputs ["_law_stream_here", "_law_width_here", "_law_count"] (spF K cl 3 F_law_inputs) := ok_law_inputs bn D_law_inputs.fn (SCt.mono (Nat.le_of_ble_eq_true rfl) s_law_integer) (SCt.mono (Nat.le_of_ble_eq_true rfl) s_law_take)
  have s_law_inputs : SCt P w K mg base cl 3 (.fn "_law_inputs" 3 F_law_inputs) := sct_fn D_law_inputs rfl o_law_inputs
  have o_Code_init : FnOk P w K mg base (L2.CX P w) 1 a_Code_init d_Code_init ["self", "width", "inputs", "registers", "instructions"] (spF K cl 5 F_Code_init) := ok_Code_init bn E_Code_init (SCt.mono (Nat.le_of_ble_eq_true rfl) s_fld_Code_width) (SCt.mono (Nat.le_of_ble_eq_true rfl) s_fld_Code_inputs) (SCt.mono (Nat.le_of_ble_eq_true rfl) s_fld_Code_registers) (SCt.mono (Nat.le_of_ble_eq_true rfl) s_fld_Code_instructions)
  have s_mk_Code : SCt P w K mg base cl 2 (.mk "Code" 4 F_Code_init) := ⟨1, _, _, _, Nat.le_refl _, rfl, o_Code_init, M_Code, G_Code, B_Code_init⟩
  have o_law : FnOk P w K mg base (L2.CX P w) 6 a_law d_law ["_law_script"] (spF K cl 1 F_law) := ok_law bn D_law.fn (SCt.mono (Nat.le_of_ble_eq_true rfl) s_law_stream) (SCt.mono (Nat.le_of_ble_eq_true rfl) s_law_cell) (SCt.mono (Nat.le_of_ble_eq_true rfl) s_law_width) (SCt.mono (Nat.le_of_ble_eq_true rfl) s_law_take) (SCt.mono (Nat.le_of_ble_eq_true rfl) s_law_inputs) (SCt.mono (Nat.le_of_ble_eq_true rfl) s_law_row) (SCt.mono (Nat.le_of_ble_eq_true rfl) s_mk_Code) (SCt.mono (Nat.le_of_ble_eq_true rfl) s_check_code) (SCt.mono (Nat.le_of_ble_eq_true rfl) s_law_machine) (SCt.mono (Nat.le_of_ble_eq_true rfl) s_law_same) (SCt.mono (Nat.le_of_ble_eq_true rfl) s_run_code) (SCt.mono (Nat.le_of_ble_eq_true rfl) s_fld_Code_instructions) (SCt.mono (Nat.le_of_ble_eq_true rfl) s_fld_Code_width) (SCt.mono (Nat.le_of_ble_eq_true rfl) s_fld_Code_registers) (SCt.mono (Nat.le_of_ble_eq_true rfl) s_fld_Code_inputs)
  have s_law : SCt P w K mg base cl 6 (.fn "law" 1 F_law) := sct_fn D_law rfl o_law
  exact law_end o_law e_law
theorem all_mk {P : Program} {w : World} {K : PySem.W.Frag} {h : Heap} {mg : Str → Option Value} {fa : Addr} (X : K.In h) (G : h.Ns mainGlobals mg) (hfa : mg "law" = some (.ref fa))
    {a_is_integer a_power_of_two a_fits a_is_index a_is_instruction a_check_code a_result_of a_run_code a_law_cell a_law_stream a_law_take a_law_same a_law_machine a_law_width a_law_integer a_law_row a_law_inputs a_Code_init a_law C_Code q_SIZES : Addr} {od1 an1 od2 an2 od3 an3 od4 an4 od5 an5 od6 an6 od7 an7 od8 an8 od9 an9 od10 an10 od11 an11 od12 an12 od13 an13 od14 an14 od15 an15 od16 an16 od17 an17 od18 an18 od19 an19 : Option Addr} {sl1 sl2 sl3 sl4 sl5 sl6 sl7 sl8 sl9 sl10 sl11 sl12 sl13 sl14 sl15 sl16 sl17 sl18 sl19 : Array (Option Value)} {oc1 kV1 dc1 pm1 cd1 ct1 oc2 kV2 dc2 pm2 cd2 ct2 oc3 kV3 dc3 pm3 cd3 ct3 oc4 kV4 dc4 pm4 cd4 ct4 oc5 kV5 dc5 pm5 cd5 ct5 oc6 kV6 dc6 pm6 cd6 ct6 oc7 kV7 dc7 pm7 cd7 ct7 oc8 kV8 dc8 pm8 cd8 ct8 oc9 kV9 dc9 pm9 cd9 ct9 oc10 kV10 dc10 pm10 cd10 ct10 oc11 kV11 dc11 pm11 cd11 ct11 oc12 kV12 dc12 pm12 cd12 ct12 oc13 kV13 dc13 pm13 cd13 ct13 oc14 kV14 dc14 pm14 cd14 ct14 oc15 kV15 dc15 pm15 cd15 ct15 oc16 kV16 dc16 pm16 cd16 ct16 oc17 kV17 dc17 pm17 cd17 ct17 oc18 kV18 dc18 pm18 cd18 ct18 oc19 kV19 dc19 pm19 cd19 ct19 : Value}
    {t_LEAST_WIDTH t_MOST_WIDTH t_MOST_REGISTERS : Tok}
    {es_SIZES : Array DictEntry} {en_SIZES : Nat}
    (aCCode : PySem.W.nsIn K mainGlobals "Code" = some (some (.ref C_Code)))
    (a1 : PySem.W.nsIn K mainGlobals "is_integer" = some (some (.ref a_is_integer)))
    (l1 : K.lookup a_is_integer = some ⟨oc1, od1, .func (PySem.W.fnOf "is_integer" "is_integer" (defArgs st_is_integer) (defBody st_is_integer) (defScope st_is_integer) .none kV1 dc1 pm1 an1 cd1 ct1), sl1⟩) (c1 : PySem.W.codeIn K cd1 "is_integer" = true) (k1 : PySem.W.keepIn K (.ref a_is_integer) = true)
    (a2 : PySem.W.nsIn K mainGlobals "power_of_two" = some (some (.ref a_power_of_two)))
    (l2 : K.lookup a_power_of_two = some ⟨oc2, od2, .func (PySem.W.fnOf "power_of_two" "power_of_two" (defArgs st_power_of_two) (defBody st_power_of_two) (defScope st_power_of_two) .none kV2 dc2 pm2 an2 cd2 ct2), sl2⟩) (c2 : PySem.W.codeIn K cd2 "power_of_two" = true) (k2 : PySem.W.keepIn K (.ref a_power_of_two) = true)
    (a3 : PySem.W.nsIn K mainGlobals "fits" = some (some (.ref a_fits)))
    (l3 : K.lookup a_fits = some ⟨oc3, od3, .func (PySem.W.fnOf "fits" "fits" (defArgs st_fits) (defBody st_fits) (defScope st_fits) .none kV3 dc3 pm3 an3 cd3 ct3), sl3⟩) (c3 : PySem.W.codeIn K cd3 "fits" = true) (k3 : PySem.W.keepIn K (.ref a_fits) = true)
    (a4 : PySem.W.nsIn K mainGlobals "is_index" = some (some (.ref a_is_index)))
    (l4 : K.lookup a_is_index = some ⟨oc4, od4, .func (PySem.W.fnOf "is_index" "is_index" (defArgs st_is_index) (defBody st_is_index) (defScope st_is_index) .none kV4 dc4 pm4 an4 cd4 ct4), sl4⟩) (c4 : PySem.W.codeIn K cd4 "is_index" = true) (k4 : PySem.W.keepIn K (.ref a_is_index) = true)
    (a5 : PySem.W.nsIn K mainGlobals "is_instruction" = some (some (.ref a_is_instruction)))
    (l5 : K.lookup a_is_instruction = some ⟨oc5, od5, .func (PySem.W.fnOf "is_instruction" "is_instruction" (defArgs st_is_instruction) (defBody st_is_instruction) (defScope st_is_instruction) .none kV5 dc5 pm5 an5 cd5 ct5), sl5⟩) (c5 : PySem.W.codeIn K cd5 "is_instruction" = true) (k5 : PySem.W.keepIn K (.ref a_is_instruction) = true)
    (a6 : PySem.W.nsIn K mainGlobals "check_code" = some (some (.ref a_check_code)))
    (l6 : K.lookup a_check_code = some ⟨oc6, od6, .func (PySem.W.fnOf "check_code" "check_code" (defArgs st_check_code) (defBody st_check_code) (defScope st_check_code) .none kV6 dc6 pm6 an6 cd6 ct6), sl6⟩) (c6 : PySem.W.codeIn K cd6 "check_code" = true) (k6 : PySem.W.keepIn K (.ref a_check_code) = true)
    (a7 : PySem.W.nsIn K mainGlobals "result_of" = some (some (.ref a_result_of)))
    (l7 : K.lookup a_result_of = some ⟨oc7, od7, .func (PySem.W.fnOf "result_of" "result_of" (defArgs st_result_of) (defBody st_result_of) (defScope st_result_of) .none kV7 dc7 pm7 an7 cd7 ct7), sl7⟩) (c7 : PySem.W.codeIn K cd7 "result_of" = true) (k7 : PySem.W.keepIn K (.ref a_result_of) = true)
    (a8 : PySem.W.nsIn K mainGlobals "run_code" = some (some (.ref a_run_code)))
    (l8 : K.lookup a_run_code = some ⟨oc8, od8, .func (PySem.W.fnOf "run_code" "run_code" (defArgs st_run_code) (defBody st_run_code) (defScope st_run_code) .none kV8 dc8 pm8 an8 cd8 ct8), sl8⟩) (c8 : PySem.W.codeIn K cd8 "run_code" = true) (k8 : PySem.W.keepIn K (.ref a_run_code) = true)
    (a9 : PySem.W.nsIn K mainGlobals "_law_cell" = some (some (.ref a_law_cell)))
    (l9 : K.lookup a_law_cell = some ⟨oc9, od9, .func (PySem.W.fnOf "_law_cell" "_law_cell" (defArgs st_law_cell) (defBody st_law_cell) (defScope st_law_cell) .none kV9 dc9 pm9 an9 cd9 ct9), sl9⟩) (c9 : PySem.W.codeIn K cd9 "_law_cell" = true) (k9 : PySem.W.keepIn K (.ref a_law_cell) = true)
    (a10 : PySem.W.nsIn K mainGlobals "_law_stream" = some (some (.ref a_law_stream)))
    (l10 : K.lookup a_law_stream = some ⟨oc10, od10, .func (PySem.W.fnOf "_law_stream" "_law_stream" (defArgs st_law_stream) (defBody st_law_stream) (defScope st_law_stream) .none kV10 dc10 pm10 an10 cd10 ct10), sl10⟩) (c10 : PySem.W.codeIn K cd10 "_law_stream" = true) (k10 : PySem.W.keepIn K (.ref a_law_stream) = true)
    (a11 : PySem.W.nsIn K mainGlobals "_law_take" = some (some (.ref a_law_take)))
    (l11 : K.lookup a_law_take = some ⟨oc11, od11, .func (PySem.W.fnOf "_law_take" "_law_take" (defArgs st_law_take) (defBody st_law_take) (defScope st_law_take) .none kV11 dc11 pm11 an11 cd11 ct11), sl11⟩) (c11 : PySem.W.codeIn K cd11 "_law_take" = true) (k11 : PySem.W.keepIn K (.ref a_law_take) = true)
    (a12 : PySem.W.nsIn K mainGlobals "_law_same" = some (some (.ref a_law_same)))
    (l12 : K.lookup a_law_same = some ⟨oc12, od12, .func (PySem.W.fnOf "_law_same" "_law_same" (defArgs st_law_same) (defBody st_law_same) (defScope st_law_same) .none kV12 dc12 pm12 an12 cd12 ct12), sl12⟩) (c12 : PySem.W.codeIn K cd12 "_law_same" = true) (k12 : PySem.W.keepIn K (.ref a_law_same) = true)
    (a13 : PySem.W.nsIn K mainGlobals "_law_machine" = some (some (.ref a_law_machine)))
    (l13 : K.lookup a_law_machine = some ⟨oc13, od13, .func (PySem.W.fnOf "_law_machine" "_law_machine" (defArgs st_law_machine) (defBody st_law_machine) (defScope st_law_machine) .none kV13 dc13 pm13 an13 cd13 ct13), sl13⟩) (c13 : PySem.W.codeIn K cd13 "_law_machine" = true) (k13 : PySem.W.keepIn K (.ref a_law_machine) = true)
    (a14 : PySem.W.nsIn K mainGlobals "_law_width" = some (some (.ref a_law_width)))
    (l14 : K.lookup a_law_width = some ⟨oc14, od14, .func (PySem.W.fnOf "_law_width" "_law_width" (defArgs st_law_width) (defBody st_law_width) (defScope st_law_width) .none kV14 dc14 pm14 an14 cd14 ct14), sl14⟩) (c14 : PySem.W.codeIn K cd14 "_law_width" = true) (k14 : PySem.W.keepIn K (.ref a_law_width) = true)
    (a15 : PySem.W.nsIn K mainGlobals "_law_integer" = some (some (.ref a_law_integer)))
    (l15 : K.lookup a_law_integer = some ⟨oc15, od15, .func (PySem.W.fnOf "_law_integer" "_law_integer" (defArgs st_law_integer) (defBody st_law_integer) (defScope st_law_integer) .none kV15 dc15 pm15 an15 cd15 ct15), sl15⟩) (c15 : PySem.W.codeIn K cd15 "_law_integer" = true) (k15 : PySem.W.keepIn K (.ref a_law_integer) = true)
    (a16 : PySem.W.nsIn K mainGlobals "_law_row" = some (some (.ref a_law_row)))
    (l16 : K.lookup a_law_row = some ⟨oc16, od16, .func (PySem.W.fnOf "_law_row" "_law_row" (defArgs st_law_row) (defBody st_law_row) (defScope st_law_row) .none kV16 dc16 pm16 an16 cd16 ct16), sl16⟩) (c16 : PySem.W.codeIn K cd16 "_law_row" = true) (k16 : PySem.W.keepIn K (.ref a_law_row) = true)
    (a17 : PySem.W.nsIn K mainGlobals "_law_inputs" = some (some (.ref a_law_inputs)))
    (l17 : K.lookup a_law_inputs = some ⟨oc17, od17, .func (PySem.W.fnOf "_law_inputs" "_law_inputs" (defArgs st_law_inputs) (defBody st_law_inputs) (defScope st_law_inputs) .none kV17 dc17 pm17 an17 cd17 ct17), sl17⟩) (c17 : PySem.W.codeIn K cd17 "_law_inputs" = true) (k17 : PySem.W.keepIn K (.ref a_law_inputs) = true)
    (a18 : PySem.W.findIn K (.ref C_Code) "__init__" = some (some (.ref a_Code_init))) (i18 : PySem.W.isFn K (.ref a_Code_init) = true)
    (l18 : K.lookup a_Code_init = some ⟨oc18, od18, .func (PySem.W.fnOf "__init__" "Code.__init__" (defArgs st_Code_init) (defBody st_Code_init) (defScope st_Code_init) .none kV18 dc18 pm18 an18 cd18 ct18), sl18⟩) (c18 : PySem.W.codeIn K cd18 "Code.__init__" = true) (k18 : PySem.W.keepIn K (.ref a_Code_init) = true)
    (a19 : PySem.W.nsIn K mainGlobals "law" = some (some (.ref a_law)))
    (l19 : K.lookup a_law = some ⟨oc19, od19, .func (PySem.W.fnOf "law" "law" (defArgs st_law) (defBody st_law) (defScope st_law) .none kV19 dc19 pm19 an19 cd19 ct19), sl19⟩) (c19 : PySem.W.codeIn K cd19 "law" = true) (k19 : PySem.W.keepIn K (.ref a_law) = true)
    (pgCode : PySem.W.plainGet K C_Code Str.empty = true) (hdCode : PySem.W.hasDictIn K C_Code = true) (poCode : PySem.W.plainOver K C_Code = true) (saCode : PySem.W.findIn K (.ref C_Code) "__setattr__" = some (some (.builtin "object.__setattr__"))) (mkCode : PySem.W.makesIn K C_Code = true) (kcCode : PySem.W.keepIn K (.ref C_Code) = true)
    (nCode_registers : PySem.W.findIn K (.ref C_Code) "registers" = some none)
    (nCode_inputs : PySem.W.findIn K (.ref C_Code) "inputs" = some none)
    (nCode_width : PySem.W.findIn K (.ref C_Code) "width" = some none)
    (nCode_instructions : PySem.W.findIn K (.ref C_Code) "instructions" = some none)
    (vLEAST_WIDTH : PySem.W.nsIn K mainGlobals "LEAST_WIDTH" = some (some (.int (2) t_LEAST_WIDTH)))
    (vMOST_WIDTH : PySem.W.nsIn K mainGlobals "MOST_WIDTH" = some (some (.int (200) t_MOST_WIDTH)))
    (vMOST_REGISTERS : PySem.W.nsIn K mainGlobals "MOST_REGISTERS" = some (some (.int (10000) t_MOST_REGISTERS)))
    (wSIZES : PySem.W.nsIn K mainGlobals "SIZES" = some (some (.ref q_SIZES))) (ldSIZES : K.lookup q_SIZES = some ⟨.type "dict", none, .dict es_SIZES en_SIZES, #[]⟩) (klSIZES : PySem.W.KeysLit w.params es_SIZES.toList) (loSIZES : (q_SIZES == sysModules) = false) (dgSIZES : DgE K es_SIZES.toList [("load", (D.int (3))), ("set", (D.int (3))), ("times", (D.int (4))), ("add", (D.int (3))), ("bend", (D.int (2))), ("give", (D.int (2)))])
    (z_len : PySem.W.nsIn K mainGlobals "len" = some none)
    (z_abs : PySem.W.nsIn K mainGlobals "abs" = some none)
    (z_max : PySem.W.nsIn K mainGlobals "max" = some none)
    (z_min : PySem.W.nsIn K mainGlobals "min" = some none)
    (z_int : PySem.W.nsIn K mainGlobals "int" = some none)
    (z_bool : PySem.W.nsIn K mainGlobals "bool" = some none)
    (z_tuple : PySem.W.nsIn K mainGlobals "tuple" = some none)
    (z_list : PySem.W.nsIn K mainGlobals "list" = some none)
    (z_sum : PySem.W.nsIn K mainGlobals "sum" = some none)
    (z_all : PySem.W.nsIn K mainGlobals "all" = some none)
    (z_any : PySem.W.nsIn K mainGlobals "any" = some none)
    (z_range : PySem.W.nsIn K mainGlobals "range" = some none)
    (z_enumerate : PySem.W.nsIn K mainGlobals "enumerate" = some none)
    (z_zip : PySem.W.nsIn K mainGlobals "zip" = some none)
    (z_isinstance : PySem.W.nsIn K mainGlobals "isinstance" = some none)
    (z_str : PySem.W.nsIn K mainGlobals "str" = some none) :
    ∃ fd : FuncData, (∀ (s : Shared) (v : Value), BindsTo s fd ⟨[v], []⟩ [("_law_script", v)]) ∧ ∀ base : Heap, K.In base → base.Ns mainGlobals mg → FnOk P w K mg base (L2.CX P w) 6 fa fd ["_law_script"] (spLaw K) := by
  have e := hfa.symm.trans (PySem.W.mg_of X G a19)
  cases e
  have F1 := fun_mk (st := st_is_integer) l1 c1 k1
  have b1 := F1.binds (ps := ["value"]) fun _ _ _ _ _ _ us hl => match us, hl with | [_], _ => rfl
  have F2 := fun_mk (st := st_power_of_two) l2 c2 k2
  have b2 := F2.binds (ps := ["exponent"]) fun _ _ _ _ _ _ us hl => match us, hl with | [_], _ => rfl
  have F3 := fun_mk (st := st_fits) l3 c3 k3
  have b3 := F3.binds (ps := ["width", "value"]) fun _ _ _ _ _ _ us hl => match us, hl with | [_, _], _ => rfl
  have F4 := fun_mk (st := st_is_index) l4 c4 k4
  have b4 := F4.binds (ps := ["value", "count"]) fun _ _ _ _ _ _ us hl => match us, hl with | [_, _], _ => rfl
  have F5 := fun_mk (st := st_is_instruction) l5 c5 k5
  have b5 := F5.binds (ps := ["code", "row"]) fun _ _ _ _ _ _ us hl => match us, hl with | [_, _], _ => rfl
  have F6 := fun_mk (st := st_check_code) l6 c6 k6
  have b6 := F6.binds (ps := ["code"]) fun _ _ _ _ _ _ us hl => match us, hl with | [_], _ => rfl
  have F7 := fun_mk (st := st_result_of) l7 c7 k7
  have b7 := F7.binds (ps := ["row", "registers", "inputs"]) fun _ _ _ _ _ _ us hl => match us, hl with | [_, _, _], _ => rfl
  have F8 := fun_mk (st := st_run_code) l8 c8 k8
  have b8 := F8.binds (ps := ["code", "inputs"]) fun _ _ _ _ _ _ us hl => match us, hl with | [_, _], _ => rfl
  have F9 := fun_mk (st := st_law_cell) l9 c9 k9
  have b9 := F9.binds (ps := ["_law_script", "_law_k"]) fun _ _ _ _ _ _ us hl => match us, hl with | [_, _], _ => rfl
  have F10 := fun_mk (st := st_law_stream) l10 c10 k10
  have b10 := F10.binds (ps := ["_law_cell_here"]) fun _ _ _ _ _ _ us hl => match us, hl with | [_], _ => rfl
  have F11 := fun_mk (st := st_law_take) l11 c11 k11
  have b11 := F11.binds (ps := ["_law_stream_here", "_law_many"]) fun _ _ _ _ _ _ us hl => match us, hl with | [_, _], _ => rfl
  have F12 := fun_mk (st := st_law_same) l12 c12 k12
  have b12 := F12.binds (ps := ["_law_actual", "_law_expected"]) fun _ _ _ _ _ _ us hl => match us, hl with | [_, _], _ => rfl
  have F13 := fun_mk (st := st_law_machine) l13 c13 k13
  have b13 := F13.binds (ps := ["_law_width_here", "_law_registers", "_law_rows", "_law_inputs_here"]) fun _ _ _ _ _ _ us hl => match us, hl with | [_, _, _, _], _ => rfl
  have F14 := fun_mk (st := st_law_width) l14 c14 k14
  have b14 := F14.binds (ps := ["_law_stream_here"]) fun _ _ _ _ _ _ us hl => match us, hl with | [_], _ => rfl
  have F15 := fun_mk (st := st_law_integer) l15 c15 k15
  have b15 := F15.binds (ps := ["_law_stream_here", "_law_width_here"]) fun _ _ _ _ _ _ us hl => match us, hl with | [_, _], _ => rfl
  have F16 := fun_mk (st := st_law_row) l16 c16 k16
  have b16 := F16.binds (ps := ["_law_stream_here", "_law_width_here", "_law_inputs_here", "_law_registers"]) fun _ _ _ _ _ _ us hl => match us, hl with | [_, _, _, _], _ => rfl
  have F17 := fun_mk (st := st_law_inputs) l17 c17 k17
  have b17 := F17.binds (ps := ["_law_stream_here", "_law_width_here", "_law_count"]) fun _ _ _ _ _ _ us hl => match us, hl with | [_, _, _], _ => rfl
  have F18 := fun_mk (st := st_Code_init) l18 c18 k18
  have b18 := F18.binds (ps := ["self", "width", "inputs", "registers", "instructions"]) fun _ _ _ _ _ _ us hl => match us, hl with | [_, _, _, _, _], _ => rfl
  have F19 := fun_mk (st := st_law) l19 c19 k19
  have b19 := F19.binds (ps := ["_law_script"]) fun _ _ _ _ _ _ us hl => match us, hl with | [_], _ => rfl
  exact ⟨PySem.W.fnOf "law" "law" (defArgs st_law) (defBody st_law) (defScope st_law) .none kV19 dc19 pm19 an19 cd19 ct19, fun s v => .of_eq rfl, fun base _ _ => chain (fun x hx => by simp only [biNames, List.mem_cons, List.not_mem_nil, or_false] at hx; rcases hx with rfl | rfl | rfl | rfl | rfl | rfl | rfl | rfl | rfl | rfl | rfl | rfl | rfl | rfl | rfl | rfl <;> apply PySem.W.mg_none_of X G <;> assumption) ⟨F1, b1, PySem.W.mg_of X G a1⟩ ⟨F2, b2, PySem.W.mg_of X G a2⟩ ⟨F3, b3, PySem.W.mg_of X G a3⟩ ⟨F4, b4, PySem.W.mg_of X G a4⟩ ⟨F5, b5, PySem.W.mg_of X G a5⟩ ⟨F6, b6, PySem.W.mg_of X G a6⟩ ⟨F7, b7, PySem.W.mg_of X G a7⟩ ⟨F8, b8, PySem.W.mg_of X G a8⟩ ⟨F9, b9, PySem.W.mg_of X G a9⟩ ⟨F10, b10, PySem.W.mg_of X G a10⟩ ⟨F11, b11, PySem.W.mg_of X G a11⟩ ⟨F12, b12, PySem.W.mg_of X G a12⟩ ⟨F13, b13, PySem.W.mg_of X G a13⟩ ⟨F14, b14, PySem.W.mg_of X G a14⟩ ⟨F15, b15, PySem.W.mg_of X G a15⟩ ⟨F16, b16, PySem.W.mg_of X G a16⟩ ⟨F17, b17, PySem.W.mg_of X G a17⟩ ⟨F19, b19, PySem.W.mg_of X G a19⟩ F18 b18 ⟨pgCode, hdCode, poCode, saCode⟩ ⟨mkCode, a18, i18, kcCode⟩ (PySem.W.mg_of X G aCCode) nCode_registers nCode_inputs nCode_width nCode_instructions (PySem.W.mg_of X G vLEAST_WIDTH) (PySem.W.mg_of X G vMOST_WIDTH) (PySem.W.mg_of X G vMOST_REGISTERS) (PySem.W.mg_of X G wSIZES) ⟨_, _, ldSIZES, klSIZES, loSIZES, dgSIZES⟩⟩
end K65
open PySem PySem.W PyProof.Rows
set_option maxRecDepth 100000 in
set_option maxHeartbeats 0 in
theorem PySem.Challenge.cw_kinkmeasure_k65_runs_of_code_holds : PySem.Challenge.rw_kinkmeasure_k65_runs_of_code.Holds := by
  w_on; o_law; k_head; (case hw => w_witness2)
  k_fill
  refine L2.walk_of (l := PySem.Challenge.rw_kinkmeasure_k65_runs_of_code) (n := 63) (k := 6) (x := "_law_script") (CX := fun w => L2.CX (PySem.Challenge.rw_kinkmeasure_k65_runs_of_code).prog w) (sp := fun w => RF.spLaw _) rfl (by decide) rfl ⟨rfl, by decide, by decide⟩ (fun w h Y => PySem.W.kIn_of Y) ?F (fun _ _ a ns hl hO hS => ⟨a, ns, rfl, RF.only_seq hO hS, hl, fun _ => rfl⟩) (fun _ _ _ _ _ h => by obtain ⟨_, _, _, _, _, _, _, _, _, _, _, _, h⟩ := h; exact h)
  case F =>
    intro w mg fa h KX G hmg
    refine' K65.all_mk KX G hmg ?aCCode ?a1 ?l1 ?c1 ?k1 ?a2 ?l2 ?c2 ?k2 ?a3 ?l3 ?c3 ?k3 ?a4 ?l4 ?c4 ?k4 ?a5 ?l5 ?c5 ?k5 ?a6 ?l6 ?c6 ?k6 ?a7 ?l7 ?c7 ?k7 ?a8 ?l8 ?c8 ?k8 ?a9 ?l9 ?c9 ?k9 ?a10 ?l10 ?c10 ?k10 ?a11 ?l11 ?c11 ?k11 ?a12 ?l12 ?c12 ?k12 ?a13 ?l13 ?c13 ?k13 ?a14 ?l14 ?c14 ?k14 ?a15 ?l15 ?c15 ?k15 ?a16 ?l16 ?c16 ?k16 ?a17 ?l17 ?c17 ?k17 ?a18 ?i18 ?l18 ?c18 ?k18 ?a19 ?l19 ?c19 ?k19 ?pgCode ?hdCode ?poCode ?saCode ?mkCode ?kcCode ?nCode_registers ?nCode_inputs ?nCode_width ?nCode_instructions ?vLEAST_WIDTH ?vMOST_WIDTH ?vMOST_REGISTERS ?wSIZES ?ldSIZES ?klSIZES ?loSIZES ?dgSIZES ?z_len ?z_abs ?z_max ?z_min ?z_int ?z_bool ?z_tuple ?z_list ?z_sum ?z_all ?z_any ?z_range ?z_enumerate ?z_zip ?z_isinstance ?z_str
    (case aCCode => k_is)
    (case a1 => k_is)
    (case l1 => k_is)
    (case c1 => k_is)
    (case k1 => k_is)
    (case a2 => k_is)
    (case l2 => k_is)
    (case c2 => k_is)
    (case k2 => k_is)
    (case a3 => k_is)
    (case l3 => k_is)
    (case c3 => k_is)
    (case k3 => k_is)
    (case a4 => k_is)
    (case l4 => k_is)
    (case c4 => k_is)
    (case k4 => k_is)
    (case a5 => k_is)
    (case l5 => k_is)
    (case c5 => k_is)
    (case k5 => k_is)
    (case a6 => k_is)
    (case l6 => k_is)
    (case c6 => k_is)
    (case k6 => k_is)
    (case a7 => k_is)
    (case l7 => k_is)
    (case c7 => k_is)
    (case k7 => k_is)
    (case a8 => k_is)
    (case l8 => k_is)
    (case c8 => k_is)
    (case k8 => k_is)
    (case a9 => k_is)
    (case l9 => k_is)
    (case c9 => k_is)
    (case k9 => k_is)
    (case a10 => k_is)
    (case l10 => k_is)
    (case c10 => k_is)
    (case k10 => k_is)
    (case a11 => k_is)
    (case l11 => k_is)
    (case c11 => k_is)
    (case k11 => k_is)
    (case a12 => k_is)
    (case l12 => k_is)
    (case c12 => k_is)
    (case k12 => k_is)
    (case a13 => k_is)
    (case l13 => k_is)
    (case c13 => k_is)
    (case k13 => k_is)
    (case a14 => k_is)
    (case l14 => k_is)
    (case c14 => k_is)
    (case k14 => k_is)
    (case a15 => k_is)
    (case l15 => k_is)
    (case c15 => k_is)
    (case k15 => k_is)
    (case a16 => k_is)
    (case l16 => k_is)
    (case c16 => k_is)
    (case k16 => k_is)
    (case a17 => k_is)
    (case l17 => k_is)
    (case c17 => k_is)
    (case k17 => k_is)
    (case a18 => k_is)
    (case i18 => k_is)
    (case l18 => k_is)
    (case c18 => k_is)
    (case k18 => k_is)
    (case a19 => k_is)
    (case l19 => k_is)
    (case c19 => k_is)
    (case k19 => k_is)
    (case pgCode => k_is)
    (case hdCode => k_is)
    (case poCode => k_is)
    (case saCode => k_is)
    (case mkCode => k_is)
    (case kcCode => k_is)
    (case nCode_registers => k_is)
    (case nCode_inputs => k_is)
    (case nCode_width => k_is)
    (case nCode_instructions => k_is)
    (case vLEAST_WIDTH => k_is)
    (case vMOST_WIDTH => k_is)
    (case vMOST_REGISTERS => k_is)
    (case wSIZES => k_is)
    (case ldSIZES => k_is)
    (case z_len => k_is)
    (case z_abs => k_is)
    (case z_max => k_is)
    (case z_min => k_is)
    (case z_int => k_is)
    (case z_bool => k_is)
    (case z_tuple => k_is)
    (case z_list => k_is)
    (case z_sum => k_is)
    (case z_all => k_is)
    (case z_any => k_is)
    (case z_range => k_is)
    (case z_enumerate => k_is)
    (case z_zip => k_is)
    (case z_isinstance => k_is)
    (case z_str => k_is)
    (case klSIZES => exact RF.kl_cons rfl rfl (RF.kl_cons rfl rfl (RF.kl_cons rfl rfl (RF.kl_cons rfl rfl (RF.kl_cons rfl rfl (RF.kl_cons rfl rfl (trivial)))))))
    (case loSIZES => decide +kernel)
    (case dgSIZES => exact RF.dg_int rfl rfl (RF.dg_int rfl rfl (RF.dg_int rfl rfl (RF.dg_int rfl rfl (RF.dg_int rfl rfl (RF.dg_int rfl rfl (RF.dg_nil)))))))


