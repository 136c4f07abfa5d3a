import PyProof.Rows.All
import Wide.All
import OpenK.AllK
import Wide.FinOn
import HandS.ForMost
import HandS.ForExc
import HandS.CallSlots
import HandS.HotCalls
import HandS.ExcIs
import HandS.IsInst
import HandS.WideBits
import HandS.SortInts
import HandS.TupAny
import HandS.Deep
import HandS.Style
import HandS.RaiseMore
import HandS.More
import PyProof.Rows.RegFStrParts
import PyProof.P3Eq
import PyProof.Rows.ReprOcc
import PyProof.Rows.StrSplitJoin
import PySem.Challenge.RW_homeandaway_k21_lines_and_forms
set_option Elab.async false
set_option linter.all false
set_option maxRecDepth 100000
set_option maxHeartbeats 4000000
/-! A layer of plain data over HandS: values D, lists at places (a store), what an expression computes as a plain function. -/
namespace M
open PySem PySem.Spec PyProof.Rows L2

/-- plain data, by value -/
inductive D where
  | non | bl (b : Bool) | int (i : Int) | str (x : PySem.Str) | tup (xs : List D) | lst (xs : List D) | fn (x : PySem.Str) | kl (xs : List D) | raw (a : Addr)

/-- what an expression gives: data, a list at a place of the store, or a new list -/
inductive Val where
  | v (d : D) | l (n : Nat) | n (ds : List D)

abbrev Sto := List (Option (List D))
abbrev MEnv := List (Option Val)
/-- an exception: its class, and a field with an int (or none) -/
structure Exc where
  cls : PySem.Str
  fld : Option (PySem.Str × Int) := none

inductive R (α : Type) where
  | ok (a : α) (S : Sto) | er (e : Exc) (S : Sto) | bad
def R.bind {α β : Type} (r : R α) (f : α → Sto → R β) : R β := match r with
  | .ok a S => f a S
  | .er e S => .er e S
  | .bad => .bad
inductive RS where
  | nx (ρ : MEnv) (S : Sto) | rt (x : Val) (S : Sto) | bk (ρ : MEnv) (S : Sto) | ct (ρ : MEnv) (S : Sto) | er (e : Exc) (ρ : MEnv) (S : Sto) | bad
abbrev EM := MEnv → Sto → R D
abbrev VM := MEnv → Sto → R Val
abbrev TM := MEnv → Sto → R Bool
abbrev AM := MEnv → Sto → R (List Val)
abbrev SM := MEnv → Sto → RS
abbrev MFn := List Val → Sto → R Val

/-! ### what stands for what -/
structure RC where
  K : PySem.W.Frag
  mg : PySem.Str → Option Value

/-- a list that never changes any more -/
def FzL (K : PySem.W.Frag) (H : Hp) (a : Addr) (xs : List V) : Prop :=
  ∃ o, H a = some (.frz o (.lst xs))
theorem FzL.rd {K : PySem.W.Frag} {H : Hp} {a : Addr} {xs : List V} (h : FzL K H a xs) : Rd H a (.lst xs) := .inr h
/-- a list of the written part, or one that never changes (the script) -/
def KlL (K : PySem.W.Frag) (H : Hp) (a : Addr) (xs : List V) : Prop := (∃ o, H a = some (.frz o (.lst xs))) ∨
    ∃ (o : Obj) (its : Array Value) (n : Nat), K.lookup a = some o ∧ o.cls = .type "list" ∧ o.dict = none ∧ o.data = .seq its n ∧ its.size ≤ sizeLine ∧ Vals xs its.toList
theorem KlL.seq {K : PySem.W.Frag} {H : Hp} {a : Addr} {xs : List V} (h : KlL K H a xs) : SqL K H a xs := by
  rcases h with h | h
  · exact .inl (.inr h)
  · exact .inr h

mutual
def Rep (c : RC) (H : Hp) : D → V → Prop
  | .non, v => v = .non
  | .bl b, v => v = .bl b
  | .int i, v => v = .int i
  | .str x, v => v = .str x
  | .tup ds, v => ∃ a xs, v = .ref a ∧ SqT c.K H a xs ∧ Reps c H ds xs
  | .lst ds, v => ∃ a xs, v = .ref a ∧ FzL c.K H a xs ∧ Reps c H ds xs
  | .fn x, v => ∃ a, c.mg x = some (.ref a) ∧ v = .ref a
  | .kl ds, v => ∃ a xs, v = .ref a ∧ KlL c.K H a xs ∧ Reps c H ds xs
  | .raw a, v => v = .ref a
def Reps (c : RC) (H : Hp) : List D → List V → Prop
  | [], xs => xs = []
  | d :: ds, xs => ∃ x r, xs = x :: r ∧ Rep c H d x ∧ Reps c H ds r
end

/-- what never changes stands -/
def LeH (H H' : Hp) : Prop := ∀ a, (∀ xs, H a = some (.tup xs) → H' a = some (.tup xs)) ∧ (∀ o u, H a = some (.frz o u) → H' a = some (.frz o u))
theorem LeH.refl (H : Hp) : LeH H H := fun _ => ⟨fun _ h => h, fun _ _ h => h⟩
theorem LeH.trans {H H1 H2 : Hp} (a : LeH H H1) (b : LeH H1 H2) : LeH H H2 := fun x => ⟨fun xs h => (b x).1 xs ((a x).1 xs h), fun o u h => (b x).2 o u ((a x).2 o u h)⟩
theorem LeH.sqT {K : PySem.W.Frag} {H H' : Hp} {a : Addr} {xs : List V} (l : LeH H H') (h : SqT K H a xs) : SqT K H' a xs := by
  rcases h with (h | ⟨o, h⟩) | h
  · exact .inl (.inl ((l a).1 _ h))
  · exact .inl (.inr ⟨o, (l a).2 _ _ h⟩)
  · exact .inr h
theorem LeH.fzL {K : PySem.W.Frag} {H H' : Hp} {a : Addr} {xs : List V} (l : LeH H H') (h : FzL K H a xs) : FzL K H' a xs := by
  obtain ⟨o, h⟩ := h
  exact ⟨o, (l a).2 _ _ h⟩
theorem LeH.klL {K : PySem.W.Frag} {H H' : Hp} {a : Addr} {xs : List V} (l : LeH H H') (h : KlL K H a xs) : KlL K H' a xs := by
  rcases h with ⟨o, h⟩ | h
  · exact .inl ⟨o, (l a).2 _ _ h⟩
  · exact .inr h
mutual
theorem Rep.mono {c : RC} {H H' : Hp} (l : LeH H H') : ∀ {d : D} {v : V}, Rep c H d v → Rep c H' d v
  | .non, _, h => h
  | .bl _, _, h => h
  | .int _, _, h => h
  | .str _, _, h => h
  | .tup ds, _, h => by
    simp only [Rep] at h ⊢
    obtain ⟨a, xs, e, q, r⟩ := h
    exact ⟨a, xs, e, l.sqT q, Reps.mono l r⟩
  | .lst ds, _, h => by
    simp only [Rep] at h ⊢
    obtain ⟨a, xs, e, q, r⟩ := h
    exact ⟨a, xs, e, l.fzL q, Reps.mono l r⟩
  | .fn _, _, h => h
  | .kl ds, _, h => by
    simp only [Rep] at h ⊢
    obtain ⟨a, xs, e, q, r⟩ := h
    exact ⟨a, xs, e, l.klL q, Reps.mono l r⟩
  | .raw _, _, h => h
theorem Reps.mono {c : RC} {H H' : Hp} (l : LeH H H') : ∀ {ds : List D} {xs : List V}, Reps c H ds xs → Reps c H' ds xs
  | [], _, h => h
  | d :: ds, _, h => by
    simp only [Reps] at h ⊢
    obtain ⟨x, r, e, q, t⟩ := h
    exact ⟨x, r, e, Rep.mono l q, Reps.mono l t⟩
end
theorem Reps.length {c : RC} {H : Hp} : ∀ {ds : List D} {xs : List V}, Reps c H ds xs → ds.length = xs.length
  | [], _, h => by
    simp only [Reps] at h
    subst h
    rfl
  | d :: ds, _, h => by
    simp only [Reps] at h
    obtain ⟨x, r, rfl, _, t⟩ := h
    simp [Reps.length t]
theorem Reps.get {c : RC} {H : Hp} : ∀ {ds : List D} {xs : List V} {i : Nat} {d : D}, Reps c H ds xs → ds[i]? = some d → ∃ x, xs[i]? = some x ∧ Rep c H d x
  | [], _, i, _, _, e => by simp at e
  | d :: ds, _, 0, _, h, e => by
    simp only [Reps] at h
    obtain ⟨x, r, rfl, q, t⟩ := h
    simp at e
    subst e
    exact ⟨x, rfl, q⟩
  | d :: ds, _, i + 1, _, h, e => by
    simp only [Reps] at h
    obtain ⟨x, r, rfl, q, t⟩ := h
    exact Reps.get (i := i) t (by simpa using e)
theorem Reps.append {c : RC} {H : Hp} : ∀ {ds es : List D} {xs ys : List V}, Reps c H ds xs → Reps c H es ys → Reps c H (ds ++ es) (xs ++ ys)
  | [], _, _, _, h, q => by
    simp only [Reps] at h
    subst h
    exact q
  | d :: ds, es, _, ys, h, q => by
    simp only [Reps] at h
    obtain ⟨x, r, rfl, q1, t⟩ := h
    show Reps c H (d :: (ds ++ es)) (x :: (r ++ ys))
    simp only [Reps]
    exact ⟨x, _, rfl, q1, Reps.append t q⟩
theorem Reps.cons {c : RC} {H : Hp} {d : D} {x : V} {ds : List D} {xs : List V} (h : Rep c H d x) (q : Reps c H ds xs) : Reps c H (d :: ds) (x :: xs) := by
  simp only [Reps]
  exact ⟨x, xs, rfl, h, q⟩
theorem Reps.nil {c : RC} {H : Hp} : Reps c H [] [] := by simp only [Reps]
theorem Reps.one {c : RC} {H : Hp} {d : D} {x : V} (h : Rep c H d x) : Reps c H [d] [x] := .cons h .nil
theorem Reps.take {c : RC} {H : Hp} : ∀ (n : Nat) {ds : List D} {xs : List V}, Reps c H ds xs → Reps c H (ds.take n) (xs.take n)
  | 0, _, _, _ => by simp only [List.take_zero]; exact .nil
  | n + 1, [], _, h => by
    simp only [Reps] at h
    subst h
    exact .nil
  | n + 1, d :: ds, _, h => by
    simp only [Reps] at h
    obtain ⟨x, r, rfl, q, t⟩ := h
    exact .cons q (Reps.take n t)
theorem Reps.drop {c : RC} {H : Hp} : ∀ (n : Nat) {ds : List D} {xs : List V}, Reps c H ds xs → Reps c H (ds.drop n) (xs.drop n)
  | 0, _, _, h => h
  | n + 1, [], _, h => by
    simp only [Reps] at h
    subst h
    exact .nil
  | n + 1, d :: ds, _, h => by
    simp only [Reps] at h
    obtain ⟨x, r, rfl, q, t⟩ := h
    exact Reps.drop n t
theorem Reps.reverse {c : RC} {H : Hp} : ∀ {ds : List D} {xs : List V}, Reps c H ds xs → Reps c H ds.reverse xs.reverse
  | [], _, h => by
    simp only [Reps] at h
    subst h
    exact .nil
  | d :: ds, _, h => by
    simp only [Reps] at h
    obtain ⟨x, r, rfl, q, t⟩ := h
    rw [List.reverse_cons, List.reverse_cons]
    exact (Reps.reverse t).append (.one q)
theorem Reps.set {c : RC} {H : Hp} {d : D} {x : V} (h : Rep c H d x) : ∀ (i : Nat) {ds : List D} {xs : List V}, Reps c H ds xs → Reps c H (ds.set i d) (xs.set i x)
  | _, [], _, t => by
    simp only [Reps] at t
    subst t
    exact .nil
  | 0, _ :: _, _, t => by
    simp only [Reps] at t
    obtain ⟨y, r, rfl, q, t⟩ := t
    exact .cons h t
  | i + 1, _ :: _, _, t => by
    simp only [Reps] at t
    obtain ⟨y, r, rfl, q, t⟩ := t
    exact .cons q (Reps.set h i t)
theorem Reps.ints {c : RC} {H : Hp} : ∀ ns : List Int, Reps c H (ns.map D.int) (ns.map V.int)
  | [] => .nil
  | n :: r => .cons (by simp only [Rep]) (Reps.ints r)

/-! ### the store, the slots -/
/-- the heap may grow: what is in no place of α stands as it was; places are only added, of new objects -/
structure Ext (α α' : List Addr) (H H' : Hp) : Prop where
  pre : ∃ β, α' = α ++ β
  fr : ∀ a o, H a = some o → a ∉ α → H' a = some o
  nw : ∀ a, a ∈ α' → a ∉ α → H a = none
  le : LeH H H'
theorem Ext.refl (α : List Addr) (H : Hp) : Ext α α H H := ⟨⟨[], by simp⟩, fun _ _ h _ => h, fun a h n => absurd h n, LeH.refl H⟩
theorem Ext.trans {α α1 α2 : List Addr} {H H1 H2 : Hp} (a : Ext α α1 H H1) (b : Ext α1 α2 H1 H2) : Ext α α2 H H2 := by
  obtain ⟨⟨β, rfl⟩, f1, n1, l1⟩ := a
  obtain ⟨⟨γ, rfl⟩, f2, n2, l2⟩ := b
  have key : ∀ x o, H x = some o → x ∉ α → x ∉ α ++ β := fun x o h n hm => by
    have := n1 x hm n
    rw [h] at this
    cases this
  refine ⟨⟨β ++ γ, by rw [List.append_assoc]⟩, fun x o h n => f2 x o (f1 x o h n) (key x o h n), fun x hm n => ?_, l1.trans l2⟩
  cases q : H x with
  | none => rfl
  | some o =>
    have h1 := f1 x o q n
    have h2 := n2 x hm (key x o q n)
    rw [h1] at h2
    cases h2
theorem Ext.of_same {α : List Addr} {H H' : Hp} (h : Same H H') : Ext α α H H' := ⟨⟨[], by simp⟩, fun a o e _ => h a o e, fun a h n => absurd h n, fun a => ⟨fun xs e => h _ _ e, fun o u e => h _ _ e⟩⟩

structure RelS (c : RC) (α : List Addr) (H : Hp) (S : Sto) : Prop where
  len : α.length = S.length
  nd : α.Nodup
  tr : ∀ a ∈ α, H a ≠ none
  at_ : ∀ (n : Nat) (ds : List D), S[n]? = some (some ds) → ∃ a xs, α[n]? = some a ∧ H a = some (.lst xs) ∧ Reps c H ds xs
/-- what a slot, an argument stands for -/
def RepA (c : RC) (α : List Addr) (H : Hp) : Val → V → Prop
  | .v d, v => Rep c H d v
  | .l n, v => ∃ a, α[n]? = some a ∧ v = .ref a
  | .n _, _ => False
/-- what an expression's value stands for -/
def RepX (c : RC) (α : List Addr) (H : Hp) : Val → V → Prop
  | .v d, v => Rep c H d v
  | .l n, v => ∃ a, α[n]? = some a ∧ v = .ref a
  | .n ds, v => ∃ a xs, v = .ref a ∧ H a = some (.lst xs) ∧ Reps c H ds xs ∧ a ∉ α
def Fresh (H : Hp) : Val → V → Prop
  | .n _, v => ∀ a, v = .ref a → H a = none
  | _, _ => True
structure RelE (c : RC) (α : List Addr) (H : Hp) (ρ : MEnv) (σ : L2.St) : Prop where
  le : ρ.length ≤ σ.length
  at_ : ∀ (i : Nat) (x : Val), ρ[i]? = some (some x) → ∃ v, σ[i]? = some (some v) ∧ RepA c α H x v

theorem pre_get {α α' : List Addr} {n : Nat} {a : Addr} (p : ∃ β, α' = α ++ β) (h : α[n]? = some a) : α'[n]? = some a := by
  obtain ⟨β, rfl⟩ := p
  rw [List.getElem?_append_left (List.getElem?_eq_some_iff.mp h).1]
  exact h
theorem RepA.mono {c : RC} {α α' : List Addr} {H H' : Hp} (x : Ext α α' H H') {y : Val} {v : V} (h : RepA c α H y v) : RepA c α' H' y v := by
  cases y with
  | v d => exact Rep.mono x.le h
  | l n =>
    obtain ⟨a, e, q⟩ := h
    exact ⟨a, pre_get x.pre e, q⟩
  | n ds => exact h.elim
theorem RepX.mono {c : RC} {α α' : List Addr} {H H' : Hp} (x : Ext α α' H H') {y : Val} {v : V} (h : RepX c α H y v) : RepX c α' H' y v := by
  cases y with
  | v d => exact Rep.mono x.le h
  | l n =>
    obtain ⟨a, e, q⟩ := h
    exact ⟨a, pre_get x.pre e, q⟩
  | n ds =>
    obtain ⟨a, xs, e, ha, r, na⟩ := h
    refine ⟨a, xs, e, x.fr a _ ha na, Reps.mono x.le r, fun hm => ?_⟩
    have := x.nw a hm na
    rw [ha] at this
    cases this
theorem RelE.mono {c : RC} {α α' : List Addr} {H H' : Hp} (x : Ext α α' H H') {ρ : MEnv} {σ : L2.St} (h : RelE c α H ρ σ) : RelE c α' H' ρ σ := ⟨h.le, fun i y e => by
  obtain ⟨v, e1, r⟩ := h.at_ i y e
  exact ⟨v, e1, r.mono x⟩⟩
theorem RepA.X {c : RC} {α : List Addr} {H : Hp} {y : Val} {v : V} (h : RepA c α H y v) : RepX c α H y v := by
  cases y with
  | v d => exact h
  | l n => exact h
  | n ds => exact h.elim
theorem RelS.new {c : RC} {α : List Addr} {H : Hp} {S : Sto} (h : RelS c α H S) {a : Addr} (e : H a = none) : a ∉ α := fun hm => h.tr a hm e
theorem RelS.here {c : RC} {α : List Addr} {H : Hp} {S : Sto} (h : RelS c α H S) : ∀ a ∈ α, ∃ n, α[n]? = some a ∧ n < S.length := fun a hm => by
  obtain ⟨n, hn, e⟩ := List.mem_iff_getElem.mp hm
  exact ⟨n, by rw [List.getElem?_eq_getElem hn, e], by rw [← h.len]; exact hn⟩
/-- new objects beside the store -/
theorem RelS.same {c : RC} {α : List Addr} {H H' : Hp} {S : Sto} (h : RelS c α H S) (s : Same H H') : RelS c α H' S :=
  ⟨h.len, h.nd, fun a hm => by
    cases q : H a with
    | none => exact absurd q (h.tr a hm)
    | some o => rw [s a o q]; simp, fun n ds e => by
    obtain ⟨a, xs, e1, e2, r⟩ := h.at_ n ds e
    exact ⟨a, xs, e1, s _ _ e2, r.mono (fun b => ⟨fun _ q => s _ _ q, fun _ _ q => s _ _ q⟩)⟩⟩
/-- a place is added -/
theorem RelS.push {c : RC} {α : List Addr} {H : Hp} {S : Sto} {a : Addr} {xs : List V} {ds : List D} (h : RelS c α H S) (na : a ∉ α) (ha : H a = some (.lst xs)) (r : Reps c H ds xs) : RelS c (α ++ [a]) H (S ++ [some ds]) := by
  refine ⟨by simp [h.len], ?_, fun b hb => ?_, fun n es e => ?_⟩
  · rw [List.nodup_append]
    exact ⟨h.nd, by simp, fun x hx y hy => by
      simp at hy
      subst hy
      intro q
      subst q
      exact na hx⟩
  · rcases List.mem_append.mp hb with hb | hb
    · exact h.tr b hb
    · simp at hb
      subst hb
      rw [ha]
      simp
  · by_cases hn : n < S.length
    · rw [List.getElem?_append_left hn] at e
      obtain ⟨b, ys, e1, e2, r2⟩ := h.at_ n es e
      exact ⟨b, ys, pre_get ⟨_, rfl⟩ e1, e2, r2⟩
    · have hn2 : n = S.length := by
        have := (List.getElem?_eq_some_iff.mp e).1
        simp at this
        omega
      subst hn2
      simp at e
      subst e
      exact ⟨a, xs, by rw [← h.len]; simp, ha, r⟩
/-- a slot is set -/
theorem RelE.set {c : RC} {α : List Addr} {H : Hp} {ρ : MEnv} {σ : L2.St} (h : RelE c α H ρ σ) {x : Val} {v : V} (r : RepA c α H x v) (i : Nat) : RelE c α H (ρ.set i (some x)) (σ.set i (some v)) := by
  refine ⟨by simpa using h.le, fun j y e => ?_⟩
  by_cases hj : i = j
  · subst hj
    have hi : i < ρ.length := by
      have := (List.getElem?_eq_some_iff.mp e).1
      simpa using this
    rw [List.getElem?_set_self hi] at e
    cases e
    exact ⟨v, List.getElem?_set_self (Nat.lt_of_lt_of_le hi h.le), r⟩
  · rw [List.getElem?_set_ne hj] at e
    obtain ⟨w, e1, r1⟩ := h.at_ j y e
    exact ⟨w, by rw [List.getElem?_set_ne hj]; exact e1, r1⟩
/-- a slot is emptied -/
theorem RelE.unset {c : RC} {α : List Addr} {H : Hp} {ρ : MEnv} {σ : L2.St} (h : RelE c α H ρ σ) (i : Nat) : RelE c α H (ρ.set i none) (σ.set i none) := by
  refine ⟨by simpa using h.le, fun j y e => ?_⟩
  by_cases hj : i = j
  · subst hj
    have hi : i < ρ.length := by
      have := (List.getElem?_eq_some_iff.mp e).1
      simpa using this
    rw [List.getElem?_set_self hi] at e
    cases e
  · rw [List.getElem?_set_ne hj] at e
    obtain ⟨w, e1, r1⟩ := h.at_ j y e
    exact ⟨w, by rw [List.getElem?_set_ne hj]; exact e1, r1⟩
def wipeM (ρ : MEnv) : List Nat → MEnv
  | [] => ρ
  | v :: vs => (wipeM ρ vs).set v none
theorem RelE.wipe {c : RC} {α : List Addr} {H : Hp} {ρ : MEnv} {σ : L2.St} (h : RelE c α H ρ σ) : ∀ vs : List Nat, RelE c α H (wipeM ρ vs) (L2.wipe σ vs)
  | [] => h
  | v :: vs => by
    have := RelE.wipe h vs
    exact this.unset v
theorem wipe_set {σ : L2.St} {i : Nat} {x : Option V} : ∀ {vs : List Nat}, i ∈ vs → L2.wipe ((L2.wipe σ vs).set i x) vs = L2.wipe σ vs := by
  -- pointwise: both are none at vs, and equal elsewhere
  have get : ∀ (τ : L2.St) (vs : List Nat) (j : Nat), (L2.wipe τ vs)[j]? = if j ∈ vs then (τ[j]?).map (fun _ => none) else τ[j]? := by
    intro τ vs
    induction vs with
    | nil => intro j; simp [L2.wipe]
    | cons v vs ih =>
      intro j
      unfold L2.wipe
      by_cases hj : v = j
      · subst hj
        rw [List.getElem?_set, if_pos rfl, if_pos List.mem_cons_self, L2.wipe_length]
        by_cases hl : v < τ.length
        · rw [if_pos hl, List.getElem?_eq_getElem hl]
          rfl
        · rw [if_neg hl, List.getElem?_eq_none (by omega)]
          rfl
      · rw [List.getElem?_set_ne hj, ih j]
        by_cases hm : j ∈ vs
        · rw [if_pos hm, if_pos (List.mem_cons_of_mem _ hm)]
        · rw [if_neg hm, if_neg (by
            intro z
            rcases List.mem_cons.mp z with z | z
            · exact hj z.symm
            · exact hm z)]
  intro vs hi
  apply List.ext_getElem?
  intro j
  rw [get, get]
  by_cases hm : j ∈ vs
  · rw [if_pos hm, if_pos hm]
    by_cases hij : i = j
    · subst hij
      rw [List.getElem?_set, if_pos rfl, L2.wipe_length]
      by_cases hl : i < σ.length
      · rw [if_pos hl, List.getElem?_eq_getElem hl]
        rfl
      · rw [if_neg hl, List.getElem?_eq_none (by omega)]
    · rw [List.getElem?_set_ne hij, get, if_pos hm]
      cases σ[j]? <;> rfl
  · rw [if_neg hm, if_neg hm]
    have hij : i ≠ j := fun e => hm (e ▸ hi)
    rw [List.getElem?_set_ne hij, get, if_neg hm]

/-! ### results -/
def wpR {α : Type} (r : R α) (ok : α → Sto → Prop) (er : Exc → Sto → Prop) : Prop := match r with
  | .ok a S => ok a S
  | .er e S => er e S
  | .bad => False
theorem wpR_bind {α β : Type} {r : R α} {f : α → Sto → R β} {ok : β → Sto → Prop} {er : Exc → Sto → Prop} (h : wpR (r.bind f) ok er) : wpR r (fun a S => wpR (f a S) ok er) er := by
  cases r <;> exact h
theorem wpR_mono {α : Type} {r : R α} {ok ok' : α → Sto → Prop} {er er' : Exc → Sto → Prop} (h : wpR r ok er) (h1 : ∀ a S, ok a S → ok' a S) (h2 : ∀ e S, er e S → er' e S) : wpR r ok' er' := by
  cases r with
  | ok a S => exact h1 a S h
  | er e S => exact h2 e S h
  | bad => exact h.elim
end M

namespace M
open PySem PySem.Spec PyProof.Rows L2

theorem nodup_at {α : List Addr} {i j : Nat} {a : Addr} (h : α.Nodup) (h1 : α[i]? = some a) (h2 : α[j]? = some a) : i = j := by
  obtain ⟨hi, e1⟩ := List.getElem?_eq_some_iff.mp h1
  obtain ⟨hj, e2⟩ := List.getElem?_eq_some_iff.mp h2
  exact (List.getElem_inj (h₀ := hi) (h₁ := hj) h).mp (e1.trans e2.symm)
abbrev rc (X : Cx) : RC := ⟨X.K, X.mg⟩
/-- what an exception is, over the heap -/
def ExcRep (c : RC) (H : Hp) (e : Exc) (cls : Value) (od : Option Addr) : Prop :=
  ∃ C, c.mg e.cls = some (.ref C) ∧ cls = .ref C ∧ (match e.fld with
    | none => od = none
    | some (f, i) => ∃ d, od = some d ∧ H d = some (.xd [(f, V.int i)]))
/-- what is wanted of an exception, at the slots σ -/
def okE (c : RC) (W : WX) (σ : L2.St) (α : List Addr) (H : Hp) : Exc → Sto → Prop := fun e S =>
  ∀ cls od H' α', Ext α α' H H' → RelS c α' H' S → ExcRep c H' e cls od → W cls od σ H'
theorem okE.mono {c : RC} {W : WX} {σ : L2.St} {α α' : List Addr} {H H' : Hp} (x : Ext α α' H H') {e : Exc} {S : Sto} (h : okE c W σ α H e S) : okE c W σ α' H' e S :=
  fun cls od H2 α2 x2 s2 r2 => h cls od H2 α2 (x.trans x2) s2 r2
def okV (c : RC) (Q : VK) (α : List Addr) (H : Hp) : Val → Sto → Prop := fun x S =>
  ∀ v H' α', Ext α α' H H' → RelS c α' H' S → RepX c α' H' x v → Fresh H x v → Q v H'
theorem okV.mono {c : RC} {Q : VK} {α α' : List Addr} {H H' : Hp} (x : Ext α α' H H') {y : Val} {S : Sto} (h : okV c Q α H y S) : okV c Q α' H' y S := fun v H2 α2 x2 s2 r2 f2 => by
  refine h v H2 α2 (x.trans x2) s2 r2 ?_
  cases y with
  | v d => trivial
  | l n => trivial
  | n ds =>
    intro a e
    cases q : H a with
    | none => rfl
    | some o =>
      have h1 : H' a = none := f2 a e
      by_cases ha : a ∈ α
      · obtain ⟨b, xs, e1, _, _, nb⟩ := r2
        rw [e] at e1
        cases e1
        obtain ⟨β, rfl⟩ := x.pre
        obtain ⟨γ, rfl⟩ := x2.pre
        exact absurd (List.mem_append_left _ (List.mem_append_left _ ha)) nb
      · rw [x.fr a o q ha] at h1
        cases h1

def tV (c : RC) (W : WX) (f : VM) : TE := fun σ H Q => ∃ α ρ S, RelE c α H ρ σ ∧ RelS c α H S ∧ wpR (f ρ S) (okV c Q α H) (okE c W σ α H)
def tT (c : RC) (W : WX) (f : TM) : TT := fun σ H Q => ∃ α ρ S, RelE c α H ρ σ ∧ RelS c α H S ∧ wpR (f ρ S) (fun b S' => ∀ H' α', Ext α α' H H' → RelS c α' H' S' → Q b H') (okE c W σ α H)
/-- arguments: no new lists -/
inductive RepAs (c : RC) (α : List Addr) (H : Hp) : List Val → List V → Prop where
  | nil : RepAs c α H [] []
  | cons {x : Val} {v : V} {xs : List Val} {vs : List V} : RepA c α H x v → RepAs c α H xs vs → RepAs c α H (x :: xs) (v :: vs)
theorem RepAs.mono {c : RC} {α α' : List Addr} {H H' : Hp} (x : Ext α α' H H') : ∀ {xs : List Val} {vs : List V}, RepAs c α H xs vs → RepAs c α' H' xs vs
  | _, _, .nil => .nil
  | _, _, .cons h t => .cons (h.mono x) (RepAs.mono x t)
theorem RepAs.length {c : RC} {α : List Addr} {H : Hp} : ∀ {xs : List Val} {vs : List V}, RepAs c α H xs vs → xs.length = vs.length
  | _, _, .nil => rfl
  | _, _, .cons _ t => by simp [RepAs.length t]
theorem RepAs.get {c : RC} {α : List Addr} {H : Hp} : ∀ {xs : List Val} {vs : List V} {i : Nat} {x : Val}, RepAs c α H xs vs → xs[i]? = some x → ∃ v, vs[i]? = some v ∧ RepA c α H x v
  | _, _, i, _, .nil, e => by simp at e
  | _, _, 0, _, .cons h _, e => by simp at e; subst e; exact ⟨_, rfl, h⟩
  | _, _, i + 1, _, .cons _ t, e => by
    obtain ⟨v, e1, r⟩ := RepAs.get (i := i) t (by simpa using e)
    exact ⟨v, by simpa using e1, r⟩
def tA (c : RC) (W : WX) (f : AM) : TA := fun σ H Q => ∃ α ρ S, RelE c α H ρ σ ∧ RelS c α H S ∧ wpR (f ρ S) (fun xs S' => ∀ vs H' α', Ext α α' H H' → RelS c α' H' S' → RepAs c α' H' xs vs → Q vs H') (okE c W σ α H)

/-! ### the judgements -/
def SV (X : Cx) (W : WX) (e : Expr) (f : VM) : Prop := PE X e (tV (rc X) W f)
def ST (X : Cx) (W : WX) (e : Expr) (f : TM) : Prop := PT X e (tT (rc X) W f)
def SW (X : Cx) (W : WX) (e : Expr) (f : TM) : Prop := PW X e (tT (rc X) W f)
def SA (X : Cx) (W : WX) (es : List Expr) (f : AM) : Prop := PA X es (tA (rc X) W f)

section
variable {X : Cx} {W : WX} {e : Expr} {es : List Expr}
theorem PE.imp {t t' : TE} (h : PE X e t) (i : ∀ σ H Q, t' σ H Q → t σ H Q) : PE X e t' := ⟨fun pins s σ H Q I q => h.run pins s σ H Q I (i σ H Q q)⟩
theorem PT.imp {t t' : TT} (h : PT X e t) (i : ∀ σ H Q, t' σ H Q → t σ H Q) : PT X e t' := ⟨fun pins s σ H Q I q => h.run pins s σ H Q I (i σ H Q q)⟩
theorem PW.imp {t t' : TT} (h : PW X e t) (i : ∀ σ H Q, t' σ H Q → t σ H Q) : PW X e t' := ⟨fun wh pins s σ H Q I q => h.run wh pins s σ H Q I (i σ H Q q)⟩
theorem PA.imp {t t' : TA} (h : PA X es t) (i : ∀ σ H Q, t' σ H Q → t σ H Q) : PA X es t' := ⟨fun pos pins s σ H Q I q => h.run pos pins s σ H Q I (i σ H Q q)⟩

/-! ### a list is known from now on never to change -/
theorem HOk.freeze {P : Program} {w : World} {H : Hp} {h : Heap} {a : Addr} {xs : List V} (ok : HOk P w H h) (e : H a = some (.lst xs)) : ∃ o, HOk P w (upd H a (.frz o (.lst xs))) h := by
  obtain ⟨z, its, n, r, g⟩ := ok a _ e
  refine ⟨{ cls := .type "list", data := .seq its.toArray n }, fun b u q => ?_⟩
  by_cases hb : b = a
  · subst hb
    rw [upd_same] at q
    cases q
    exact ⟨g, z, its, n, r, g⟩
  · rw [upd_ne hb] at q
    refine (ok b u q).stay (fun _ _ _ q => q) (fun c q => ?_) fun c ys q => ?_
    · rw [upd_ne (fun z => by rw [z, e] at q; cases q)]
      exact q
    · rw [upd_ne (fun z => by rw [z, e] at q; cases q)]
      exact q
theorem Inv.freeze {pins : List (Addr × Obj)} {σ : L2.St} {H : Hp} {s : Shared} {a : Addr} {xs : List V} (I : Inv X pins σ H s) (e : H a = some (.lst xs)) : ∃ o, Inv X pins σ (upd H a (.frz o (.lst xs))) s := by
  obtain ⟨o, ok⟩ := HOk.freeze I.hok e
  have ne : ∀ b, H b = none → b ≠ a := fun b n z => by rw [z, e] at n; cases n
  have ne2 : ∀ b u, H b = some u → (∀ ys, u ≠ .lst ys) → b ≠ a := fun b u q h z => by rw [z, e] at q; cases q; exact h _ rfl
  refine ⟨o, I.un (t' := s.toks) (h' := s.heap) ⟨fun b u q _ _ _ => q, fun b u q _ _ _ => ⟨u.slots, q⟩, fun b u q n _ => by rw [upd_ne (ne b n)]; exact n, fun b u q _ => ⟨u, q⟩,
    fun b ys q => by rw [upd_ne (ne2 b _ q (fun _ => nofun))]; exact q, fun b u ys q => by rw [upd_ne (ne2 b _ q (fun _ => nofun))]; exact q, fun b ps q => ⟨#[], by rw [upd_ne (ne2 b _ q (fun _ => nofun)), q]; simp⟩⟩ ok⟩
theorem PE.freeze {t t' : TE} (h : PE X e t) (i : ∀ σ H Q, t' σ H Q → t σ H (fun v H1 => Q v H1 ∨ ∃ a xs, H1 a = some (.lst xs) ∧ ∀ o, Q v (upd H1 a (.frz o (.lst xs))))) : PE X e t' := by
  refine ⟨fun pins s σ H Q I q => thn (h.run pins s σ H _ I (i σ H Q q)) fun u s' ⟨v, H', I', r, q'⟩ => ?_⟩
  rcases q' with q' | ⟨a, xs, ea, q'⟩
  · exact ⟨v, H', I', r, q'⟩
  · obtain ⟨o, I2⟩ := Inv.freeze I' ea
    exact ⟨v, _, I2, r, q' o⟩

/-- a new list is frozen; else as it is -/
def mFz (f : VM) : VM := fun ρ S => (f ρ S).bind fun x S => match x with
  | .n ds => .ok (.v (.lst ds)) S
  | x => .ok x S
theorem LeH.frz {H : Hp} {a : Addr} {xs : List V} {o : Obj} (e : H a = some (.lst xs)) : LeH H (upd H a (.frz o (.lst xs))) := fun b => ⟨fun ys q => by rw [upd_ne (fun z => by rw [z, e] at q; cases q)]; exact q, fun u w q => by rw [upd_ne (fun z => by rw [z, e] at q; cases q)]; exact q⟩
theorem RelS.frz {c : RC} {α : List Addr} {H : Hp} {S : Sto} {a : Addr} {xs : List V} {o : Obj} (h : RelS c α H S) (e : H a = some (.lst xs)) (na : a ∉ α) : RelS c α (upd H a (.frz o (.lst xs))) S := by
  refine ⟨h.len, h.nd, fun b hb => ?_, fun n ds q => ?_⟩
  · have hba : b ≠ a := fun z => na (z ▸ hb)
    rw [upd_ne hba]
    exact h.tr b hb
  · obtain ⟨b, ys, e1, e2, r⟩ := h.at_ n ds q
    have hb : b ≠ a := fun z => na (z ▸ List.mem_of_getElem? e1)
    exact ⟨b, ys, e1, by rw [upd_ne hb]; exact e2, r.mono (LeH.frz e)⟩
theorem sv_fz {f : VM} (h : SV X W e f) : SV X W e (mFz f) := by
  refine PE.freeze h fun σ H Q ⟨α, ρ, S, hE, hS, q⟩ => ⟨α, ρ, S, hE, hS, ?_⟩
  refine wpR_mono (wpR_bind q) (fun x S1 h1 v H1 α1 x1 s1 r1 f1 => ?_) fun _ _ z => z
  cases x with
  | v d => exact .inl (h1 v H1 α1 x1 s1 r1 trivial)
  | l n => exact .inl (h1 v H1 α1 x1 s1 r1 trivial)
  | n ds =>
    obtain ⟨a, xs, rfl, ea, r, na⟩ := r1
    have fa : H a = none := f1 a rfl
    refine .inr ⟨a, xs, ea, fun o => h1 _ _ α1 ⟨x1.pre, fun b u q nb => ?_, x1.nw, x1.le.trans (LeH.frz ea)⟩ (s1.frz ea na) ?_ trivial⟩
    · rw [upd_ne (fun z => by rw [z, fa] at q; cases q)]
      exact x1.fr b u q nb
    · show Rep (rc X) _ (.lst ds) _
      simp only [Rep]
      exact ⟨a, xs, rfl, ⟨o, upd_same⟩, r.mono (LeH.frz ea)⟩
/-- a new list gets a place -/
def mAl (f : VM) : VM := fun ρ S => (f ρ S).bind fun x S => match x with
  | .n ds => .ok (.l S.length) (S ++ [some ds])
  | x => .ok x S
theorem sv_al {f : VM} (h : SV X W e f) : SV X W e (mAl f) := by
  refine PE.imp h fun σ H Q ⟨α, ρ, S, hE, hS, q⟩ => ⟨α, ρ, S, hE, hS, ?_⟩
  refine wpR_mono (wpR_bind q) (fun x S1 h1 v H1 α1 x1 s1 r1 f1 => ?_) fun _ _ z => z
  cases x with
  | v d => exact h1 v H1 α1 x1 s1 r1 trivial
  | l n => exact h1 v H1 α1 x1 s1 r1 trivial
  | n ds =>
    obtain ⟨a, xs, rfl, ea, r, na⟩ := r1
    have fa : H a = none := f1 a rfl
    refine h1 _ _ (α1 ++ [a]) ⟨?_, x1.fr, fun b hb nb => ?_, x1.le⟩ (s1.push na ea r) ?_ trivial
    · obtain ⟨β, rfl⟩ := x1.pre
      exact ⟨β ++ [a], by rw [List.append_assoc]⟩
    · rcases List.mem_append.mp hb with hb | hb
      · exact x1.nw b hb nb
      · simp at hb
        subst hb
        exact fa
    · exact ⟨a, by rw [← s1.len]; simp, rfl⟩
/-- data: a new list is frozen, one at a place is taken from there and frozen -/
def mDv (f : VM) : VM := fun ρ S => (f ρ S).bind fun x S => match x with
  | .n ds => .ok (.v (.lst ds)) S
  | .l n => (match S[n]? with
    | some (some ds) => .ok (.v (.lst ds)) (S.set n none)
    | _ => .bad)
  | .v d => .ok (.v d) S
theorem sv_dv {f : VM} (h : SV X W e f) : SV X W e (mDv f) := by
  refine PE.freeze (sv_fz h) fun σ H Q ⟨α, ρ, S, hE, hS, q⟩ => ⟨α, ρ, S, hE, hS, ?_⟩
  have q1 := wpR_bind q
  unfold mFz
  cases hf : f ρ S with
  | bad => rw [hf] at q1; exact q1
  | er e S1 => rw [hf] at q1; exact q1
  | ok x S1 =>
    rw [hf] at q1
    cases x with
    | v d => exact fun v H1 α1 x1 s1 r1 f1 => .inl (q1 v H1 α1 x1 s1 r1 trivial)
    | n ds => exact fun v H1 α1 x1 s1 r1 f1 => .inl (q1 v H1 α1 x1 s1 r1 trivial)
    | l n =>
      intro v H1 α1 x1 s1 r1 f1
      obtain ⟨a, e1, rfl⟩ := r1
      cases hn : S1[n]? with
      | none =>
        have q2 : wpR (match S1[n]? with
          | some (some ds) => R.ok (Val.v (.lst ds)) (S1.set n none)
          | _ => .bad) (okV (rc X) Q α H) (okE (rc X) W σ α H) := q1
        rw [hn] at q2
        exact q2.elim
      | some od =>
        have q2 : wpR (match S1[n]? with
          | some (some ds) => R.ok (Val.v (.lst ds)) (S1.set n none)
          | _ => .bad) (okV (rc X) Q α H) (okE (rc X) W σ α H) := q1
        rw [hn] at q2
        cases od with
        | none => exact q2.elim
        | some ds =>
          obtain ⟨b, xs, e2, ea, r⟩ := s1.at_ n ds hn
          rw [e1] at e2
          cases e2
          refine .inr ⟨a, xs, ea, fun o => q2 _ _ α1 ⟨x1.pre, fun b u q nb => ?_, x1.nw, ?_⟩ ⟨by simp [s1.len], s1.nd, fun b hb => ?_, fun m es e3 => ?_⟩ ?_ trivial⟩
          · by_cases hb : b = a
            · subst hb
              have := x1.nw b (List.mem_of_getElem? e1) nb
              rw [q] at this
              cases this
            · rw [upd_ne hb]
              exact x1.fr b u q nb
          · exact x1.le.trans (LeH.frz ea)
          · by_cases hb' : b = a
            · subst hb'
              rw [upd_same]
              simp
            · rw [upd_ne hb']
              exact s1.tr b hb
          · by_cases hm : n = m
            · subst hm
              rw [List.getElem?_set_self (List.getElem?_eq_some_iff.mp hn).1] at e3
              cases e3
            · rw [List.getElem?_set_ne hm] at e3
              obtain ⟨b, ys, e4, e5, r4⟩ := s1.at_ m es e3
              refine ⟨b, ys, e4, ?_, r4.mono (LeH.frz ea)⟩
              have hb : b ≠ a := fun z => by
                subst z
                exact hm (nodup_at s1.nd e1 e4)
              rw [upd_ne hb]
              exact e5
          · show Rep (rc X) _ (.lst ds) _
            simp only [Rep]
            exact ⟨a, xs, rfl, ⟨o, upd_same⟩, r.mono (LeH.frz ea)⟩

/-! ### names, constants -/
def mV (i : Nat) : VM := fun ρ S => match ρ[i]? with
  | some (some x) => .ok x S
  | _ => .bad
theorem sv_var {i : Nat} (h : PE X e (tVar i)) : SV X W e (mV i) := by
  refine PE.imp h fun σ H Q ⟨α, ρ, S, hE, hS, q⟩ => ?_
  unfold mV at q
  cases hi : ρ[i]? with
  | none => rw [hi] at q; exact q.elim
  | some o =>
    rw [hi] at q
    cases o with
    | none => exact q.elim
    | some x =>
      obtain ⟨v, e1, r⟩ := hE.at_ i x hi
      refine ⟨v, e1, q v H α (.refl _ _) hS r.X ?_⟩
      cases x with
      | n ds => exact r.elim
      | v d => trivial
      | l n => trivial
def mC (d : D) : VM := fun _ S => .ok (.v d) S
theorem sv_const {v : V} {d : D} (h : PE X e (tC v)) (r : ∀ H, Rep (rc X) H d v) : SV X W e (mC d) := by
  refine PE.imp h fun σ H Q ⟨α, ρ, S, hE, hS, q⟩ => ?_
  exact q v H α (.refl _ _) hS (r H) trivial
theorem sv_int {i : Int} (h : PE X e (tC (.int i))) : SV X W e (mC (.int i)) := sv_const h fun _ => by simp only [Rep]
theorem sv_str {x : PySem.Str} (h : PE X e (tC (.str x))) : SV X W e (mC (.str x)) := sv_const h fun _ => by simp only [Rep]
theorem sv_bl {b : Bool} (h : PE X e (tC (.bl b))) : SV X W e (mC (.bl b)) := sv_const h fun _ => by simp only [Rep]
theorem sv_non (h : PE X e (tC .non)) : SV X W e (mC .non) := sv_const h fun _ => by simp only [Rep]
/-- a def's name as a value -/
theorem sv_fn {x : PySem.Str} {a : Addr} (h : PE X e (tC (.ref a))) (hm : X.mg x = some (.ref a)) : SV X W e (mC (.fn x)) := sv_const h fun _ => by
  simp only [Rep]
  exact ⟨a, hm, rfl⟩

/-! ### argument lists -/
def mNil : AM := fun _ S => .ok [] S
def mCons (f : VM) (g : AM) : AM := fun ρ S => (f ρ S).bind fun x S1 => match x with
  | .n _ => .bad
  | x => (g ρ S1).bind fun xs S2 => .ok (x :: xs) S2
theorem sa_nil : SA X W [] mNil := by
  refine PA.imp pa_nil fun σ H Q ⟨α, ρ, S, hE, hS, q⟩ => ?_
  exact q [] H α (.refl _ _) hS .nil
theorem RepX.A {c : RC} {α : List Addr} {H : Hp} {x : Val} {v : V} (r : RepX c α H x v) (h : ∀ ds, x ≠ .n ds) : RepA c α H x v := by
  cases x with
  | v d => exact r
  | l n => exact r
  | n ds => exact absurd rfl (h ds)
theorem sa_cons {f : VM} {g : AM} (h : SV X W e f) (t : SA X W es g) (hs : starEach (e :: es) X.env = (false, eval e X.env) :: starEach es X.env := by rfl) : SA X W (e :: es) (mCons f g) := by
  refine PA.imp (pa_cons h t hs) fun σ H Q ⟨α, ρ, S, hE, hS, q⟩ => ⟨α, ρ, S, hE, hS, ?_⟩
  refine wpR_mono (wpR_bind q) (fun x S1 h1 v H1 α1 x1 s1 r1 f1 => ?_) fun _ _ z => z
  have go : (∀ ds, x ≠ .n ds) → wpR ((g ρ S1).bind fun xs S2 => .ok (x :: xs) S2) (fun xs S' => ∀ vs H' α', Ext α α' H H' → RelS (rc X) α' H' S' → RepAs (rc X) α' H' xs vs → Q vs H') (okE (rc X) W σ α H) →
      tA (rc X) W g σ H1 (fun xs H2 => Q (v :: xs) H2) := fun hx h2 => by
    refine ⟨α1, ρ, S1, hE.mono x1, s1, ?_⟩
    refine wpR_mono (wpR_bind h2) (fun xs S2 h3 vs H2 α2 x2 s2 r2 => ?_) fun _ _ z => z.mono x1
    exact h3 (v :: vs) H2 α2 (x1.trans x2) s2 (.cons ((r1.A hx).mono x2) r2)
  cases x with
  | v d => exact go (fun _ => nofun) h1
  | l n => exact go (fun _ => nofun) h1
  | n ds => exact h1.elim
end
end M

namespace M
open PySem PySem.Spec PyProof.Rows L2

/-- the longest list, text -/
def lim : Nat := 16777216
theorem lim_eq : sizeLine = lim := by rw [sizeLine_eq]; rfl

/-- what is read of a value now -/
def pk (S : Sto) : Val → Option D
  | .v d => some d
  | .l n => (match S[n]? with
    | some (some ds) => some (.lst ds)
    | _ => none)
  | .n ds => some (.lst ds)
def RepP (c : RC) (H : Hp) : D → V → Prop
  | .lst ds, v => ∃ a xs, v = .ref a ∧ Rd H a (.lst xs) ∧ Reps c H ds xs
  | d, v => Rep c H d v
theorem Rep.P {c : RC} {H : Hp} {d : D} {v : V} (r : Rep c H d v) : RepP c H d v := by
  cases d with
  | lst ds =>
    simp only [Rep] at r
    obtain ⟨a, xs, e, q, r⟩ := r
    exact ⟨a, xs, e, q.rd, r⟩
  | _ => exact r
theorem pk_rep {c : RC} {α : List Addr} {H : Hp} {S : Sto} {x : Val} {v : V} {d : D} (s : RelS c α H S) (r : RepX c α H x v) (h : pk S x = some d) : RepP c H d v := by
  cases x with
  | v d' =>
    cases h
    exact Rep.P r
  | n ds =>
    cases h
    obtain ⟨a, xs, e, ea, r, _⟩ := r
    exact ⟨a, xs, e, .inl ea, r⟩
  | l n =>
    obtain ⟨a, e1, rfl⟩ := r
    unfold pk at h
    dsimp only at h
    cases hn : S[n]? with
    | none => rw [hn] at h; cases h
    | some o =>
      cases o with
      | none => rw [hn] at h; cases h
      | some ds =>
        rw [hn] at h
        cases h
        obtain ⟨b, xs, e2, ea, r⟩ := s.at_ n ds hn
        rw [e1] at e2
        cases e2
        exact ⟨a, xs, rfl, .inl ea, r⟩
theorem RepP.seqL {c : RC} {H : Hp} {ds : List D} {v : V} (r : RepP c H (.lst ds) v) : ∃ a xs, v = .ref a ∧ SqL c.K H a xs ∧ Reps c H ds xs := by
  obtain ⟨a, xs, e, q, r⟩ := r
  exact ⟨a, xs, e, .inl q, r⟩
theorem RepP.tup {c : RC} {H : Hp} {ds : List D} {v : V} (r : RepP c H (.tup ds) v) : ∃ a xs, v = .ref a ∧ SqT c.K H a xs ∧ Reps c H ds xs := by
  have r' : Rep c H (.tup ds) v := r
  simp only [Rep] at r'
  exact r'
theorem RepP.int {c : RC} {H : Hp} {i : Int} {v : V} (r : RepP c H (.int i) v) : v = .int i := by
  have r' : Rep c H (.int i) v := r
  simp only [Rep] at r'
  exact r'
theorem RepP.str {c : RC} {H : Hp} {i : PySem.Str} {v : V} (r : RepP c H (.str i) v) : v = .str i := by
  have r' : Rep c H (.str i) v := r
  simp only [Rep] at r'
  exact r'
theorem RepP.bl {c : RC} {H : Hp} {i : Bool} {v : V} (r : RepP c H (.bl i) v) : v = .bl i := by
  have r' : Rep c H (.bl i) v := r
  simp only [Rep] at r'
  exact r'
theorem RepP.non {c : RC} {H : Hp} {v : V} (r : RepP c H .non v) : v = .non := by
  have r' : Rep c H .non v := r
  simp only [Rep] at r'
  exact r'
/-- what an operation's value stands for -/
def RepZ (c : RC) (H : Hp) : Val → V → Prop
  | .v d, v => Rep c H d v
  | .n ds, v => ∃ a xs, v = .ref a ∧ H a = some (.lst xs) ∧ Reps c H ds xs
  | .l _, _ => False
/-- what follows an operation's value -/
def okZ (c : RC) (Q : VK) (H : Hp) (z : Val) : Prop := ∀ v H', Same H H' → RepZ c H' z v → Fresh H z v → Q v H'
theorem RepZ.X {c : RC} {α : List Addr} {H H' : Hp} {S : Sto} {z : Val} {v : V} (s : RelS c α H S) (h : RepZ c H' z v) (f : Fresh H z v) : RepX c α H' z v := by
  cases z with
  | v d => exact h
  | l n => exact h.elim
  | n ds =>
    obtain ⟨a, xs, e, ea, r⟩ := h
    exact ⟨a, xs, e, ea, r, s.new (f a e)⟩
theorem okV.Z {c : RC} {Q : VK} {α : List Addr} {H : Hp} {S : Sto} {z : Val} (h : okV c Q α H z S) (s : RelS c α H S) : okZ c Q H z := fun v H' sm r f =>
  h v H' α (.of_same sm) (s.same sm) (r.X s f) f
theorem okZ.int {c : RC} {Q : VK} {H : Hp} {i : Int} (h : okZ c Q H (.v (.int i))) : Q (.int i) H := h _ _ (Same.refl _) (by simp only [RepZ, Rep]) trivial
theorem okZ.bl {c : RC} {Q : VK} {H : Hp} {i : Bool} (h : okZ c Q H (.v (.bl i))) : Q (.bl i) H := h _ _ (Same.refl _) (by simp only [RepZ, Rep]) trivial
theorem okZ.str {c : RC} {Q : VK} {H : Hp} {i : PySem.Str} (h : okZ c Q H (.v (.str i))) : Q (.str i) H := h _ _ (Same.refl _) (by simp only [RepZ, Rep]) trivial
theorem okZ.non {c : RC} {Q : VK} {H : Hp} (h : okZ c Q H (.v .non)) : Q .non H := h _ _ (Same.refl _) (by simp only [RepZ, Rep]) trivial
/-- a value that stands already -/
theorem okZ.old {c : RC} {Q : VK} {H : Hp} {d : D} {v : V} (h : okZ c Q H (.v d)) (r : Rep c H d v) : Q v H := h _ _ (Same.refl _) r trivial
theorem same_upd {H : Hp} {p : Addr} {o : HO} (h : H p = none) : Same H (upd H p o) := fun b x e => by
  rw [upd_ne (ne_of_none e h)]
  exact e
theorem LeH.same {H H' : Hp} (s : Same H H') : LeH H H' := fun b => ⟨fun _ q => s _ _ q, fun _ _ q => s _ _ q⟩
theorem okZ.new {c : RC} {Q : VK} {H : Hp} {ds : List D} {xs : List V} (h : okZ c Q H (.n ds)) (r : Reps c H ds xs) : ∀ p, H p = none → Q (.ref p) (upd H p (.lst xs)) := fun p hp =>
  h _ _ (same_upd hp) ⟨p, xs, rfl, upd_same, r.mono (LeH.same (same_upd hp))⟩ fun a e => by
    cases e
    exact hp
theorem okZ.newT {c : RC} {Q : VK} {H : Hp} {ds : List D} {xs : List V} (h : okZ c Q H (.v (.tup ds))) (r : Reps c H ds xs) : ∀ p, H p = none → Q (.ref p) (upd H p (.tup xs)) := fun p hp =>
  h _ _ (same_upd hp) (by
    show Rep c _ (.tup ds) _
    simp only [Rep]
    exact ⟨p, xs, rfl, .inl (.inl upd_same), r.mono (LeH.same (same_upd hp))⟩) trivial

/-- an operation of two values: r is what HandS asks -/
def OpG (X : Cx) (r : R2) (g : D → D → Option Val) : Prop := ∀ (H : Hp) (p q : D) (x y : V) (z : Val) (Q : VK), RepP (rc X) H p x → RepP (rc X) H q y → g p q = some z → okZ (rc X) Q H z → r x y H Q
def ap2 (g : D → D → Option Val) (S : Sto) (x y : Val) : R Val := match pk S x, pk S y with
  | some p, some q => (match g p q with
    | some z => .ok z S
    | none => .bad)
  | _, _ => .bad
def mOp (g : D → D → Option Val) (fa fb : VM) : VM := fun ρ S => (fa ρ S).bind fun x S1 => (fb ρ S1).bind fun y S2 => ap2 g S2 x y
section
variable {X : Cx} {W : WX} {a b c' e : Expr} {pos : Pos}
/-- the heart: after both values have come -/
theorem ap2_ok {r : R2} {g : D → D → Option Val} (hg : OpG X r g) {α : List Addr} {H : Hp} {S : Sto} {x y : Val} {v w : V} {Q : VK} {er : Exc → Sto → Prop} (s : RelS (rc X) α H S) (rx : RepX (rc X) α H x v) (ry : RepX (rc X) α H y w)
    (h : wpR (ap2 g S x y) (okV (rc X) Q α H) er) : r v w H Q := by
  unfold ap2 at h
  cases hp : pk S x with
  | none => rw [hp] at h; exact h.elim
  | some p =>
    cases hq : pk S y with
    | none => rw [hp, hq] at h; exact h.elim
    | some q =>
      rw [hp, hq] at h
      dsimp only at h
      cases hz : g p q with
      | none => rw [hz] at h; exact h.elim
      | some z =>
        rw [hz] at h
        exact hg H p q v w z Q (pk_rep s rx hp) (pk_rep s ry hq) hz (okV.Z h s)
theorem two {r : R2} {g : D → D → Option Val} (hg : OpG X r g) {fa fb : VM} {σ : L2.St} {H : Hp} {Q : VK} (h : tV (rc X) W (mOp g fa fb) σ H Q) : tOp r (tV (rc X) W fa) (tV (rc X) W fb) σ H Q := by
  obtain ⟨α, ρ, S, hE, hS, q⟩ := h
  refine ⟨α, ρ, S, hE, hS, ?_⟩
  refine wpR_mono (wpR_bind q) (fun x S1 h1 v H1 α1 x1 s1 r1 f1 => ?_) fun _ _ z => z
  refine ⟨α1, ρ, S1, hE.mono x1, s1, ?_⟩
  refine wpR_mono (wpR_bind h1) (fun y S2 h2 w H2 α2 x2 s2 r2 f2 => ?_) fun _ _ z => z.mono x1
  exact ap2_ok hg s2 (r1.mono x2) r2 (wpR_mono h2 (fun z S' k => k.mono (x1.trans x2)) fun _ _ z => z)
theorem sv_bin {op : Operator} {r : R2} {g : D → D → Option Val} {fa fb : VM} (ho : OpR X (binaryOp op) r) (hg : OpG X r g) (ha : SV X W a fa) (hb : SV X W b fb) : SV X W (.BinOp a op b pos) (mOp g fa fb) :=
  PE.imp (pe_op ho ha hb) fun σ H Q h => two hg h
theorem sv_cmp {op : CmpOp} {r : R2} {g : D → D → Option Val} {fa fb : VM} (ho : OpR X (compareOp op) r) (hg : OpG X r g) (ha : SV X W a fa) (hb : SV X W b fb) (hm : behindInMarks op b = false) : SV X W (.Compare a [op] [b] pos) (mOp g fa fb) :=
  PE.imp (pe_cmpR ho ha hb hm) fun σ H Q h => two hg h
/-- a comparison as a test -/
def asB (r : R Val) : R Bool := r.bind fun x S => match x with
  | .v (.bl b) => .ok b S
  | _ => .bad
def mTB (f : VM) : TM := fun ρ S => asB (f ρ S)
theorem asB_ok {c : RC} {α : List Addr} {H : Hp} {r : R Val} {ok : Bool → Hp → Prop} {er : Exc → Sto → Prop} (h : wpR (asB r) (fun b S' => ∀ H' α', Ext α α' H H' → RelS c α' H' S' → ok b H') er) :
    wpR r (okV c (fun v H' => ∃ k, v = .bl k ∧ ok k H') α H) er := by
  unfold asB at h
  refine wpR_mono (wpR_bind h) (fun x S1 h1 => ?_) fun _ _ z => z
  cases x with
  | l n => exact h1.elim
  | n ds => exact h1.elim
  | v d =>
    cases d with
    | bl b =>
      intro v H' α' x1 s1 r1 f1
      have e : v = .bl b := by simpa only [RepX, Rep] using r1
      exact ⟨b, e, h1 H' α' x1 s1⟩
    | _ => exact h1.elim
theorem tB_of {f : VM} {σ : L2.St} {H : Hp} {Q : Bool → Hp → Prop} (h : tT (rc X) W (mTB f) σ H Q) : tTest (tV (rc X) W f) σ H Q := by
  obtain ⟨α, ρ, S, hE, hS, q⟩ := h
  exact ⟨α, ρ, S, hE, hS, asB_ok q⟩
theorem st_cmp {op : CmpOp} {r : R2} {g : D → D → Option Val} {fa fb : VM} (ho : OpR X (compareOp op) r) (hg : OpG X r g) (ha : SV X W a fa) (hb : SV X W b fb) (hm : behindInMarks op b = false) : ST X W (.Compare a [op] [b] pos) (mTB (mOp g fa fb)) :=
  PT.imp (pt_cmpR ho ha hb hm) fun σ H Q h => two hg (tB_of h)
/-- a op b op' c -/
def mChain (g g' : D → D → Option Val) (fa fb fc : VM) : VM := fun ρ S => (fa ρ S).bind fun x S1 => (fb ρ S1).bind fun y S2 => (asB (ap2 g S2 x y)).bind fun k S3 =>
  if k = true then (fc ρ S3).bind fun z S4 => ap2 g' S4 y z else .ok (.v (.bl false)) S3
theorem chain_of {r r' : R2} {g g' : D → D → Option Val} (hg : OpG X r g) (hg' : OpG X r' g') {fa fb fc : VM} {σ : L2.St} {H : Hp} {Q : VK} (h : tV (rc X) W (mChain g g' fa fb fc) σ H Q) : tChain r r' (tV (rc X) W fa) (tV (rc X) W fb) (tV (rc X) W fc) σ H Q := by
  obtain ⟨α, ρ, S, hE, hS, q⟩ := h
  refine ⟨α, ρ, S, hE, hS, ?_⟩
  refine wpR_mono (wpR_bind q) (fun x S1 h1 v H1 α1 x1 s1 r1 f1 => ?_) fun _ _ z => z
  refine ⟨α1, ρ, S1, hE.mono x1, s1, ?_⟩
  refine wpR_mono (wpR_bind h1) (fun y S2 h2 w H2 α2 x2 s2 r2 f2 => ?_) fun _ _ z => z.mono x1
  have h3 := wpR_bind h2
  refine ap2_ok (er := okE (rc X) W σ α H) hg s2 (r1.mono x2) r2 (asB_ok (wpR_mono h3 (fun k S3 h4 H3 α3 x3 s3 => ?_) fun _ _ z => z))
  have x13 := (x1.trans x2).trans x3
  cases k with
  | false => exact iteF (h4 (.bl false) H3 α3 x13 s3 (by simp only [RepX, Rep]) trivial)
  | true =>
    refine iteT ⟨α3, ρ, S3, hE.mono x13, s3, ?_⟩
    refine wpR_mono (wpR_bind h4) (fun z S4 h5 u H4 α4 x4 s4 r4 f4 => ?_) fun _ _ z => z.mono x13
    exact ap2_ok hg' s4 (r2.mono (x3.trans x4)) r4 (wpR_mono h5 (fun z S' k => k.mono (x13.trans x4)) fun _ _ z => z)
theorem sv_chain {op op' : CmpOp} {r r' : R2} {g g' : D → D → Option Val} {fa fb fc : VM} (ho : OpR X (compareOp op) r) (hg : OpG X r g) (ho' : OpR X (compareOp op') r') (hg' : OpG X r' g') (ha : SV X W a fa) (hb : SV X W b fb) (hc : SV X W c' fc)
    (hm : lastMarks [op, op'] [b, c'] = false := by with_unfolding_all rfl) : SV X W (.Compare a [op, op'] [b, c'] pos) (mChain g g' fa fb fc) :=
  PE.imp (pe_chain ho ho' ha hb hc hm) fun σ H Q h => chain_of hg hg' h
theorem st_chain {op op' : CmpOp} {r r' : R2} {g g' : D → D → Option Val} {fa fb fc : VM} (ho : OpR X (compareOp op) r) (hg : OpG X r g) (ho' : OpR X (compareOp op') r') (hg' : OpG X r' g') (ha : SV X W a fa) (hb : SV X W b fb) (hc : SV X W c' fc)
    (hm : lastMarks [op, op'] [b, c'] = false := by with_unfolding_all rfl) : ST X W (.Compare a [op, op'] [b, c'] pos) (mTB (mChain g g' fa fb fc)) :=
  PT.imp (pt_chain ho ho' ha hb hc hm) fun σ H Q h => chain_of hg hg' (tB_of h)

/-! ### one value -/
def UnG (X : Cx) (r : V → Hp → VK → Prop) (g : D → Option Val) : Prop := ∀ (H : Hp) (p : D) (x : V) (z : Val) (Q : VK), RepP (rc X) H p x → g p = some z → okZ (rc X) Q H z → r x H Q
def ap1 (g : D → Option Val) (S : Sto) (x : Val) : R Val := match pk S x with
  | some p => (match g p with
    | some z => .ok z S
    | none => .bad)
  | _ => .bad
def mUn (g : D → Option Val) (fa : VM) : VM := fun ρ S => (fa ρ S).bind fun x S1 => ap1 g S1 x
theorem ap1_ok {r : V → Hp → VK → Prop} {g : D → Option Val} (hg : UnG X r g) {α : List Addr} {H : Hp} {S : Sto} {x : Val} {v : V} {Q : VK} {er : Exc → Sto → Prop} (s : RelS (rc X) α H S) (rx : RepX (rc X) α H x v)
    (h : wpR (ap1 g S x) (okV (rc X) Q α H) er) : r v H Q := by
  unfold ap1 at h
  cases hp : pk S x with
  | none => rw [hp] at h; exact h.elim
  | some p =>
    rw [hp] at h
    dsimp only at h
    cases hz : g p with
    | none => rw [hz] at h; exact h.elim
    | some z =>
      rw [hz] at h
      exact hg H p v z Q (pk_rep s rx hp) hz (okV.Z h s)
theorem one_ {r : V → Hp → VK → Prop} {g : D → Option Val} (hg : UnG X r g) {fa : VM} {σ : L2.St} {H : Hp} {Q : VK} (h : tV (rc X) W (mUn g fa) σ H Q) : tUn r (tV (rc X) W fa) σ H Q := by
  obtain ⟨α, ρ, S, hE, hS, q⟩ := h
  refine ⟨α, ρ, S, hE, hS, ?_⟩
  refine wpR_mono (wpR_bind q) (fun x S1 h1 v H1 α1 x1 s1 r1 f1 => ?_) fun _ _ z => z
  exact ap1_ok hg s1 r1 (wpR_mono h1 (fun z S' k => k.mono x1) fun _ _ z => z)
theorem sv_un {op : UnaryOp} {r : V → Hp → VK → Prop} {g : D → Option Val} {fa : VM} (ho : UnR X (unaryOp op) r) (hg : UnG X r g) (ha : SV X W a fa) : SV X W (.UnaryOp op a pos) (mUn g fa) :=
  PE.imp (pe_un ho ha) fun σ H Q h => one_ hg h

/-! ### tests -/
/-- a value's truth -/
def truB : D → Option Bool
  | .non => some false
  | .bl b => some b
  | .int i => some (i != 0)
  | .str y => if y.length ≤ lim then some ((y.length : Int) != 0) else none
  | .tup ds => some (!ds.isEmpty)
  | .lst ds => some (!ds.isEmpty)
  | .fn _ => none
  | .kl ds => some (!ds.isEmpty)
  | .raw _ => none
def mTru (f : VM) : TM := fun ρ S => (f ρ S).bind fun x S1 => match pk S1 x with
  | some p => (match truB p with
    | some b => .ok b S1
    | none => .bad)
  | none => .bad
theorem Reps.isEmpty {c : RC} {H : Hp} {ds : List D} {xs : List V} (r : Reps c H ds xs) : ds.isEmpty = xs.isEmpty := by
  have := r.length
  cases ds <;> cases xs <;> simp_all
theorem tru_rep {H : Hp} {p : D} {v : V} {b : Bool} (r : RepP (rc X) H p v) (h : truB p = some b) : TruV X.K v H b := by
  cases p with
  | non =>
    cases h
    rw [r.non]
    exact rfl
  | bl k =>
    cases h
    rw [r.bl]
    exact rfl
  | int i =>
    cases h
    rw [r.int]
    exact rfl
  | str y =>
    have h' : (if y.length ≤ lim then some ((y.length : Int) != 0) else none) = some b := h
    by_cases hl : y.length ≤ lim
    · rw [if_pos hl] at h'
      cases h'
      rw [r.str]
      exact ⟨by rw [lim_eq]; exact hl, rfl⟩
    · rw [if_neg hl] at h'
      cases h'
  | tup ds =>
    cases h
    obtain ⟨a, xs, rfl, q, r⟩ := r.tup
    exact .inr (.inl ⟨xs, q, by rw [r.isEmpty]⟩)
  | lst ds =>
    cases h
    obtain ⟨a, xs, rfl, q, r⟩ := r.seqL
    exact .inl ⟨xs, q, by rw [r.isEmpty]⟩
  | fn x => cases h
  | kl ds =>
    cases h
    have r' : Rep (rc X) H (.kl ds) v := r
    simp only [Rep] at r'
    obtain ⟨a, xs, rfl, q, r⟩ := r'
    exact .inl ⟨xs, q.seq, by rw [r.isEmpty]⟩
  | raw a => cases h
theorem st_tru {f : VM} (h : SV X W a f) (he : ∀ whole, isTrue a X.env whole = (do let v ← whole; standAt a.pos; holding [v] (truthy v)) := by intro _; rfl) : ST X W a (mTru f) := by
  refine PT.imp (pt_truth h he) fun σ H Q ⟨α, ρ, S, hE, hS, q⟩ => ⟨α, ρ, S, hE, hS, ?_⟩
  refine wpR_mono (wpR_bind q) (fun x S1 h1 v H1 α1 x1 s1 r1 f1 => ?_) fun _ _ z => z
  cases hp : pk S1 x with
  | none => rw [hp] at h1; exact h1.elim
  | some p =>
    rw [hp] at h1
    dsimp only at h1
    cases hb : truB p with
    | none => rw [hb] at h1; exact h1.elim
    | some b =>
      rw [hb] at h1
      exact ⟨b, tru_rep (pk_rep s1 r1 hp) hb, h1 H1 α1 x1 s1⟩
def mNot (f : TM) : TM := fun ρ S => (f ρ S).bind fun b S1 => .ok (!b) S1
theorem st_not {f : TM} (h : ST X W a f) : ST X W (.UnaryOp .Not a pos) (mNot f) := by
  refine PT.imp (pt_not h) fun σ H Q ⟨α, ρ, S, hE, hS, q⟩ => ⟨α, ρ, S, hE, hS, ?_⟩
  exact wpR_mono (wpR_bind q) (fun x S1 h1 => h1) fun _ _ z => z
def mAnd (f g : TM) : TM := fun ρ S => (f ρ S).bind fun b S1 => if b = true then g ρ S1 else .ok false S1
def mOr (f g : TM) : TM := fun ρ S => (f ρ S).bind fun b S1 => if b = true then .ok true S1 else g ρ S1
variable {rest : List Expr}
theorem sw_and1 {f : TM} (h : ST X W a f) : SW X W (.BoolOp .And [a] pos) f := pw_and1 h
theorem sw_or1 {f : TM} (h : ST X W a f) : SW X W (.BoolOp .Or [a] pos) f := pw_or1 h
theorem tmono {f : TM} {σ : L2.St} {H H1 : Hp} {α α1 : List Addr} {ρ : MEnv} {S1 : Sto} {Q : Bool → Hp → Prop} (hE : RelE (rc X) α H ρ σ) (x1 : Ext α α1 H H1) (s1 : RelS (rc X) α1 H1 S1)
    (h : wpR (f ρ S1) (fun b S' => ∀ H' α', Ext α α' H H' → RelS (rc X) α' H' S' → Q b H') (okE (rc X) W σ α H)) : tT (rc X) W f σ H1 Q :=
  ⟨α1, ρ, S1, hE.mono x1, s1, wpR_mono h (fun b S2 k H2 α2 x2 s2 => k H2 α2 (x1.trans x2) s2) fun _ _ z => z.mono x1⟩
theorem vmono {f : VM} {σ : L2.St} {H H1 : Hp} {α α1 : List Addr} {ρ : MEnv} {S1 : Sto} {Q : VK} (hE : RelE (rc X) α H ρ σ) (x1 : Ext α α1 H H1) (s1 : RelS (rc X) α1 H1 S1)
    (h : wpR (f ρ S1) (okV (rc X) Q α H) (okE (rc X) W σ α H)) : tV (rc X) W f σ H1 Q :=
  ⟨α1, ρ, S1, hE.mono x1, s1, wpR_mono h (fun b S2 k => k.mono x1) fun _ _ z => z.mono x1⟩
theorem sw_and {f g : TM} (h : ST X W a f) (t : SW X W (.BoolOp .And (b :: rest) pos) g) : SW X W (.BoolOp .And (a :: b :: rest) pos) (mAnd f g) := by
  refine PW.imp (pw_and h t) fun σ H Q ⟨α, ρ, S, hE, hS, q⟩ => ⟨α, ρ, S, hE, hS, ?_⟩
  refine wpR_mono (wpR_bind q) (fun x S1 h1 H1 α1 x1 s1 => ?_) fun _ _ z => z
  cases x with
  | true => exact iteT (tmono hE x1 s1 h1)
  | false => exact iteF (h1 H1 α1 x1 s1)
theorem sw_or {f g : TM} (h : ST X W a f) (t : SW X W (.BoolOp .Or (b :: rest) pos) g) : SW X W (.BoolOp .Or (a :: b :: rest) pos) (mOr f g) := by
  refine PW.imp (pw_or h t) fun σ H Q ⟨α, ρ, S, hE, hS, q⟩ => ⟨α, ρ, S, hE, hS, ?_⟩
  refine wpR_mono (wpR_bind q) (fun x S1 h1 H1 α1 x1 s1 => ?_) fun _ _ z => z
  cases x with
  | true => exact iteT (h1 H1 α1 x1 s1)
  | false => exact iteF (tmono hE x1 s1 h1)
theorem st_w {f : TM} (h : SW X W a f) : ST X W a f := PW.pt h
/-- and, or of truth values, as a value -/
def mVB (f : VM) (k : Bool → VM) : VM := fun ρ S => (f ρ S).bind fun x S1 => match x with
  | .v (.bl b) => k b ρ S1
  | _ => .bad
def mAndV (f g : VM) : VM := mVB f fun b ρ S => if b = true then g ρ S else .ok (.v (.bl false)) S
def mOrV (f g : VM) : VM := mVB f fun b ρ S => if b = true then .ok (.v (.bl true)) S else g ρ S
def mNotV (f : VM) : VM := mVB f fun b _ S => .ok (.v (.bl !b)) S
theorem vb_ok {f : VM} {k : Bool → VM} {H : Hp} {α : List Addr} {ρ : MEnv} {S : Sto} {Q : VK} {er : Exc → Sto → Prop} {R2 : Bool → Hp → Prop}
    (q : wpR (mVB f k ρ S) (okV (rc X) Q α H) er) (h : ∀ b S1 H1 α1, Ext α α1 H H1 → RelS (rc X) α1 H1 S1 → wpR (k b ρ S1) (okV (rc X) Q α H) er → R2 b H1) :
    wpR (f ρ S) (okV (rc X) (fun v H1 => ∃ c, v = .bl c ∧ R2 c H1) α H) er := by
  refine wpR_mono (wpR_bind q) (fun x S1 h1 => ?_) fun _ _ z => z
  cases x with
  | l n => exact h1.elim
  | n ds => exact h1.elim
  | v d =>
    cases d with
    | bl b =>
      intro v H' α' x1 s1 r1 f1
      have e : v = .bl b := by simpa only [RepX, Rep] using r1
      exact ⟨b, e, h b S1 H' α' x1 s1 h1⟩
    | _ => exact h1.elim
theorem sv_one {op} {f : VM} (h : SV X W a f) : SV X W (.BoolOp op [a] pos) f := pe_one h
theorem sv_and {f g : VM} (h : SV X W a f) (t : SV X W (.BoolOp .And (b :: rest) pos) g) : SV X W (.BoolOp .And (a :: b :: rest) pos) (mAndV f g) := by
  refine PE.imp (pe_and h t) fun σ H Q ⟨α, ρ, S, hE, hS, q⟩ => ⟨α, ρ, S, hE, hS, ?_⟩
  refine vb_ok q fun b S1 H1 α1 x1 s1 h1 => ?_
  cases b with
  | true => exact iteT (vmono hE x1 s1 h1)
  | false => exact iteF (h1 (.bl false) H1 α1 x1 s1 (by simp only [RepX, Rep]) trivial)
theorem sv_or {f g : VM} (h : SV X W a f) (t : SV X W (.BoolOp .Or (b :: rest) pos) g) : SV X W (.BoolOp .Or (a :: b :: rest) pos) (mOrV f g) := by
  refine PE.imp (pe_or h t) fun σ H Q ⟨α, ρ, S, hE, hS, q⟩ => ⟨α, ρ, S, hE, hS, ?_⟩
  refine vb_ok q fun b S1 H1 α1 x1 s1 h1 => ?_
  cases b with
  | false => exact iteF (vmono hE x1 s1 h1)
  | true => exact iteT (h1 (.bl true) H1 α1 x1 s1 (by simp only [RepX, Rep]) trivial)
theorem sv_not {f : VM} (h : SV X W a f) : SV X W (.UnaryOp .Not a pos) (mNotV f) := by
  refine PE.imp (pe_not h) fun σ H Q ⟨α, ρ, S, hE, hS, q⟩ => ⟨α, ρ, S, hE, hS, ?_⟩
  refine vb_ok q fun b S1 H1 α1 x1 s1 h1 => ?_
  exact h1 (.bl !b) H1 α1 x1 s1 (by simp only [RepX, Rep]) trivial
def mIfE (t : TM) (f g : VM) : VM := fun ρ S => (t ρ S).bind fun b S1 => if b = true then f ρ S1 else g ρ S1
theorem sv_if {t : TM} {f g : VM} {c : Expr} (hc : ST X W c t) (ha : SV X W a f) (hb : SV X W b g) : SV X W (.IfExp c a b pos) (mIfE t f g) := by
  refine PE.imp (pe_ifExp hc ha hb) fun σ H Q ⟨α, ρ, S, hE, hS, q⟩ => ⟨α, ρ, S, hE, hS, ?_⟩
  refine wpR_mono (wpR_bind q) (fun x S1 h1 H1 α1 x1 s1 => ?_) fun _ _ z => z
  cases x with
  | true => exact iteT (vmono hE x1 s1 h1)
  | false => exact iteF (vmono hE x1 s1 h1)

/-! ### displays -/
/-- all of them data -/
def dats : List Val → Option (List D)
  | [] => some []
  | .v d :: r => (dats r).map (d :: ·)
  | _ :: _ => none
theorem dats_rep {c : RC} {α : List Addr} {H : Hp} : ∀ {xs : List Val} {vs : List V} {ds : List D}, RepAs c α H xs vs → dats xs = some ds → Reps c H ds vs
  | _, _, _, .nil, e => by
    cases e
    exact .nil
  | _, _, _, .cons (x := x) (xs := xs) h t, e => by
    cases x with
    | l n => cases e
    | n ds => cases e
    | v d =>
      unfold dats at e
      cases hd : dats xs with
      | none => rw [hd] at e; cases e
      | some es =>
        rw [hd] at e
        cases e
        exact .cons h (dats_rep t hd)
def mTup (g : AM) : VM := fun ρ S => (g ρ S).bind fun xs S1 => match dats xs with
  | some ds => if ds.length ≤ lim then .ok (.v (.tup ds)) S1 else .bad
  | none => .bad
def mLst (g : AM) : VM := fun ρ S => (g ρ S).bind fun xs S1 => match dats xs with
  | some ds => if ds.length ≤ lim then .ok (.n ds) S1 else .bad
  | none => .bad
variable {es : List Expr}
theorem sv_tup {g : AM} {x1} (h : SA X W es g) : SV X W (.Tuple es x1 pos) (mTup g) := by
  refine PE.imp (pe_tup h) fun σ H Q ⟨α, ρ, S, hE, hS, q⟩ => ⟨α, ρ, S, hE, hS, ?_⟩
  refine wpR_mono (wpR_bind q) (fun xs S1 h1 vs H1 α1 x1 s1 r1 => ?_) fun _ _ z => z
  cases hd : dats xs with
  | none => rw [hd] at h1; exact h1.elim
  | some ds =>
    rw [hd] at h1
    dsimp only at h1
    by_cases hl : ds.length ≤ lim
    · rw [if_pos hl] at h1
      have r := dats_rep r1 hd
      exact ⟨by rw [← r.length, lim_eq]; exact hl, ((okV.mono x1 h1).Z s1).newT r⟩
    · rw [if_neg hl] at h1
      exact h1.elim
theorem sv_lst {g : AM} (h : SA X W es g) : SV X W (.List es pos) (mLst g) := by
  refine PE.imp (pe_lst h) fun σ H Q ⟨α, ρ, S, hE, hS, q⟩ => ⟨α, ρ, S, hE, hS, ?_⟩
  refine wpR_mono (wpR_bind q) (fun xs S1 h1 vs H1 α1 x1 s1 r1 => ?_) fun _ _ z => z
  cases hd : dats xs with
  | none => rw [hd] at h1; exact h1.elim
  | some ds =>
    rw [hd] at h1
    dsimp only at h1
    by_cases hl : ds.length ≤ lim
    · rw [if_pos hl] at h1
      have r := dats_rep r1 hd
      exact ⟨by rw [← r.length, lim_eq]; exact hl, ((okV.mono x1 h1).Z s1).new r⟩
    · rw [if_neg hl] at h1
      exact h1.elim
end
end M

namespace M
open PySem PySem.Spec PyProof.Rows L2

def ofR {α : Type} (r : R α) (ρ : MEnv) (k : α → Sto → RS) : RS := match r with
  | .ok a S => k a S
  | .er e S => .er e ρ S
  | .bad => .bad
/-- what is wanted of a statement's end -/
def wpS (c : RC) (W : WX) (D : Ends) (α : List Addr) (H : Hp) (r : RS) : Prop := match r with
  | .nx ρ S => ∀ σ' H' α', Ext α α' H H' → RelE c α' H' ρ σ' → RelS c α' H' S → D.nx σ' H'
  | .rt x S => ∀ v H' α', Ext α α' H H' → RelS c α' H' S → RepX c α' H' x v → Fresh H x v → D.rt v H'
  | .bk ρ S => ∀ σ' H' α', Ext α α' H H' → RelE c α' H' ρ σ' → RelS c α' H' S → D.bk σ' H'
  | .ct ρ S => ∀ σ' H' α', Ext α α' H H' → RelE c α' H' ρ σ' → RelS c α' H' S → D.ct σ' H'
  | .er e ρ S => ∀ cls od σ' H' α', Ext α α' H H' → RelE c α' H' ρ σ' → RelS c α' H' S → ExcRep c H' e cls od → W cls od σ' H'
  | .bad => False
def tS (c : RC) (W : WX) (f : SM) : TS := fun D σ H => ∃ α ρ S, RelE c α H ρ σ ∧ RelS c α H S ∧ wpS c W D α H (f ρ S)
def SS (X : Cx) (W : WX) (st : Stmt) (f : SM) : Prop := PS X st (tS (rc X) W f)
def SSs (X : Cx) (W : WX) (sts : List Stmt) (f : SM) : Prop := PSs X sts (tS (rc X) W f)

theorem Fresh.mono {c : RC} {α α' α2 : List Addr} {H H' H2 : Hp} (x : Ext α α' H H') (x2 : Ext α' α2 H' H2) {y : Val} {v : V} (r2 : RepX c α2 H2 y v) (f2 : Fresh H' y v) : Fresh H y v := by
  cases y with
  | v d => trivial
  | l n => trivial
  | n ds =>
    intro a e
    cases q : H a with
    | none => rfl
    | some o =>
      have h1 : H' a = none := f2 a e
      by_cases ha : a ∈ α
      · obtain ⟨b, xs, e1, _, _, nb⟩ := r2
        rw [e] at e1
        cases e1
        obtain ⟨β, rfl⟩ := x.pre
        obtain ⟨γ, rfl⟩ := x2.pre
        exact absurd (List.mem_append_left _ (List.mem_append_left _ ha)) nb
      · rw [x.fr a o q ha] at h1
        cases h1
theorem wpS.mono {c : RC} {W : WX} {D D' : Ends} {α α' : List Addr} {H H' : Hp} {r : RS} (x : Ext α α' H H') (h : wpS c W D α H r) (hn : ∀ σ H, D.nx σ H → D'.nx σ H) (hr : ∀ v H, D.rt v H → D'.rt v H) (hb : ∀ σ H, D.bk σ H → D'.bk σ H) (hc : ∀ σ H, D.ct σ H → D'.ct σ H) : wpS c W D' α' H' r := by
  cases r with
  | nx ρ S => exact fun σ' H2 α2 x2 e s => hn _ _ (h σ' H2 α2 (x.trans x2) e s)
  | rt y S => exact fun v H2 α2 x2 s r f => hr _ _ (h v H2 α2 (x.trans x2) s r (Fresh.mono x x2 r f))
  | bk ρ S => exact fun σ' H2 α2 x2 e s => hb _ _ (h σ' H2 α2 (x.trans x2) e s)
  | ct ρ S => exact fun σ' H2 α2 x2 e s => hc _ _ (h σ' H2 α2 (x.trans x2) e s)
  | er e ρ S => exact fun cls od σ' H2 α2 x2 e s r => h cls od σ' H2 α2 (x.trans x2) e s r
  | bad => exact h
theorem wpS.ext {c : RC} {W : WX} {D : Ends} {α α' : List Addr} {H H' : Hp} {r : RS} (x : Ext α α' H H') (h : wpS c W D α H r) : wpS c W D α' H' r := h.mono x (fun _ _ z => z) (fun _ _ z => z) (fun _ _ z => z) (fun _ _ z => z)
theorem wpS.imp {c : RC} {W : WX} {D D' : Ends} {α : List Addr} {H : Hp} {r : RS} (h : wpS c W D α H r) (hn : ∀ σ H, D.nx σ H → D'.nx σ H) (hr : ∀ v H, D.rt v H → D'.rt v H) (hb : ∀ σ H, D.bk σ H → D'.bk σ H) (hc : ∀ σ H, D.ct σ H → D'.ct σ H) : wpS c W D' α H r := h.mono (.refl _ _) hn hr hb hc
theorem wpS_ofR {c : RC} {W : WX} {D : Ends} {α : List Addr} {H : Hp} {β : Type} {r : R β} {ρ : MEnv} {σ : L2.St} {k : β → Sto → RS} (hE : RelE c α H ρ σ) (h : wpS c W D α H (ofR r ρ k)) : wpR r (fun a S => wpS c W D α H (k a S)) (okE c W σ α H) := by
  cases r with
  | ok a S => exact h
  | er e S => exact fun cls od H' α' x s r => h cls od σ H' α' x (hE.mono x) s r
  | bad => exact h

section
variable {X : Cx} {W : WX} {st : Stmt} {sts : List Stmt} {e : Expr} {pos : Pos}
theorem PS.imp {t t' : TS} (h : PS X st t) (i : ∀ D σ H, t' D σ H → t D σ H) : PS X st t' := ⟨fun pins s σ H D I q => h.run pins s σ H D I (i D σ H q)⟩
theorem PSs.imp {t t' : TS} (h : PSs X sts t) (i : ∀ D σ H, t' D σ H → t D σ H) : PSs X sts t' := ⟨fun pins s σ H D I q => h.run pins s σ H D I (i D σ H q)⟩
def sSkip : SM := fun ρ S => .nx ρ S
def sSeq (f g : SM) : SM := fun ρ S => match f ρ S with
  | .nx ρ1 S1 => g ρ1 S1
  | r => r
theorem ss_nil : SSs X W [] sSkip := PSs.imp pss_nil fun D σ H ⟨α, ρ, S, hE, hS, q⟩ => q σ H α (.refl _ _) hE hS
theorem ss_cons {f g : SM} (h : SS X W st f) (t : SSs X W sts g) : SSs X W (st :: sts) (sSeq f g) := by
  refine PSs.imp (pss_cons h t) fun D σ H ⟨α, ρ, S, hE, hS, q⟩ => ⟨α, ρ, S, hE, hS, ?_⟩
  unfold sSeq at q
  cases hf : f ρ S with
  | nx ρ1 S1 =>
    rw [hf] at q
    exact fun σ' H' α' x e s => ⟨α', ρ1, S1, e, s, q.ext x⟩
  | rt x S1 => rw [hf] at q; exact q
  | bk ρ1 S1 => rw [hf] at q; exact q
  | ct ρ1 S1 => rw [hf] at q; exact q
  | er e ρ1 S1 => rw [hf] at q; exact q
  | bad => rw [hf] at q; exact q
theorem ss_one {f : SM} (h : SS X W st f) : SSs X W [st] f := pss_one h
theorem ss_pass : SS X W (.Pass pos) sSkip := PS.imp ps_pass fun D σ H ⟨α, ρ, S, hE, hS, q⟩ => q σ H α (.refl _ _) hE hS
def sBrk : SM := fun ρ S => .bk ρ S
def sCnt : SM := fun ρ S => .ct ρ S
theorem ss_break : SS X W (.Break pos) sBrk := PS.imp ps_break fun D σ H ⟨α, ρ, S, hE, hS, q⟩ => q σ H α (.refl _ _) hE hS
theorem ss_continue : SS X W (.Continue pos) sCnt := PS.imp ps_continue fun D σ H ⟨α, ρ, S, hE, hS, q⟩ => q σ H α (.refl _ _) hE hS
def sExpr (f : VM) : SM := fun ρ S => ofR (f ρ S) ρ fun _ S1 => .nx ρ S1
theorem ss_expr {f : VM} (h : SV X W e f) (hs : swapsWith e none pos.line X.env = pure false := by rfl) : SS X W (.Expr e pos) (sExpr f) := by
  refine PS.imp (ps_expr h hs) fun D σ H ⟨α, ρ, S, hE, hS, q⟩ => ⟨α, ρ, S, hE, hS, ?_⟩
  exact wpR_mono (wpS_ofR hE q) (fun x S1 h1 v H1 α1 x1 s1 r1 f1 => h1 σ H1 α1 x1 (hE.mono x1) s1) fun _ _ z => z
def sRet (f : VM) : SM := fun ρ S => ofR (f ρ S) ρ fun x S1 => .rt x S1
theorem ss_ret {f : VM} (h : SV X W e f) : SS X W (.Return (some e) pos) (sRet f) := by
  refine PS.imp (ps_ret h) fun D σ H ⟨α, ρ, S, hE, hS, q⟩ => ⟨α, ρ, S, hE, hS, ?_⟩
  exact wpR_mono (wpS_ofR hE q) (fun x S1 h1 v H1 α1 x1 s1 r1 f1 => h1 v H1 α1 x1 s1 r1 f1) fun _ _ z => z
def sRetN : SM := fun _ S => .rt (.v .non) S
theorem ss_retN : SS X W (.Return none pos) sRetN := PS.imp ps_retN fun D σ H ⟨α, ρ, S, hE, hS, q⟩ => q .non H α (.refl _ _) hS (by simp only [RepX, Rep]) trivial
def sIf (t : TM) (f g : SM) : SM := fun ρ S => ofR (t ρ S) ρ fun b S1 => if b = true then f ρ S1 else g ρ S1
theorem ss_if {t : TM} {f g : SM} {c : Expr} {a b : List Stmt} (hc : ST X W c t) (ha : SSs X W a f) (hb : SSs X W b g) : SS X W (.If c a b pos) (sIf t f g) := by
  refine PS.imp (ps_if hc ha hb) fun D σ H ⟨α, ρ, S, hE, hS, q⟩ => ⟨α, ρ, S, hE, hS, ?_⟩
  refine wpR_mono (wpS_ofR hE q) (fun x S1 h1 H1 α1 x1 s1 => ?_) fun _ _ z => z
  cases x with
  | true => exact iteT ⟨α1, ρ, S1, hE.mono x1, s1, h1.ext x1⟩
  | false => exact iteF ⟨α1, ρ, S1, hE.mono x1, s1, h1.ext x1⟩
/-- what a slot may hold -/
def toSlot (x : Val) (ρ : MEnv) (i : Nat) (S : Sto) : RS := match x with
  | .n _ => .bad
  | x => .nx (ρ.set i (some x)) S
def sSet (i : Nat) (f : VM) : SM := fun ρ S => ofR (f ρ S) ρ fun x S1 => toSlot x ρ i S1
theorem toSlot_ok {D : Ends} {σ : L2.St} {α α1 : List Addr} {H H1 : Hp} {ρ : MEnv} {S1 : Sto} {x : Val} {v : V} {i : Nat} (hE : RelE (rc X) α H ρ σ) (x1 : Ext α α1 H H1) (s1 : RelS (rc X) α1 H1 S1) (r1 : RepX (rc X) α1 H1 x v)
    (h : wpS (rc X) W D α H (toSlot x ρ i S1)) : D.nx (σ.set i (some v)) H1 := by
  cases x with
  | n ds => exact h.elim
  | v d => exact h _ H1 α1 x1 ((hE.mono x1).set (r1.A (fun _ => nofun)) i) s1
  | l n => exact h _ H1 α1 x1 ((hE.mono x1).set (r1.A (fun _ => nofun)) i) s1
theorem ss_set {f : VM} {te : TE} {i : Nat} (h : PS X st (tAsg (tV (rc X) W f) (gName i))) : SS X W st (sSet i f) := by
  refine PS.imp h fun D σ H ⟨α, ρ, S, hE, hS, q⟩ => ⟨α, ρ, S, hE, hS, ?_⟩
  exact wpR_mono (wpS_ofR hE q) (fun x S1 h1 v H1 α1 x1 s1 r1 f1 => toSlot_ok hE x1 s1 r1 h1) fun _ _ z => z
/-- name op= e (ints, texts) -/
def sAug (i : Nat) (g : D → D → Option Val) (f : VM) : SM := fun ρ S => match ρ[i]? with
  | some (some (.v d)) => ofR (f ρ S) ρ fun y S1 => ofR (ap2 g S1 (.v d) y) ρ fun z S2 => toSlot z ρ i S2
  | _ => .bad
theorem ss_aug {f : VM} {r : R2} {g : D → D → Option Val} {i : Nat} (h : PS X st (tAug i (tV (rc X) W f) r)) (hg : OpG X r g) : SS X W st (sAug i g f) := by
  refine PS.imp h fun D σ H ⟨α, ρ, S, hE, hS, q⟩ => ?_
  unfold sAug at q
  cases hi : ρ[i]? with
  | none => rw [hi] at q; exact q.elim
  | some o =>
    rw [hi] at q
    cases o with
    | none => exact q.elim
    | some x =>
      cases x with
      | l n => exact q.elim
      | n ds => exact q.elim
      | v d =>
        obtain ⟨v, ev, rv⟩ := hE.at_ i _ hi
        refine ⟨v, ev, α, ρ, S, hE, hS, ?_⟩
        refine wpR_mono (wpS_ofR hE q) (fun y S1 h1 w H1 α1 x1 s1 r1 f1 => ?_) fun _ _ z => z
        have rv1 : RepX (rc X) α1 H1 (.v d) v := (rv.mono x1).X
        refine ap2_ok (er := okE (rc X) W σ α H) hg s1 rv1 r1 (wpR_mono (wpS_ofR hE h1) (fun z S2 h2 u H2 α2 x2 s2 r2 f2 => ?_) fun _ _ z => z)
        exact toSlot_ok hE (x1.trans x2) s2 r2 h2

/-! ### targets -/
abbrev GM := D → MEnv → Sto → R MEnv
abbrev GMs := List D → MEnv → Sto → R MEnv
def tG (c : RC) (f : GM) : TG := fun v σ H Q => ∃ α ρ S d, RelE c α H ρ σ ∧ RelS c α H S ∧ Rep c H d v ∧ wpR (f d ρ S) (fun ρ' S' => ∀ σ' H' α', Ext α α' H H' → RelE c α' H' ρ' σ' → RelS c α' H' S' → Q σ' H') (fun _ _ => False)
def tGs (c : RC) (f : GMs) : TGs := fun vs σ H Q => ∃ α ρ S ds, RelE c α H ρ σ ∧ RelS c α H S ∧ Reps c H ds vs ∧ wpR (f ds ρ S) (fun ρ' S' => ∀ σ' H' α', Ext α α' H H' → RelE c α' H' ρ' σ' → RelS c α' H' S' → Q σ' H') (fun _ _ => False)
def SG (X : Cx) (tg : Expr) (f : GM) : Prop := PG X tg (tG (rc X) f)
def SGs (X : Cx) (tgs : List Expr) (f : GMs) : Prop := PGs X tgs (tGs (rc X) f)
theorem PG.imp {t t' : TG} (h : PG X e t) (i : ∀ v σ H Q, t' v σ H Q → t v σ H Q) : PG X e t' := ⟨fun pins s σ H v u Q I r q => h.run pins s σ H v u Q I r (i v σ H Q q)⟩
theorem PGs.imp {es : List Expr} {t t' : TGs} (h : PGs X es t) (i : ∀ v σ H Q, t' v σ H Q → t v σ H Q) : PGs X es t' := ⟨fun pins s σ H v u Q I r q => h.run pins s σ H v u Q I r (i v σ H Q q)⟩
def gN (i : Nat) : GM := fun d ρ S => .ok (ρ.set i (some (.v d))) S
theorem sg_name {i : Nat} (h : PG X e (gName i)) : SG X e (gN i) := by
  refine PG.imp h fun v σ H Q ⟨α, ρ, S, d, hE, hS, r, q⟩ => ?_
  exact q _ H α (.refl _ _) (hE.set (x := .v d) r i) hS
def gsN : GMs := fun ds ρ S => match ds with
  | [] => .ok ρ S
  | _ => .bad
def gsC (f : GM) (g : GMs) : GMs := fun ds ρ S => match ds with
  | d :: r => (f d ρ S).bind fun ρ1 S1 => g r ρ1 S1
  | [] => .bad
theorem sgs_nil : SGs X [] gsN := by
  refine PGs.imp pgs_nil fun vs σ H Q ⟨α, ρ, S, ds, hE, hS, r, q⟩ => ?_
  cases ds with
  | nil =>
    simp only [Reps] at r
    exact ⟨r, q σ H α (.refl _ _) hE hS⟩
  | cons d r => exact q.elim
theorem sgs_cons {es : List Expr} {f : GM} {g : GMs} (h : SG X e f) (t : SGs X es g) (hs : (assignEach (e :: es) X.env).map (·.2) = assign e X.env :: (assignEach es X.env).map (·.2) := by rfl) : SGs X (e :: es) (gsC f g) := by
  refine PGs.imp (pgs_cons h t hs) fun vs σ H Q ⟨α, ρ, S, ds, hE, hS, r, q⟩ => ?_
  cases ds with
  | nil => exact q.elim
  | cons d ds =>
    simp only [Reps] at r
    obtain ⟨v, vs', rfl, r1, r2⟩ := r
    refine ⟨v, vs', rfl, α, ρ, S, d, hE, hS, r1, ?_⟩
    refine wpR_mono (wpR_bind q) (fun ρ1 S1 h1 σ1 H1 α1 x1 e1 s1 => ?_) fun _ _ z => z
    exact ⟨α1, ρ1, S1, ds, e1, s1, r2.mono x1.le, wpR_mono h1 (fun ρ2 S2 h2 σ2 H2 α2 x2 e2 s2 => h2 σ2 H2 α2 (x1.trans x2) e2 s2) fun _ _ z => z⟩
def gT (n : Nat) (g : GMs) : GM := fun d ρ S => match d with
  | .tup ds => if ds.length = n then g ds ρ S else .bad
  | _ => .bad
theorem sg_tup {es : List Expr} {k n : Nat} {g : GMs} (hc : X.calm = true) (h : SGs X es g) (hn : (assignEach es X.env).length = n := by rfl) (hst : (assignEach es X.env).findIdx? (·.1) = none := by rfl) : SG X (.Tuple es k pos) (gT n g) := by
  refine PG.imp (pg_tup hc h hn hst) fun v σ H Q ⟨α, ρ, S, d, hE, hS, r, q⟩ => ?_
  cases d with
  | tup ds =>
    simp only [Rep] at r
    obtain ⟨a, xs, rfl, sq, r⟩ := r
    unfold gT at q
    dsimp only at q
    by_cases hl : ds.length = n
    · rw [if_pos hl] at q
      exact ⟨a, xs, rfl, sq, by rw [← r.length]; exact hl, α, ρ, S, ds, hE, hS, r, q⟩
    · rw [if_neg hl] at q
      exact q.elim
  | _ => exact q.elim
/-- target = value -/
def sAsg (f : VM) (g : GM) : SM := fun ρ S => ofR (f ρ S) ρ fun x S1 => match x with
  | .v d => (match g d ρ S1 with
    | .ok ρ2 S2 => .nx ρ2 S2
    | _ => .bad)
  | _ => .bad
theorem ss_asg {tg : Expr} {f : VM} {g : GM} (h : SV X W e f) (t : SG X tg g) (hs : swapsWithSole [tg] e pos.line X.env = pure false := by rfl) (hw : swappedStores [tg] e X.env = pure none := by rfl)
    (h1 : (assignEach [tg] X.env).map (·.2) = [assign tg X.env] := by rfl) : SS X W (.Assign [tg] e pos) (sAsg f g) := by
  refine PS.imp (ps_asg h t hs hw h1) fun D σ H ⟨α, ρ, S, hE, hS, q⟩ => ⟨α, ρ, S, hE, hS, ?_⟩
  refine wpR_mono (wpS_ofR hE q) (fun x S1 h1 v H1 α1 x1 s1 r1 f1 => ?_) fun _ _ z => z
  cases x with
  | l n => exact h1.elim
  | n ds => exact h1.elim
  | v d =>
    dsimp only at h1
    refine ⟨α1, ρ, S1, d, hE.mono x1, s1, r1, ?_⟩
    cases hg : g d ρ S1 with
    | bad => rw [hg] at h1; exact h1.elim
    | er e S2 => rw [hg] at h1; exact h1.elim
    | ok ρ2 S2 =>
      rw [hg] at h1
      exact fun σ2 H2 α2 x2 e2 s2 => h1 σ2 H2 α2 (x1.trans x2) e2 s2
/-- a, b = x, y -/
def sPar (i j : Nat) (g : AM) : SM := fun ρ S => ofR (g ρ S) ρ fun xs S1 => match xs with
  | [x, y] => .nx ((ρ.set i (some x)).set j (some y)) S1
  | _ => .bad
theorem ss_par {i j : Nat} {g : AM} (h : PS X st (tPar i j (tA (rc X) W g))) : SS X W st (sPar i j g) := by
  refine PS.imp h fun D σ H ⟨α, ρ, S, hE, hS, q⟩ => ⟨α, ρ, S, hE, hS, ?_⟩
  refine wpR_mono (wpS_ofR hE q) (fun xs S1 h1 vs H1 α1 x1 s1 r1 => ?_) fun _ _ z => z
  cases r1 with
  | nil => exact h1.elim
  | cons ra t =>
    cases t with
    | nil => exact h1.elim
    | cons rb t =>
      cases t with
      | nil => exact ⟨_, _, rfl, h1 _ H1 α1 x1 (((hE.mono x1).set ra i).set rb j) s1⟩
      | cons _ _ => exact h1.elim

/-! ### loops -/
inductive Items where
  | fix (ds : List D) | at_ (n : Nat)
abbrev IM := MEnv → Sto → R Items
def ItOk (c : RC) (α : List Addr) (J : It) (H : Hp) : Items → Prop
  | .fix ds => ∀ H1, LeH H H1 → ∀ i, (∀ d, ds[i]? = some d → J.go i H1 ∧ ∀ x H2, J.yld i H1 x H2 → Same H1 H2 ∧ Rep c H2 d x) ∧ (ds[i]? = none → J.stop i H1)
  | .at_ n => ∃ a, α[n]? = some a ∧ J = Itl c.K a
def tI (c : RC) (W : WX) (f : IM) : TI := fun σ H R => ∃ α ρ S, RelE c α H ρ σ ∧ RelS c α H S ∧ wpR (f ρ S) (fun it S' => ∀ J H' α', Ext α α' H H' → RelS c α' H' S' → ItOk c α' J H' it → R J H') (okE c W σ α H)
def SI (X : Cx) (W : WX) (tg e : Expr) (f : IM) : Prop := PI X tg e (tI (rc X) W f)
theorem PI.imp {tg : Expr} {t t' : TI} (h : PI X tg e t) (i : ∀ σ H Q, t' σ H Q → t σ H Q) : PI X tg e t' := ⟨fun pins s σ H Q I q => h.run pins s σ H Q I (i σ H Q q)⟩
/-- a turn's end, and on -/
def onward (r : RS) (k : MEnv → Sto → RS) : RS := match r with
  | .nx ρ S => k ρ S
  | .ct ρ S => k ρ S
  | .bk ρ S => .nx ρ S
  | r => r
theorem onward_ok {c : RC} {D : Ends} {α : List Addr} {H : Hp} {r : RS} {k : MEnv → Sto → RS} {N : L2.St → Hp → Prop} (h : wpS c W D α H (onward r k))
    (hN : ∀ ρ S, wpS c W D α H (k ρ S) → ∀ σ' H' α', Ext α α' H H' → RelE c α' H' ρ σ' → RelS c α' H' S → N σ' H') : wpS c W { D with nx := N, ct := N, bk := D.nx } α H r := by
  cases r with
  | nx ρ S => exact fun σ' H' α' x e s => hN ρ S h σ' H' α' x e s
  | ct ρ S => exact fun σ' H' α' x e s => hN ρ S h σ' H' α' x e s
  | bk ρ S => exact h
  | rt x S => exact h
  | er e ρ S => exact h
  | bad => exact h
def step (g : GM) (body : SM) (d : D) (ρ : MEnv) (S : Sto) (k : MEnv → Sto → RS) : RS := match g d ρ S with
  | .ok ρ1 S1 => onward (body ρ1 S1) k
  | _ => .bad
def forL (g : GM) (body : SM) : List D → MEnv → Sto → RS
  | [], ρ, S => .nx ρ S
  | d :: ds, ρ, S => step g body d ρ S (forL g body ds)
/-- over the list at the place n, as it stands at each turn -/
def forN (g : GM) (body : SM) (n : Nat) : Nat → Nat → MEnv → Sto → RS
  | k, i, ρ, S => match S[n]? with
    | some (some ds) => (match ds[i]? with
      | none => .nx ρ S
      | some d => (match k with
        | 0 => .bad
        | k + 1 => step g body d ρ S (forN g body n k (i + 1))))
    | _ => .bad
def lenAt (S : Sto) (n : Nat) : Nat := match S[n]? with
  | some (some ds) => ds.length
  | _ => 0
def sFor (it : IM) (g : GM) (body : SM) : SM := fun ρ S => ofR (it ρ S) ρ fun t S1 => match t with
  | .fix ds => forL g body ds ρ S1
  | .at_ n => forN g body n (lenAt S1 n) 0 ρ S1
theorem step_ok {c : RC} {d : D} {D : Ends} {α α1 : List Addr} {H H1 : Hp} {g : GM} {body : SM} {ρ : MEnv} {S : Sto} {σ : L2.St} {x : V} {k : MEnv → Sto → RS} {N : L2.St → Hp → Prop}
    (x1 : Ext α α1 H H1) (e1 : RelE c α1 H1 ρ σ) (s1 : RelS c α1 H1 S) (rd : Rep c H1 d x) (h : wpS c W D α H (step g body d ρ S k))
    (hN : ∀ ρ S, wpS c W D α H (k ρ S) → ∀ σ' H' α', Ext α α' H H' → RelE c α' H' ρ σ' → RelS c α' H' S → N σ' H') :
    tG c g x σ H1 fun σ2 H2 => tS c W body { D with nx := N, ct := N, bk := D.nx } σ2 H2 := by
  unfold step at h
  refine ⟨α1, ρ, S, d, e1, s1, rd, ?_⟩
  cases hg : g d ρ S with
  | bad => rw [hg] at h; exact h.elim
  | er e S2 => rw [hg] at h; exact h.elim
  | ok ρ2 S2 =>
    rw [hg] at h
    exact fun σ2 H2 α2 x2 e2 s2 => ⟨α2, ρ2, S2, e2, s2, wpS.ext (x1.trans x2) (onward_ok h hN)⟩
theorem ss_for {tg iter : Expr} {body : List Stmt} {it : IM} {g : GM} {f : SM} (hp : PassesOwn (model X.prog X.w) X.A X.env X.xe) (hc : X.calm = true) (hi : SI X W tg iter it) (hg : SG X tg g) (hb : SSs X W body f)
    (hs : ∀ x, foldedSetIterable iter X.env x = pure x := by intro _; rfl) : SS X W (.For tg iter body [] pos) (sFor it g f) := by
  refine PS.imp (ps_for hp hc hi hg hb hs) fun D σ H ⟨α, ρ, S, hE, hS, q⟩ => ⟨α, ρ, S, hE, hS, ?_⟩
  refine wpR_mono (wpS_ofR hE q) (fun t S0 h0 J H0 α0 x0 s0 ok => ?_) fun _ _ z => z
  cases t with
  | fix ds =>
    dsimp only at h0
    refine ⟨fun i m σ1 H1 => m = ds.length - i ∧ i ≤ ds.length ∧ ∃ α1 ρ1 S1, Ext α0 α1 H0 H1 ∧ RelE (rc X) α1 H1 ρ1 σ1 ∧ RelS (rc X) α1 H1 S1 ∧ wpS (rc X) W D α0 H0 (forL g f (ds.drop i) ρ1 S1),
      ⟨ds.length, by simp, Nat.zero_le _, α0, ρ, S0, .refl _ _, hE.mono x0, s0, by simpa using h0.ext x0⟩, ?_⟩
    rintro i m σ1 H1 ⟨rfl, hi, α1, ρ1, S1, x1, e1, s1, h1⟩
    obtain ⟨ok1, ok2⟩ := ok H1 x1.le i
    by_cases hlt : i < ds.length
    · have hd : ds[i]? = some ds[i] := by simp [hlt]
      obtain ⟨go, yl⟩ := ok1 _ hd
      have hdrop : ds.drop i = ds[i] :: ds.drop (i + 1) := List.drop_eq_getElem_cons hlt
      rw [hdrop] at h1
      refine .inr ⟨go, fun σ2 H2 => ∃ α2 ρ2 S2, Ext α0 α2 H0 H2 ∧ RelE (rc X) α2 H2 ρ2 σ2 ∧ RelS (rc X) α2 H2 S2 ∧ wpS (rc X) W D α0 H0 (forL g f (ds.drop (i + 1)) ρ2 S2), ?_, fun x H2 y => ?_⟩
      · rintro σ2 H2 ⟨α2, ρ2, S2, x2, e2, s2, h2⟩
        exact ⟨ds.length - (i + 1), by omega, rfl, hlt, α2, ρ2, S2, x2, e2, s2, h2⟩
      · obtain ⟨sm, rd⟩ := yl x H2 y
        have x12 : Ext α1 α1 H1 H2 := .of_same sm
        exact step_ok (x1.trans x12) (e1.mono x12) (s1.same sm) rd h1 fun ρ3 S3 h3 σ3 H3 α3 x3 e3 s3 => ⟨α3, ρ3, S3, x3, e3, s3, h3⟩
    · have hi2 : i = ds.length := by omega
      subst hi2
      refine .inl ⟨ok2 (by simp), ?_⟩
      rw [List.drop_length] at h1
      exact h1 σ1 H1 α1 x1 e1 s1
  | at_ n =>
    dsimp only at h0
    obtain ⟨a, ea, rfl⟩ := ok
    refine ⟨fun i m σ1 H1 => ∃ α1 ρ1 S1, Ext α0 α1 H0 H1 ∧ RelE (rc X) α1 H1 ρ1 σ1 ∧ RelS (rc X) α1 H1 S1 ∧ wpS (rc X) W D α0 H0 (forN g f n m i ρ1 S1),
      ⟨lenAt S0 n, α0, ρ, S0, .refl _ _, hE.mono x0, s0, h0.ext x0⟩, ?_⟩
    rintro i m σ1 H1 ⟨α1, ρ1, S1, x1, e1, s1, h1⟩
    have h2 := h1
    rw [forN.eq_def] at h2
    dsimp only at h2
    cases hn : S1[n]? with
    | none => rw [hn] at h2; exact h2.elim
    | some o =>
      cases o with
      | none => rw [hn] at h2; exact h2.elim
      | some ds =>
        rw [hn] at h2
        dsimp only at h2
        obtain ⟨b, xs, eb, hb, r⟩ := s1.at_ n ds hn
        have eb' := pre_get x1.pre ea
        rw [eb'] at eb
        cases eb
        have sq : SqL X.K H1 a xs := .inl (.inl hb)
        cases hd : ds[i]? with
        | none =>
          rw [hd] at h2
          refine .inl ⟨⟨xs, sq, ?_⟩, h2 σ1 H1 α1 x1 e1 s1⟩
          rw [← r.length]
          exact List.getElem?_eq_none_iff.mp hd
        | some d =>
          rw [hd] at h2
          cases m with
          | zero => exact h2.elim
          | succ k =>
            obtain ⟨x, ex, rx⟩ := r.get hd
            refine .inr ⟨⟨xs, x, sq, ex⟩, fun σ2 H2 => ∃ α2 ρ2 S2, Ext α0 α2 H0 H2 ∧ RelE (rc X) α2 H2 ρ2 σ2 ∧ RelS (rc X) α2 H2 S2 ∧ wpS (rc X) W D α0 H0 (forN g f n k (i + 1) ρ2 S2), ?_, fun y H2 yy => ?_⟩
            · rintro σ2 H2 ⟨α2, ρ2, S2, x2, e2, s2, h3⟩
              exact ⟨k, by omega, α2, ρ2, S2, x2, e2, s2, h3⟩
            · obtain ⟨rfl, fy⟩ := yy
              have ey := fy xs sq
              rw [ex] at ey
              cases ey
              exact step_ok x1 e1 s1 rx h2 fun ρ3 S3 h3 σ3 H3 α3 x3 e3 s3 => ⟨α3, ρ3, S3, x3, e3, s3, h3⟩
def whM (t : TM) (body : SM) : Nat → MEnv → Sto → RS
  | 0, _, _ => .bad
  | k + 1, ρ, S => ofR (t ρ S) ρ fun b S1 => if b = true then onward (body ρ S1) (whM t body k) else .nx ρ S1
theorem ss_while {c : Expr} {body : List Stmt} {t : TM} {f : SM} (n : Nat) (hp : PassesOwn (model X.prog X.w) X.A X.env X.xe) (hc : ST X W c t) (hb : SSs X W body f) : SS X W (.While c body [] pos) (whM t f n) := by
  refine PS.imp (ps_while hp hc hb) fun D σ H ⟨α, ρ, S, hE, hS, q⟩ => ?_
  refine ⟨fun m σ1 H1 => ∃ α1 ρ1 S1, RelE (rc X) α1 H1 ρ1 σ1 ∧ RelS (rc X) α1 H1 S1 ∧ wpS (rc X) W D α1 H1 (whM t f m ρ1 S1), ⟨n, α, ρ, S, hE, hS, q⟩, ?_⟩
  rintro m σ1 H1 ⟨α1, ρ1, S1, e1, s1, h1⟩
  cases m with
  | zero => exact h1.elim
  | succ k =>
    have h2 : wpS (rc X) W D α1 H1 (ofR (t ρ1 S1) ρ1 fun b S2 => if b = true then onward (f ρ1 S2) (whM t f k) else .nx ρ1 S2) := h1
    refine ⟨α1, ρ1, S1, e1, s1, ?_⟩
    refine wpR_mono (wpS_ofR e1 h2) (fun b S2 h3 H2 α2 x2 s2 => ?_) fun _ _ z => z
    cases b with
    | true =>
      refine iteT ⟨fun σ3 H3 => ∃ α3 ρ3 S3, RelE (rc X) α3 H3 ρ3 σ3 ∧ RelS (rc X) α3 H3 S3 ∧ wpS (rc X) W D α3 H3 (whM t f k ρ3 S3), fun σ3 H3 ⟨α3, ρ3, S3, e3, s3, h4⟩ => ⟨k, by omega, α3, ρ3, S3, e3, s3, h4⟩, ?_⟩
      exact ⟨α2, ρ1, S2, e1.mono x2, s2, wpS.ext x2 (onward_ok h3 fun ρ3 S3 h4 σ3 H3 α3 x3 e3 s3 => ⟨α3, ρ3, S3, e3, s3, h4.ext x3⟩)⟩
    | false => exact iteF (h3 σ1 H2 α2 x2 (e1.mono x2) s2)
end
end M

namespace M
open PySem PySem.Spec PyProof.Rows L2

/-! ### what is walked -/
section
variable {X : Cx} {W : WX} {tg e : Expr}
theorem ItOk.listF {c : RC} {α : List Addr} {H : Hp} {a : Addr} {xs : List V} {ds : List D} (h : KlL c.K H a xs) (r : Reps c H ds xs) : ItOk c α (Itl c.K a) H (.fix ds) := by
  intro H1 l i
  have sq : SqL c.K H1 a xs := (l.klL h).seq
  refine ⟨fun d hd => ?_, fun hn => ⟨xs, sq, by rw [← r.length]; exact List.getElem?_eq_none_iff.mp hn⟩⟩
  obtain ⟨x, ex, rx⟩ := r.get hd
  refine ⟨⟨xs, x, sq, ex⟩, fun y H2 ⟨e2, f⟩ => ?_⟩
  subst e2
  have e3 := f xs sq
  rw [ex] at e3
  cases e3
  exact ⟨Same.refl _, rx.mono l⟩
theorem ItOk.tup {c : RC} {α : List Addr} {H : Hp} {a : Addr} {xs : List V} {ds : List D} (h : SqT c.K H a xs) (r : Reps c H ds xs) : ItOk c α (Itt c.K a) H (.fix ds) := by
  intro H1 l i
  have sq : SqT c.K H1 a xs := l.sqT h
  refine ⟨fun d hd => ?_, fun hn => ⟨xs, sq, by rw [← r.length]; exact List.getElem?_eq_none_iff.mp hn⟩⟩
  obtain ⟨x, ex, rx⟩ := r.get hd
  refine ⟨⟨xs, x, sq, ex⟩, fun y H2 ⟨e2, f⟩ => ?_⟩
  subst e2
  have e3 := f xs sq
  rw [ex] at e3
  cases e3
  exact ⟨Same.refl _, rx.mono l⟩
def chars (x : PySem.Str) : List D := x.cps.toList.map fun n => .str ⟨#[n]⟩
theorem ItOk.str {c : RC} {α : List Addr} {H : Hp} {x : PySem.Str} : ItOk c α (Its x) H (.fix (chars x)) := by
  intro H1 l i
  refine ⟨fun d hd => ?_, fun hn => ?_⟩
  · unfold chars at hd
    rw [List.getElem?_map] at hd
    cases q : x.cps.toList[i]? with
    | none => rw [q] at hd; cases hd
    | some n =>
      rw [q] at hd
      cases hd
      have q2 : x.cps[i]? = some n := by simpa using q
      refine ⟨(Array.getElem?_eq_some_iff.mp q2).1, fun y H2 ⟨e2, n2, e3, e4⟩ => ?_⟩
      subst e2
      rw [q2] at e3
      cases e3
      exact ⟨Same.refl _, by simp only [Rep]; exact e4⟩
  · unfold chars at hn
    have := List.getElem?_eq_none_iff.mp hn
    rw [List.length_map] at this
    show x.cps.size ≤ i
    simpa using this
/-- a list, a tuple, a text -/
def mIt (f : VM) : IM := fun ρ S => (mFz f ρ S).bind fun x S1 => match x with
  | .v (.lst ds) => .ok (.fix ds) S1
  | .v (.kl ds) => .ok (.fix ds) S1
  | .v (.tup ds) => .ok (.fix ds) S1
  | .v (.str z) => .ok (.fix (chars z)) S1
  | .l n => (match S1[n]? with
    | some (some _) => .ok (.at_ n) S1
    | _ => .bad)
  | _ => .bad
theorem si_any {f : VM} (h : SV X W e f) : SI X W tg e (mIt f) := by
  refine ⟨fun pins s σ H Rw I ⟨α, ρ, S, hE, hS, q⟩ => ?_⟩
  have q2 := q
  unfold mIt at q2
  -- which of them it is, is known ahead
  cases hf : mFz f ρ S with
  | bad =>
    rw [hf] at q2
    exact q2.elim
  | er e' S1 =>
    rw [hf] at q2
    refine (pi_list (tg := tg) (sv_fz h)).run pins s σ H Rw I ⟨α, ρ, S, hE, hS, ?_⟩
    rw [hf]
    exact q2
  | ok x S1 =>
    rw [hf] at q2
    have q3 : wpR (match x with
      | .v (.lst ds) => R.ok (Items.fix ds) S1
      | .v (.kl ds) => .ok (.fix ds) S1
      | .v (.tup ds) => .ok (.fix ds) S1
      | .v (.str z) => .ok (.fix (chars z)) S1
      | .l n => (match S1[n]? with
        | some (some _) => .ok (.at_ n) S1
        | _ => .bad)
      | _ => .bad) _ _ := q2
    cases x with
    | n ds => exact q3.elim
    | l n =>
      dsimp only at q3
      refine (pi_list (tg := tg) (sv_fz h)).run pins s σ H Rw I ⟨α, ρ, S, hE, hS, ?_⟩
      rw [hf]
      cases hn : S1[n]? with
      | none => rw [hn] at q3; exact q3.elim
      | some o =>
        cases o with
        | none => rw [hn] at q3; exact q3.elim
        | some ds =>
          rw [hn] at q3
          intro v H1 α1 x1 s1 r1 f1
          obtain ⟨a, e1, rfl⟩ := r1
          obtain ⟨b, xs, e2, ea, r⟩ := s1.at_ n ds hn
          rw [e1] at e2
          cases e2
          exact ⟨a, rfl, ⟨xs, .inl (.inl ea)⟩, q3 _ H1 α1 x1 s1 ⟨a, e1, rfl⟩⟩
    | v d =>
      cases d with
      | lst ds =>
        refine (pi_list (tg := tg) (sv_fz h)).run pins s σ H Rw I ⟨α, ρ, S, hE, hS, ?_⟩
        rw [hf]
        intro v H1 α1 x1 s1 r1 f1
        have r1' : Rep (rc X) H1 (.lst ds) v := r1
        simp only [Rep] at r1'
        obtain ⟨a, xs, rfl, q, r⟩ := r1'
        exact ⟨a, rfl, ⟨xs, .inl q.rd⟩, q3 _ H1 α1 x1 s1 (.listF (.inl q) r)⟩
      | kl ds =>
        refine (pi_list (tg := tg) (sv_fz h)).run pins s σ H Rw I ⟨α, ρ, S, hE, hS, ?_⟩
        rw [hf]
        intro v H1 α1 x1 s1 r1 f1
        have r1' : Rep (rc X) H1 (.kl ds) v := r1
        simp only [Rep] at r1'
        obtain ⟨a, xs, rfl, q, r⟩ := r1'
        exact ⟨a, rfl, ⟨xs, q.seq⟩, q3 _ H1 α1 x1 s1 (.listF q r)⟩
      | tup ds =>
        refine (pi_tup (tg := tg) (sv_fz h)).run pins s σ H Rw I ⟨α, ρ, S, hE, hS, ?_⟩
        rw [hf]
        intro v H1 α1 x1 s1 r1 f1
        have r1' : Rep (rc X) H1 (.tup ds) v := r1
        simp only [Rep] at r1'
        obtain ⟨a, xs, rfl, q, r⟩ := r1'
        exact ⟨a, rfl, ⟨xs, q⟩, q3 _ H1 α1 x1 s1 (.tup q r)⟩
      | str z =>
        refine (pi_str (tg := tg) (sv_fz h)).run pins s σ H Rw I ⟨α, ρ, S, hE, hS, ?_⟩
        rw [hf]
        intro v H1 α1 x1 s1 r1 f1
        have r1' : Rep (rc X) H1 (.str z) v := r1
        simp only [Rep] at r1'
        exact ⟨z, r1', q3 _ H1 α1 x1 s1 .str⟩
      | _ => exact q3.elim
/-- lo, lo + 1, .. -/
def upto (lo : Int) (n : Nat) : List D := (List.range n).map fun i => .int (lo + (i : Nat))
theorem upto_get {lo : Int} {n i : Nat} {d : D} (h : (upto lo n)[i]? = some d) : i < n ∧ d = .int (lo + (i : Nat)) := by
  unfold upto at h
  rw [List.getElem?_map] at h
  by_cases hi : i < n
  · rw [List.getElem?_range hi] at h
    cases h
    exact ⟨hi, rfl⟩
  · rw [List.getElem?_eq_none (by simpa using hi)] at h
    cases h
theorem upto_none {lo : Int} {n i : Nat} (h : (upto lo n)[i]? = none) : n ≤ i := by
  have := List.getElem?_eq_none_iff.mp h
  simpa [upto] using this
theorem ItOk.rng {c : RC} {α : List Addr} {H : Hp} {lo : Int} {n : Nat} : ItOk c α (Itr lo n) H (.fix (upto lo n)) := by
  intro H1 l i
  refine ⟨fun d hd => ?_, fun hn => upto_none hn⟩
  obtain ⟨hi, rfl⟩ := upto_get hd
  exact ⟨hi, fun x H2 ⟨e1, e2⟩ => ⟨by subst e1; exact Same.refl _, by simp only [Rep]; exact e2⟩⟩
def fits62 (i : Int) : Bool := decide (-4611686018427387904 ≤ i) && decide (i < 4611686018427387904)
theorem fits62_of {i : Int} (h : fits62 i = true) : -(2 ^ 62) ≤ i ∧ i < 2 ^ 62 := by
  unfold fits62 at h
  rw [Bool.and_eq_true, decide_eq_true_eq, decide_eq_true_eq] at h
  exact ⟨by omega, by omega⟩
def rng1 (xs : List Val) (S : Sto) : R Items := match xs with
  | [.v (.int j)] => if fits62 j then .ok (.fix (upto 0 j.toNat)) S else .bad
  | _ => .bad
def rng2 (xs : List Val) (S : Sto) : R Items := match xs with
  | [.v (.int i), .v (.int j)] => if fits62 i && fits62 j then .ok (.fix (upto i (j - i).toNat)) S else .bad
  | _ => .bad
def mRng (k : List Val → Sto → R Items) (g : AM) : IM := fun ρ S => (g ρ S).bind k
theorem RepAs.one {c : RC} {α : List Addr} {H : Hp} {x : Val} {vs : List V} (r : RepAs c α H [x] vs) : ∃ v, vs = [v] ∧ RepA c α H x v := by
  cases r with
  | cons h t =>
    cases t
    exact ⟨_, rfl, h⟩
theorem RepAs.two {c : RC} {α : List Addr} {H : Hp} {x y : Val} {vs : List V} (r : RepAs c α H [x, y] vs) : ∃ v w, vs = [v, w] ∧ RepA c α H x v ∧ RepA c α H y w := by
  cases r with
  | cons h t =>
    obtain ⟨w, rfl, hw⟩ := t.one
    exact ⟨_, w, rfl, h, hw⟩
theorem RepAs.three {c : RC} {α : List Addr} {H : Hp} {x y z : Val} {vs : List V} (r : RepAs c α H [x, y, z] vs) : ∃ v w u, vs = [v, w, u] ∧ RepA c α H x v ∧ RepA c α H y w ∧ RepA c α H z u := by
  cases r with
  | cons h t =>
    obtain ⟨w, u, rfl, hw, hu⟩ := t.two
    exact ⟨_, w, u, rfl, h, hw, hu⟩
theorem RepA.int {c : RC} {α : List Addr} {H : Hp} {i : Int} {v : V} (r : RepA c α H (.v (.int i)) v) : v = .int i := by
  have r' : Rep c H (.int i) v := r
  simp only [Rep] at r'
  exact r'
theorem si_rng1 {g : AM} {a : Expr} (h : PI X tg e (iRng1 (tA (rc X) W g))) : SI X W tg e (mRng rng1 g) := by
  refine PI.imp h fun σ H R ⟨α, ρ, S, hE, hS, q⟩ => ⟨α, ρ, S, hE, hS, ?_⟩
  refine wpR_mono (wpR_bind q) (fun xs S1 h1 vs H1 α1 x1 s1 r1 => ?_) fun _ _ z => z
  unfold rng1 at h1
  split at h1
  · rename_i j
    by_cases hf : fits62 j = true
    · rw [if_pos hf] at h1
      obtain ⟨v, rfl, hv⟩ := r1.one
      have := hv.int
      subst this
      obtain ⟨f1, f2⟩ := fits62_of hf
      exact ⟨j, rfl, f1, f2, h1 _ H1 α1 x1 s1 .rng⟩
    · rw [if_neg hf] at h1
      exact h1.elim
  · exact h1.elim
theorem si_rng2 {g : AM} {a : Expr} (h : PI X tg e (iRng2 (tA (rc X) W g))) : SI X W tg e (mRng rng2 g) := by
  refine PI.imp h fun σ H R ⟨α, ρ, S, hE, hS, q⟩ => ⟨α, ρ, S, hE, hS, ?_⟩
  refine wpR_mono (wpR_bind q) (fun xs S1 h1 vs H1 α1 x1 s1 r1 => ?_) fun _ _ z => z
  unfold rng2 at h1
  split at h1
  · rename_i i j
    by_cases hf : (fits62 i && fits62 j) = true
    · rw [if_pos hf] at h1
      rw [Bool.and_eq_true] at hf
      obtain ⟨v, w, rfl, hv, hw⟩ := r1.two
      have := hv.int
      subst this
      have := hw.int
      subst this
      obtain ⟨f1, f2⟩ := fits62_of hf.1
      obtain ⟨f3, f4⟩ := fits62_of hf.2
      exact ⟨i, j, rfl, ⟨f1, f2, f3, f4⟩, h1 _ H1 α1 x1 s1 .rng⟩
    · rw [if_neg hf] at h1
      exact h1.elim
  · exact h1.elim

/-! ### targets of a comprehension: own names alone -/
abbrev GP := D → MEnv → Option MEnv
abbrev GPs := List D → MEnv → Option MEnv
def wpO {α : Type} (r : Option α) (k : α → Prop) : Prop := match r with
  | some a => k a
  | none => False
def tGw (c : RC) (vs : List Nat) (f : GP) : TG := fun v σ H Q => ∃ α ρ d, RelE c α H ρ σ ∧ Rep c H d v ∧ wpO (f d ρ) fun ρ' => ∀ σ', L2.wipe σ' vs = L2.wipe σ vs → RelE c α H ρ' σ' → Q σ' H
def tGsw (c : RC) (ws : List Nat) (f : GPs) : TGs := fun vs σ H Q => ∃ α ρ ds, RelE c α H ρ σ ∧ Reps c H ds vs ∧ wpO (f ds ρ) fun ρ' => ∀ σ', L2.wipe σ' ws = L2.wipe σ ws → RelE c α H ρ' σ' → Q σ' H
def SGw (X : Cx) (vs : List Nat) (tg : Expr) (f : GP) : Prop := PG X tg (tGw (rc X) vs f)
def SGsw (X : Cx) (vs : List Nat) (tgs : List Expr) (f : GPs) : Prop := PGs X tgs (tGsw (rc X) vs f)
theorem wipe_get (τ : L2.St) (vs : List Nat) (j : Nat) : (L2.wipe τ vs)[j]? = if j ∈ vs then (τ[j]?).map (fun _ => none) else τ[j]? := by
  induction vs with
  | nil => simp [L2.wipe]
  | cons v vs ih =>
    unfold L2.wipe
    by_cases hj : v = j
    · subst hj
      rw [List.getElem?_set, if_pos rfl, if_pos List.mem_cons_self, L2.wipe_length]
      by_cases hl : v < τ.length
      · rw [if_pos hl, List.getElem?_eq_getElem hl]
        rfl
      · rw [if_neg hl, List.getElem?_eq_none (by omega)]
        rfl
    · rw [List.getElem?_set_ne hj, ih]
      by_cases hm : j ∈ vs
      · rw [if_pos hm, if_pos (List.mem_cons_of_mem _ hm)]
      · rw [if_neg hm, if_neg (by
          intro z
          rcases List.mem_cons.mp z with z | z
          · exact hj z.symm
          · exact hm z)]
theorem wipe_set' {σ : L2.St} {i : Nat} {x : Option V} {vs : List Nat} (hi : i ∈ vs) : L2.wipe (σ.set i x) vs = L2.wipe σ vs := by
  apply List.ext_getElem?
  intro j
  rw [wipe_get, wipe_get]
  by_cases hm : j ∈ vs
  · rw [if_pos hm, if_pos hm]
    by_cases hij : i = j
    · subst hij
      rw [List.getElem?_set, if_pos rfl]
      by_cases hl : i < σ.length
      · rw [if_pos hl, List.getElem?_eq_getElem hl]
        rfl
      · rw [if_neg hl, List.getElem?_eq_none (by omega)]
    · rw [List.getElem?_set_ne hij]
  · rw [if_neg hm, if_neg hm]
    have hij : i ≠ j := fun e => hm (e ▸ hi)
    rw [List.getElem?_set_ne hij]
theorem wipe_wipe {σ : L2.St} {vs : List Nat} : L2.wipe (L2.wipe σ vs) vs = L2.wipe σ vs := by
  apply List.ext_getElem?
  intro j
  rw [wipe_get, wipe_get]
  by_cases hm : j ∈ vs
  · rw [if_pos hm, if_pos hm]
    cases σ[j]? <;> rfl
  · rw [if_neg hm]
def pN (i : Nat) : GP := fun d ρ => some (ρ.set i (some (.v d)))
def psN : GPs := fun ds ρ => match ds with
  | [] => some ρ
  | _ => none
def psC (f : GP) (g : GPs) : GPs := fun ds ρ => match ds with
  | d :: r => (f d ρ).bind fun ρ1 => g r ρ1
  | [] => none
def pT (n : Nat) (g : GPs) : GP := fun d ρ => match d with
  | .tup ds => if ds.length = n then g ds ρ else none
  | _ => none
theorem sgw_name {i : Nat} {vs : List Nat} (hi : i ∈ vs) (h : PG X e (gName i)) : SGw X vs e (pN i) := by
  refine PG.imp h fun v σ H Q ⟨α, ρ, d, hE, r, q⟩ => ?_
  exact q _ (wipe_set' hi) (hE.set (x := .v d) r i)
theorem sgsw_nil {vs : List Nat} : SGsw X vs [] psN := by
  refine PGs.imp pgs_nil fun ws σ H Q ⟨α, ρ, ds, hE, r, q⟩ => ?_
  cases ds with
  | nil =>
    simp only [Reps] at r
    exact ⟨r, q σ rfl hE⟩
  | cons d r => exact q.elim
theorem sgsw_cons {vs : List Nat} {es : List Expr} {f : GP} {g : GPs} (h : SGw X vs e f) (t : SGsw X vs es g) (hs : (assignEach (e :: es) X.env).map (·.2) = assign e X.env :: (assignEach es X.env).map (·.2) := by rfl) : SGsw X vs (e :: es) (psC f g) := by
  refine PGs.imp (pgs_cons h t hs) fun ws σ H Q ⟨α, ρ, ds, hE, r, q⟩ => ?_
  cases ds with
  | nil => exact q.elim
  | cons d ds =>
    simp only [Reps] at r
    obtain ⟨v, vs', rfl, r1, r2⟩ := r
    refine ⟨v, vs', rfl, α, ρ, d, hE, r1, ?_⟩
    unfold psC at q
    dsimp only at q
    cases hf : f d ρ with
    | none => rw [hf] at q; exact q.elim
    | some ρ1 =>
      rw [hf] at q
      intro σ1 w1 e1
      refine ⟨α, ρ1, ds, e1, r2, ?_⟩
      have q' : wpO (g ds ρ1) fun ρ' => ∀ σ', L2.wipe σ' vs = L2.wipe σ vs → RelE (rc X) α H ρ' σ' → Q σ' H := q
      cases hg : g ds ρ1 with
      | none => rw [hg] at q'; exact q'.elim
      | some ρ2 =>
        rw [hg] at q'
        exact fun σ2 w2 e2 => q' σ2 (w2.trans w1) e2
theorem sgw_tup {vs : List Nat} {es : List Expr} {k n : Nat} {g : GPs} {pos : Pos} (hc : X.calm = true) (h : SGsw X vs es g) (hn : (assignEach es X.env).length = n := by rfl) (hst : (assignEach es X.env).findIdx? (·.1) = none := by rfl) : SGw X vs (.Tuple es k pos) (pT n g) := by
  refine PG.imp (pg_tup hc h hn hst) fun v σ H Q ⟨α, ρ, d, hE, r, q⟩ => ?_
  cases d with
  | tup ds =>
    simp only [Rep] at r
    obtain ⟨a, xs, rfl, sq, r⟩ := r
    unfold pT at q
    dsimp only at q
    by_cases hl : ds.length = n
    · rw [if_pos hl] at q
      exact ⟨a, xs, rfl, sq, by rw [← r.length]; exact hl, α, ρ, ds, hE, r, q⟩
    · rw [if_neg hl] at q
      exact q.elim
  | _ => exact q.elim

/-! ### comprehensions -/
/-- within a comprehension nothing may be raised -/
abbrev W0 : WX := fun _ _ _ _ => False
def lcTurn (ρ : MEnv) (g : GP) (tt : TM) (te : VM) (d : D) (acc : List D) (S : Sto) (k : List D → Sto → R Val) : R Val := match g d ρ with
  | none => .bad
  | some ρ1 => (match tt ρ1 S with
    | .ok b S2 => if b = true then (match te ρ1 S2 with
      | .ok (.v y) S3 => if acc.length < lim then k (acc ++ [y]) S3 else .bad
      | _ => .bad) else k acc S2
    | _ => .bad)
def lcL (ρ : MEnv) (g : GP) (tt : TM) (te : VM) : List D → List D → Sto → R Val
  | [], acc, S => .ok (.n acc) S
  | d :: ds, acc, S => lcTurn ρ g tt te d acc S (lcL ρ g tt te ds)
def lcN (ρ : MEnv) (g : GP) (tt : TM) (te : VM) (n : Nat) : Nat → Nat → List D → Sto → R Val
  | k, i, acc, S => match S[n]? with
    | some (some ds) => (match ds[i]? with
      | none => .ok (.n acc) S
      | some d => (match k with
        | 0 => .bad
        | k + 1 => lcTurn ρ g tt te d acc S (lcN ρ g tt te n k (i + 1))))
    | _ => .bad
def mLC (it : IM) (g : GP) (tt : TM) (te : VM) (vs : List Nat) : VM := fun ρ S => (it ρ S).bind fun t S1 => match t with
  | .fix ds => lcL (wipeM ρ vs) g tt te ds [] S1
  | .at_ n => lcN (wipeM ρ vs) g tt te n (lenAt S1 n) 0 [] S1
def mYes : TM := fun _ S => .ok true S
theorem lcTurn_ok {c : RC} {d : D} {vs : List Nat} {α0 α1 : List Addr} {H0 H1 : Hp} {D' : Addr} {ρ : MEnv} {g : GP} {tt : TM} {te : VM} {acc : List D} {xs : List V} {S : Sto} {σ : L2.St} {x : V} {k : List D → Sto → R Val} {er : Exc → Sto → Prop} {fin : Val → Sto → Prop} {Nx : Hp → Prop}
    (hD : H0 D' = none) (x1 : Ext α0 α1 H0 H1) (nD : D' ∉ α1) (eD : H1 D' = some (.lst xs)) (e1 : RelE c α1 H1 ρ (L2.wipe σ vs)) (s1 : RelS c α1 H1 S) (ra : Reps c H1 acc xs) (rd : Rep c H1 d x)
    (h : wpR (lcTurn ρ g tt te d acc S k) fin er)
    (hN : ∀ acc' S' xs' H' α', wpR (k acc' S') fin er → Ext α0 α' H0 H' → D' ∉ α' → H' D' = some (.lst xs') → RelS c α' H' S' → Reps c H' acc' xs' → Nx H') :
    tGw c vs g x (L2.wipe σ vs) H1 fun σ2 H2 => L2.wipe σ2 vs = L2.wipe σ vs ∧ tT c W0 tt σ2 H2 fun b H3 =>
      if b = true then tV c W0 te σ2 H3 fun y H4 => ∃ acc, H4 D' = some (.lst acc) ∧ acc.length < sizeLine ∧ Nx (upd H4 D' (.lst (acc ++ [y]))) else Nx H3 := by
  unfold lcTurn at h
  refine ⟨α1, ρ, d, e1, rd, ?_⟩
  cases hg : g d ρ with
  | none => rw [hg] at h; exact h.elim
  | some ρ1 =>
    rw [hg] at h
    dsimp only at h
    intro σ2 w2 e2
    refine ⟨w2.trans wipe_wipe, α1, ρ1, S, e2, s1, ?_⟩
    cases ht : tt ρ1 S with
    | bad => rw [ht] at h; exact h.elim
    | er e S2 => rw [ht] at h; exact h.elim
    | ok b S2 =>
      rw [ht] at h
      dsimp only at h
      intro H3 α3 x3 s3
      have eD3 : H3 D' = some (.lst xs) := x3.fr _ _ eD nD
      have nD3 : D' ∉ α3 := fun hm => by
        have := x3.nw _ hm nD
        rw [eD] at this
        cases this
      cases b with
      | false =>
        rw [if_neg Bool.false_ne_true] at h
        exact iteF (hN acc S2 xs H3 α3 h (x1.trans x3) nD3 eD3 s3 (ra.mono x3.le))
      | true =>
        rw [if_pos rfl] at h
        refine iteT ⟨α3, ρ1, S2, e2.mono x3, s3, ?_⟩
        cases hv : te ρ1 S2 with
        | bad => rw [hv] at h; exact h.elim
        | er e S4 => rw [hv] at h; exact h.elim
        | ok z S4 =>
          rw [hv] at h
          cases z with
          | l n => exact h.elim
          | n ds => exact h.elim
          | v y =>
            dsimp only at h
            by_cases hl : acc.length < lim
            · rw [if_pos hl] at h
              intro v H4 α4 x4 s4 r4 f4
              have eD4 : H4 D' = some (.lst xs) := x4.fr _ _ eD3 nD3
              have nD4 : D' ∉ α4 := fun hm => by
                have := x4.nw _ hm nD3
                rw [eD3] at this
                cases this
              have x14 : Ext α0 α4 H0 H4 := (x1.trans x3).trans x4
              have le5 : LeH H4 (upd H4 D' (.lst (xs ++ [v]))) := fun b => ⟨fun ys q => by rw [upd_ne (fun z => by rw [z, eD4] at q; cases q)]; exact q, fun u w q => by rw [upd_ne (fun z => by rw [z, eD4] at q; cases q)]; exact q⟩
              refine ⟨xs, eD4, by rw [← ra.length, lim_eq]; exact hl, hN (acc ++ [y]) S4 (xs ++ [v]) _ α4 h ⟨x14.pre, fun b u q nb => ?_, x14.nw, x14.le.trans le5⟩ nD4 upd_same ?_ ?_⟩
              · have hb : b ≠ D' := fun z => by rw [z, hD] at q; cases q
                rw [upd_ne hb]
                exact x14.fr b u q nb
              · refine ⟨s4.len, s4.nd, fun b hb => ?_, fun n ds q => ?_⟩
                · have hb' : b ≠ D' := fun z => nD4 (z ▸ hb)
                  rw [upd_ne hb']
                  exact s4.tr b hb
                · obtain ⟨b, ys, q1, q2, r⟩ := s4.at_ n ds q
                  have hb' : b ≠ D' := fun z => nD4 (z ▸ List.mem_of_getElem? q1)
                  exact ⟨b, ys, q1, by rw [upd_ne hb']; exact q2, r.mono le5⟩
              · exact ((ra.mono (x3.le.trans x4.le)).append (.one r4)).mono le5
            · rw [if_neg hl] at h
              exact h.elim
theorem lc_of {it : IM} {g : GP} {tt : TM} {te : VM} {vs : List Nat} {σ : L2.St} {H : Hp} {Q : VK} (h : tV (rc X) W (mLC it g tt te vs) σ H Q) : tLc (tI (rc X) W it) (tGw (rc X) vs g) (tT (rc X) W0 tt) (tV (rc X) W0 te) vs σ H Q := by
  obtain ⟨α, ρ, S, hE, hS, q⟩ := h
  refine ⟨α, ρ, S, hE, hS, ?_⟩
  refine wpR_mono (wpR_bind q) (fun t S0 h0 J H0 α0 x0 s0 ok Dd hDd => ?_) fun _ _ z => z
  have hD : H0 Dd = none := hDd
  have nD : Dd ∉ α0 := s0.new hD
  have smD : Same H0 (upd H0 Dd (.lst [])) := same_upd hD
  have fD : H Dd = none := by
    cases q : H Dd with
    | none => rfl
    | some o =>
      by_cases hm : Dd ∈ α
      · obtain ⟨β, rfl⟩ := x0.pre
        exact absurd (List.mem_append_left _ hm) nD
      · have := x0.fr _ _ q hm
        rw [hD] at this
        cases this
  -- the end
  have fin : ∀ {acc : List D} {S1 : Sto} {xs : List V} {H1 : Hp} {α1 : List Addr}, okV (rc X) Q α H (.n acc) S1 → Ext α0 α1 H0 H1 → Dd ∉ α1 → H1 Dd = some (.lst xs) → RelS (rc X) α1 H1 S1 → Reps (rc X) H1 acc xs → Q (.ref Dd) H1 :=
    fun {acc S1 xs H1 α1} k x1 nd ed s1 r => k _ H1 α1 (x0.trans x1) s1 ⟨Dd, xs, rfl, ed, r, nd⟩ fun a e => by
      cases e
      exact fD
  cases t with
  | fix ds =>
    dsimp only at h0
    refine ⟨fun i m H1 => m = ds.length - i ∧ i ≤ ds.length ∧ ∃ α1 S1 acc xs, Ext α0 α1 H0 H1 ∧ Dd ∉ α1 ∧ H1 Dd = some (.lst xs) ∧ RelS (rc X) α1 H1 S1 ∧ Reps (rc X) H1 acc xs ∧ wpR (lcL (wipeM ρ vs) g tt te (ds.drop i) acc S1) (okV (rc X) Q α H) (okE (rc X) W σ α H),
      ⟨ds.length, by simp, Nat.zero_le _, α0, S0, [], [], .of_same smD, nD, upd_same, s0.same smD, .nil, by simpa using h0⟩, ?_⟩
    rintro i m H1 ⟨rfl, hi, α1, S1, acc, xs, x1, nd, ed, s1, ra, h1⟩
    obtain ⟨ok1, ok2⟩ := ok H1 x1.le i
    by_cases hlt : i < ds.length
    · have hd : ds[i]? = some ds[i] := by simp [hlt]
      obtain ⟨go, yl⟩ := ok1 _ hd
      have hdrop : ds.drop i = ds[i] :: ds.drop (i + 1) := List.drop_eq_getElem_cons hlt
      rw [hdrop] at h1
      refine .inr ⟨go, fun H2 => ∃ α2 S2 acc2 xs2, Ext α0 α2 H0 H2 ∧ Dd ∉ α2 ∧ H2 Dd = some (.lst xs2) ∧ RelS (rc X) α2 H2 S2 ∧ Reps (rc X) H2 acc2 xs2 ∧ wpR (lcL (wipeM ρ vs) g tt te (ds.drop (i + 1)) acc2 S2) (okV (rc X) Q α H) (okE (rc X) W σ α H), ?_, fun x H2 y => ?_⟩
      · rintro H2 ⟨α2, S2, acc2, xs2, z⟩
        exact ⟨ds.length - (i + 1), by omega, rfl, hlt, α2, S2, acc2, xs2, z⟩
      · obtain ⟨sm, rd⟩ := yl x H2 y
        have x12 : Ext α1 α1 H1 H2 := .of_same sm
        have hw : RelE (rc X) α1 H2 (wipeM ρ vs) (L2.wipe σ vs) := ((hE.mono x0).mono (x1.trans x12)).wipe vs
        exact lcTurn_ok (σ := σ) hD (x1.trans x12) nd (sm _ _ ed) hw (s1.same sm) (ra.mono x12.le) rd h1 fun acc' S' xs' H' α' z1 z2 z3 z4 z5 z6 => ⟨α', S', acc', xs', z2, z3, z4, z5, z6, z1⟩
    · have hi2 : i = ds.length := by omega
      subst hi2
      rw [List.drop_length] at h1
      exact .inl ⟨ok2 (by simp), fin h1 x1 nd ed s1 ra⟩
  | at_ n =>
    dsimp only at h0
    obtain ⟨a, ea, rfl⟩ := ok
    refine ⟨fun i m H1 => ∃ α1 S1 acc xs, Ext α0 α1 H0 H1 ∧ Dd ∉ α1 ∧ H1 Dd = some (.lst xs) ∧ RelS (rc X) α1 H1 S1 ∧ Reps (rc X) H1 acc xs ∧ wpR (lcN (wipeM ρ vs) g tt te n m i acc S1) (okV (rc X) Q α H) (okE (rc X) W σ α H),
      ⟨lenAt S0 n, α0, S0, [], [], .of_same smD, nD, upd_same, s0.same smD, .nil, h0⟩, ?_⟩
    rintro i m H1 ⟨α1, S1, acc, xs, x1, nd, ed, s1, ra, h1⟩
    have h2 := h1
    rw [lcN.eq_def] at h2
    dsimp only at h2
    cases hn : S1[n]? with
    | none => rw [hn] at h2; exact h2.elim
    | some o =>
      cases o with
      | none => rw [hn] at h2; exact h2.elim
      | some ds =>
        rw [hn] at h2
        dsimp only at h2
        obtain ⟨b, ys, eb, hb, r⟩ := s1.at_ n ds hn
        have eb' := pre_get x1.pre ea
        rw [eb'] at eb
        cases eb
        have sq : SqL X.K H1 a ys := .inl (.inl hb)
        cases hd : ds[i]? with
        | none =>
          rw [hd] at h2
          refine .inl ⟨⟨ys, sq, ?_⟩, fin h2 x1 nd ed s1 ra⟩
          rw [← r.length]
          exact List.getElem?_eq_none_iff.mp hd
        | some d =>
          rw [hd] at h2
          cases m with
          | zero => exact h2.elim
          | succ k =>
            obtain ⟨x, ex, rx⟩ := r.get hd
            refine .inr ⟨⟨ys, x, sq, ex⟩, fun H2 => ∃ α2 S2 acc2 xs2, Ext α0 α2 H0 H2 ∧ Dd ∉ α2 ∧ H2 Dd = some (.lst xs2) ∧ RelS (rc X) α2 H2 S2 ∧ Reps (rc X) H2 acc2 xs2 ∧ wpR (lcN (wipeM ρ vs) g tt te n k (i + 1) acc2 S2) (okV (rc X) Q α H) (okE (rc X) W σ α H), ?_, fun y H2 yy => ?_⟩
            · rintro H2 ⟨α2, S2, acc2, xs2, z⟩
              exact ⟨k, by omega, α2, S2, acc2, xs2, z⟩
            · obtain ⟨rfl, fy⟩ := yy
              have ey := fy ys sq
              rw [ex] at ey
              cases ey
              have hw : RelE (rc X) α1 H2 (wipeM ρ vs) (L2.wipe σ vs) := ((hE.mono x0).mono x1).wipe vs
              exact lcTurn_ok (σ := σ) hD x1 nd ed hw s1 ra rx h2 fun acc' S' xs' H' α' z1 z2 z3 z4 z5 z6 => ⟨α', S', acc', xs', z2, z3, z4, z5, z6, z1⟩
def STs (X : Cx) (W : WX) (ifs : List Expr) (f : TM) : Prop := PTs X ifs (tT (rc X) W f)
theorem PTs.imp {ifs : List Expr} {t t' : TT} (h : PTs X ifs t) (i : ∀ σ H Q, t' σ H Q → t σ H Q) : PTs X ifs t' := ⟨fun pins s σ H Q I q => h.run pins s σ H Q I (i σ H Q q)⟩
theorem sts_nil : STs X W [] mYes := PTs.imp pts_nil fun σ H Q ⟨α, ρ, S, hE, hS, q⟩ => q H α (.refl _ _) hS
theorem sts_one {f : TM} {c : Expr} (h : ST X W c f) : STs X W [c] f := pts_one h
end
end M

namespace M
open PySem PySem.Spec PyProof.Rows L2

/-! ### a def as a plain function -/
def okX (c : RC) (E : XK) (α : List Addr) (H : Hp) : Exc → Sto → Prop := fun e S => ∀ cls od H' α', Ext α α' H H' → RelS c α' H' S → ExcRep c H' e cls od → E cls od H'
def spM (c : RC) (g : MFn) : Sp := fun vs H Q E => ∃ α S xs, RelS c α H S ∧ RepAs c α H xs vs ∧ wpR (g xs S) (okV c Q α H) (okX c E α H)
/-- of a value at a def's end: b places stood at its beginning -/
def fin (b : Nat) (x : Val) (S : Sto) : R Val := match x with
  | .l n => if n < b then .ok (.l n) (S.take b) else (match S[n]? with
    | some (some ds) => .ok (.n ds) (S.take b)
    | _ => .bad)
  | x => .ok x (S.take b)
def leave (b : Nat) : RS → R Val
  | .nx _ S => fin b (.v .non) S
  | .rt x S => fin b x S
  | .er e _ S => .er e (S.take b)
  | _ => .bad
def noN : Val → Bool
  | .n _ => false
  | _ => true
def mkFn (np n : Nat) (body : SM) : MFn := fun xs S => if xs.length = np then leave S.length (body (xs.map some ++ List.replicate (n - np) none) S) else .bad

/-- FnOk where nothing is being shown (no guard is up) -/
structure FnG (P : Program) (w : World) (K : PySem.W.Frag) (mg : PySem.Str → Option Value) (base : Heap) (k : Nat) (f : Addr) (fd : FuncData) (ps : List PySem.Str) (sp : Sp) : Prop where
  len : ∀ vs H Q E, sp vs H Q E → vs.length = ps.length
  run : ∀ (A : Around) (outer : List Env) (s : Shared) (H : Hp) (args : Args) (us : List Value) (vs : List V) (Q : VK) (E : XK), Room k A → A.guards = some [] → Env0 P w K mg base A outer s H → BindsTo s fd args (ps.zip us) → Vals vs us → sp vs H Q E →
    codeAny (model P w) A (.call (.ref f) args) (CR (L2.CX P w) outer P w H s Q E) s
section
variable {P : Program} {w : World} {K : PySem.W.Frag} {mg : PySem.Str → Option Value} {base : Heap}
theorem FnG.mono {j k : Nat} {f : Addr} {fd : FuncData} {ps : List PySem.Str} {sp : Sp} (F : FnG P w K mg base j f fd ps sp) (h : j ≤ k) : FnG P w K mg base k f fd ps sp :=
  ⟨F.len, fun A outer s H args us vs Q E hr => F.run A outer s H args us vs Q E (hr.mono h)⟩
theorem FnG.imp {k : Nat} {f : Addr} {fd : FuncData} {ps : List PySem.Str} {sp sp' : Sp} (F : FnG P w K mg base k f fd ps sp) (h : ∀ vs H Q E, sp' vs H Q E → sp vs H Q E) : FnG P w K mg base k f fd ps sp' :=
  ⟨fun vs H Q E q => F.len vs H Q E (h _ _ _ _ q), fun A outer s H args us vs Q E hr hg he hb hv hs => F.run A outer s H args us vs Q E hr hg he hb hv (h _ _ _ _ hs)⟩
/-- the def at f, by its body -/
theorem fnG_of {k : Nat} {f : Addr} {name qual : PySem.Str} {params : Arguments} {body : List Stmt} {scope : Scope} {dV kV doc pm cdv ct oc : Value} {an od : Option Addr} {osl : Array (Option Value)} {N ps : List PySem.Str} {sp : Sp}
    (lk : K.lookup f = some ⟨oc, od, .func (PySem.W.fnOf name qual params body scope dV kV doc pm an cdv ct), osl⟩) (hcd : PySem.W.codeIn K cdv qual = true) (S : FnScope N ps scope) (len : ∀ vs H Q E, sp vs H Q E → vs.length = ps.length)
    (hbody : ∀ (A : Around) (outer : List Env) (s : Shared) (H : Hp) (vs : List V) (Q : VK) (E : XK), Room k (A.deeper (envOfC qual scope s.heap.objs.size f cdv)) → A.guards = some [] → sp vs H Q E →
      ∃ t, PSs (cxOf (L2.CX P w) P w K mg base N qual scope f cdv A outer s H E) body t ∧ t { nx := fun _ H' => Q .non H', rt := Q } (start N vs) H) :
    FnG P w K mg base (k + 1) f (PySem.W.fnOf name qual params body scope dV kV doc pm an cdv ct) ps sp := by
  refine ⟨len, fun A outer s H args us vs Q E hr hgd e0 hb rel hsp => ?_⟩
  have kin : K.In s.heap := e0.mod.kin.keeps fun b o q => (e0.bs b o q).1
  have nol : s.heap.NoLimit := e0.mod.nolimit.keeps fun b o q => (e0.bs b o q).1
  have slots : ∀ y ∈ ps.zip us, scope.names.lookup y.1 = some .local ∨ (scope.names.lookup y.1 = some .cell ∧ ((cellsFrom (s.heap.objs.size + 1) scope.names []).lookup y.1).isSome = true) := by
    rintro ⟨n, v⟩ hy
    rcases S.par n (List.of_mem_zip hy).1 with loc | cel
    · exact .inl loc
    · exact .inr ⟨cel, PySem.W.cellsFrom_some _ _ _ (.inl cel)⟩
  refine codeAny_call_function hr.depth (kin _ _ lk) rfl S.co S.gen rfl (PySem.W.codeRec_of kin hcd) (hb _ _ _ _ (wpAny_newFunctionEnv_cells S.kind slots fun env he s1 x => ?_))
  subst he
  obtain ⟨t, ht, hq⟩ := hbody A outer s H vs Q E (hr.deeper _) hgd hsp
  have I := inv_start (CX := L2.CX P w) (E := E) (f := f) (cd := cdv) (qual := qual) S hr.hd e0 (len _ _ _ _ hsp) rel x
  refine ⟨nol.keeps x.toInCall.keep, codeAny_func (wpAny_mono (ht.run [] s1 (start N vs) H _ I hq) (fun fl s' hs => ?_) fun e s' hs => hs)⟩
  cases fl with
  | ret u =>
    obtain ⟨v, σ', H', J, rv, q⟩ := hs
    exact ⟨v, H', J.os, J.bare, J.base, J.hok, rv, q⟩
  | next =>
    obtain ⟨σ', H', J, q⟩ := hs
    exact ⟨V.non, H', J.os, J.bare, J.base, J.hok, rfl, q⟩
  | brk =>
    obtain ⟨_, _, _, q⟩ := hs
    exact q.elim
  | cont =>
    obtain ⟨_, _, _, q⟩ := hs
    exact q.elim

/-! ### the end of a body -/
theorem fin_ok {c : RC} {Q : VK} {α : List Addr} {H : Hp} {x : Val} {S' : Sto} {er : Exc → Sto → Prop} (h : wpR (fin α.length x S') (okV c Q α H) er) :
    ∀ v H' α', Ext α α' H H' → RelS c α' H' S' → RepX c α' H' x v → Fresh H x v → Q v H' := by
  intro v H' α' xt s r f
  obtain ⟨β, rfl⟩ := xt.pre
  have x0 : Ext α α H H' := ⟨⟨[], by simp⟩, xt.fr, fun a h n => absurd h n, xt.le⟩
  have hb : α.length ≤ S'.length := by rw [← s.len]; simp
  have s0 : RelS c α H' (S'.take α.length) := by
    refine ⟨by rw [List.length_take]; omega, (List.nodup_append.mp s.nd).1, fun a ha => s.tr a (List.mem_append_left _ ha), fun n ds e => ?_⟩
    have hn : n < α.length := by
      have := (List.getElem?_eq_some_iff.mp e).1
      rw [List.length_take] at this
      omega
    rw [List.getElem?_take_of_lt hn] at e
    obtain ⟨a, xs, e1, e2, r⟩ := s.at_ n ds e
    rw [List.getElem?_append_left hn] at e1
    exact ⟨a, xs, e1, e2, r⟩
  cases x with
  | v d => exact h v H' α x0 s0 r trivial
  | n ds =>
    obtain ⟨a, xs, rfl, ea, r, na⟩ := r
    exact h _ H' α x0 s0 ⟨a, xs, rfl, ea, r, fun hm => na (List.mem_append_left _ hm)⟩ f
  | l n =>
    obtain ⟨a, ea, rfl⟩ := r
    have h' : wpR (if n < α.length then R.ok (Val.l n) (S'.take α.length) else (match S'[n]? with
      | some (some ds) => R.ok (Val.n ds) (S'.take α.length)
      | _ => .bad)) (okV c Q α H) er := h
    by_cases hn : n < α.length
    · rw [if_pos hn] at h'
      rw [List.getElem?_append_left hn] at ea
      exact h' _ H' α x0 s0 ⟨a, ea, rfl⟩ trivial
    · rw [if_neg hn] at h'
      cases hS : S'[n]? with
      | none => rw [hS] at h'; exact h'.elim
      | some o =>
        cases o with
        | none => rw [hS] at h'; exact h'.elim
        | some ds =>
          rw [hS] at h'
          obtain ⟨b, xs, eb, hb2, r⟩ := s.at_ n ds hS
          rw [ea] at eb
          cases eb
          have na : a ∉ α := fun hm => by
            obtain ⟨j, hj, ej⟩ := List.mem_iff_getElem.mp hm
            have e2 : (α ++ β)[j]? = some a := by
              rw [List.getElem?_append_left hj, List.getElem?_eq_getElem hj, ej]
            have := nodup_at s.nd ea e2
            omega
          refine h' _ H' α x0 s0 ⟨a, xs, rfl, hb2, r, na⟩ fun b e => ?_
          cases e
          exact xt.nw a (List.mem_of_getElem? ea) na
theorem start_rel {c : RC} {α : List Addr} {H : Hp} {N : List PySem.Str} {xs : List Val} {vs : List V} (r : RepAs c α H xs vs) (h : xs.length ≤ N.length) : RelE c α H (xs.map some ++ List.replicate (N.length - xs.length) none) (start N vs) := by
  have hl := r.length
  refine ⟨?_, fun i x e => ?_⟩
  · unfold L2.start
    simp only [List.length_append, List.length_map, List.length_replicate]
    omega
  · by_cases hi : i < xs.length
    · rw [List.getElem?_append_left (by simpa using hi), List.getElem?_map] at e
      cases q : xs[i]? with
      | none => rw [q] at e; cases e
      | some y =>
        rw [q] at e
        cases e
        obtain ⟨v, ev, rv⟩ := r.get q
        refine ⟨v, ?_, rv⟩
        unfold L2.start
        rw [List.getElem?_append_left (by rw [List.length_map]; omega), List.getElem?_map, ev]
        rfl
    · rw [List.getElem?_append_right (by simpa using hi), List.getElem?_replicate] at e
      split at e <;> cases e
/-- THE RULE for a def: its body's plain function -/
theorem def_ok {x qual : PySem.Str} {st : Stmt} {f : Addr} {fd : FuncData} {N ps : List PySem.Str} {k : Nat} (body : SM) (F : Fun K x qual st f fd) (S : FnScope N ps (defScope st))
    (hbody : ∀ (cdv : Value) (A : Around) (outer : List Env) (s : Shared) (H : Hp) (E : XK), Room k (A.deeper (envOfC qual (defScope st) s.heap.objs.size f cdv)) → A.guards = some [] →
      SSs (cxOf (L2.CX P w) P w K mg base N qual (defScope st) f cdv A outer s H E) (fun cls d _ H => E cls d H) (defBody st) body) : FnG P w K mg base (k + 1) f fd ps (spM ⟨K, mg⟩ (mkFn ps.length N.length body)) := by
  obtain ⟨oc, od, kV, doc, pm, an, cdv, ct, osl, rfl, lk, hcd⟩ := F.ex
  refine fnG_of lk hcd S (fun vs H Q E ⟨α, S, xs, _, r, h⟩ => ?_) fun A outer s H vs Q E hr hgd ⟨α, S0, xs, s0, r, h⟩ => ⟨_, hbody cdv A outer s H E hr hgd, ?_⟩
  · unfold mkFn at h
    by_cases hl : xs.length = ps.length
    · rw [← r.length]
      exact hl
    · rw [if_neg hl] at h
      exact h.elim
  · unfold mkFn at h
    by_cases hl : xs.length = ps.length
    · rw [if_pos hl] at h
      have hN : ps.length ≤ N.length := by
        have := congrArg List.length S.pre
        rw [List.length_take] at this
        omega
      refine ⟨α, _, S0, start_rel r (by omega), s0, ?_⟩
      rw [hl]
      rw [← s0.len] at h
      cases hb : body (xs.map some ++ List.replicate (N.length - ps.length) none) S0 with
      | bad => rw [hb] at h; exact h.elim
      | bk ρ S1 => rw [hb] at h; exact h.elim
      | ct ρ S1 => rw [hb] at h; exact h.elim
      | nx ρ S1 =>
        rw [hb] at h
        have h2 : wpR (fin α.length (.v .non) S1) (okV ⟨K, mg⟩ Q α H) (okX ⟨K, mg⟩ E α H) := h
        exact fun σ' H' α' x e s => fin_ok h2 .non H' α' x s (by simp only [RepX, Rep]) trivial
      | rt y S1 =>
        rw [hb] at h
        have h2 : wpR (fin α.length y S1) (okV ⟨K, mg⟩ Q α H) (okX ⟨K, mg⟩ E α H) := h
        exact fin_ok h2
      | er e ρ S1 =>
        rw [hb] at h
        intro cls od σ' H' α' xt _ s re
        obtain ⟨β, rfl⟩ := xt.pre
        refine h cls od H' α ⟨⟨[], by simp⟩, xt.fr, fun a h n => absurd h n, xt.le⟩ ⟨?_, (List.nodup_append.mp s.nd).1, fun a ha => s.tr a (List.mem_append_left _ ha), fun n ds e => ?_⟩ re
        · have : α.length ≤ S1.length := by rw [← s.len]; simp
          rw [List.length_take]
          omega
        · have hn : n < α.length := by
            have := (List.getElem?_eq_some_iff.mp e).1
            rw [List.length_take] at this
            omega
          rw [List.getElem?_take_of_lt hn] at e
          obtain ⟨a, ys, e1, e2, r2⟩ := s.at_ n ds e
          rw [List.getElem?_append_left hn] at e1
          exact ⟨a, ys, e1, e2, r2⟩
    · rw [if_neg hl] at h
      exact h.elim
/-- where nothing is promised -/
theorem fnG_bad {f : Addr} {fd : FuncData} {ps : List PySem.Str} {k : Nat} : FnG P w K mg base k f fd ps (spM ⟨K, mg⟩ fun _ _ => .bad) :=
  ⟨fun vs H Q E ⟨α, S, xs, _, r, h⟩ => h.elim, fun A outer s H args us vs Q E hr hg he hb hv ⟨α, S, xs, _, r, h⟩ => h.elim⟩
end

/-! ### calls -/
section
variable {X : Cx} {W : WX} {k : Nat} {f : Addr} {fd : FuncData} {ps : List PySem.Str} {g : MFn} {x : PySem.Str} {p pos : Pos} {e : Expr} {es : List Expr}
theorem run_fnG {sp : Sp} {pins : List (Addr × Obj)} {σ : L2.St} {H : Hp} {s : Shared} {Q : VK} {us : List Value} {vs : List V} (F : FnG X.prog X.w X.K X.mg X.base k f fd ps sp) (hr : Room k X.A) (hgd : X.A.guards = some []) (hb : Binds X.K fd ps []) (tk : Takes X W)
    (I : Inv X pins σ H s) (r : Vals vs us) (h : sp vs H Q (WE W σ)) : wpAny (model X.prog X.w) X.A (call (.ref f) us) (EP X pins σ Q) X.xe s := by
  have hl : us.length = ps.length := by rw [← r.length]; exact F.len _ _ _ _ h
  have bs := hb s us I.kIn (by simpa using hl)
  rw [List.append_nil] at bs
  refine wpAny_call (codeAny_mono (F.run X.A X.stack s H ⟨us, []⟩ us vs Q (WE W σ) hr hgd I.env0 bs r h) fun res s' hq => ?_)
  cases res with
  | error e => exact passAt tk σ pins H s e s' I hq
  | ok fl =>
    cases fl with
    | ret u => exact I.after hq
    | next => exact hq.elim
    | brk => exact hq.elim
    | cont => exact hq.elim
def mCall (g : MFn) (fs : AM) : VM := fun ρ S => (fs ρ S).bind fun xs S1 => g xs S1
theorem call_of {fs : AM} {σ : L2.St} {H : Hp} {Q : VK} (h : tV (rc X) W (mCall g fs) σ H Q) : tA (rc X) W fs σ H fun vs H1 => spM (rc X) g vs H1 Q (WE W σ) := by
  obtain ⟨α, ρ, S, hE, hS, q⟩ := h
  refine ⟨α, ρ, S, hE, hS, ?_⟩
  refine wpR_mono (wpR_bind q) (fun xs S1 h1 vs H1 α1 x1 s1 r1 => ?_) fun _ _ z => z
  exact ⟨α1, S1, xs, s1, r1, wpR_mono h1 (fun z S' k => k.mono x1) fun e S' k => k.mono x1⟩
theorem sv_call {fs : AM} (F : FnG X.prog X.w X.K X.mg X.base k f fd ps (spM (rc X) g)) (hr : Room k X.A) (hgd : X.A.guards = some []) (hg : Gl X x) (hm : X.mg x = some (.ref f)) (hk : PySem.W.keepIn X.K (.ref f) = true) (hb : Binds X.K fd ps []) (tk : Takes X W)
    (ha : SA X W (e :: es) fs) (hdb : (x == ("__debug__" : PySem.Str)) = false := by decide) (he : starEach (e :: es) X.env = (false, eval e X.env) :: starEach es X.env := by rfl) (hpl : (backTo pos (starEach es X.env)).any (·.1) = false := by rfl) :
    SV X W (.Call (.Name x p) (e :: es) [] pos) (mCall g fs) := by
  refine ⟨fun pins s σ H Q I h => ?_⟩
  refine wpAny_Call_Name_kw (ld_glob I hg hm ?_ hdb)
  refine PySem.W.callWith_K (h₀ := X.base) I.ok.mod.kin hk (thn (ha.run pos pins s σ H _ I (call_of h)) fun us s1 ⟨vs, H1, I1, r, q⟩ => ⟨I1.kIn, ?_⟩) he hpl
  exact run_fnG F hr hgd hb tk I1 r q
end
end M

namespace M
open PySem PySem.Spec PyProof.Rows L2

/-! ### ints -/
def gI (f : Int → Int → Option Val) : D → D → Option Val
  | .int i, .int j => f i j
  | _, _ => none
variable {X : Cx}
theorem og_int {C : Int → Int → Prop} {h : Int → Int → Int} {f : Int → Int → Option Val} (hf : ∀ i j z, f i j = some z → C i j ∧ z = .v (.int (h i j))) : OpG X (rI C fun i j => .int (h i j)) (gI f) := by
  intro H p q x y z Q rx ry hz k
  cases p with
  | int i =>
    cases q with
    | int j =>
      obtain ⟨hc, rfl⟩ := hf i j z hz
      exact ⟨i, j, rx.int, ry.int, hc, k.int⟩
    | _ => cases hz
  | _ => cases hz
theorem og_int0 {h : Int → Int → Int} : OpG X (rI0 fun i j => .int (h i j)) (gI fun i j => some (.v (.int (h i j)))) := by
  intro H p q x y z Q rx ry hz k
  cases p with
  | int i =>
    cases q with
    | int j =>
      cases hz
      exact ⟨i, j, rx.int, ry.int, k.int⟩
    | _ => cases hz
  | _ => cases hz
theorem og_bl0 {h : Int → Int → Bool} : OpG X (rI0 fun i j => .bl (h i j)) (gI fun i j => some (.v (.bl (h i j)))) := by
  intro H p q x y z Q rx ry hz k
  cases p with
  | int i =>
    cases q with
    | int j =>
      cases hz
      exact ⟨i, j, rx.int, ry.int, k.bl⟩
    | _ => cases hz
  | _ => cases hz
def gSub := gI fun i j => some (.v (.int (i - j)))
def big (i : Int) : Bool := decide (-18446744073709551616 < i) && decide (i < 18446744073709551616)
def gMulI := gI fun i j => if big i || big j then some (.v (.int (i * j))) else none
def gDiv := gI fun i j => if j ≠ 0 ∧ j.natAbs < 1073741824 then some (.v (.int (i.fdiv j))) else none
def gMod := gI fun i j => if j ≠ 0 then some (.v (.int (i.fmod j))) else none
def gPow := gI fun i j => if 0 ≤ j ∧ j ≤ 1000000 ∧ i.natAbs < 18446744073709551616 then some (.v (.int (i ^ j.toNat))) else none
def gShl := gI fun i j => if 0 ≤ j ∧ j ≤ 1000000 ∧ i.natAbs < 18446744073709551616 then some (.v (.int (i * 2 ^ j.toNat))) else none
def gShr := gI fun i j => if 0 ≤ j then some (.v (.int (i / 2 ^ j.toNat))) else none
def gAnd := gI fun i j => some (.v (.int (Builtin.bitAnd i j)))
def gOr := gI fun i j => some (.v (.int (Builtin.bitOr i j)))
def gXor := gI fun i j => some (.v (.int (Builtin.bitXor i j)))
theorem big_of {i : Int} (h : big i = true) : -(2 ^ 64) < i ∧ i < 2 ^ 64 := by
  unfold big at h
  rw [Bool.and_eq_true, decide_eq_true_eq, decide_eq_true_eq] at h
  exact ⟨by omega, by omega⟩
theorem ite_some {c : Prop} [Decidable c] {α : Type} {a z : α} (h : (if c then some a else none) = some z) : c ∧ z = a := by
  by_cases hc : c
  · rw [if_pos hc] at h
    exact ⟨hc, (Option.some.inj h).symm⟩
  · rw [if_neg hc] at h
    cases h
theorem og_sub : OpG X (rI0 fun i j => .int (i - j)) gSub := og_int0
theorem og_mulI : OpG X (rI CMul fun i j => .int (i * j)) gMulI := og_int fun i j z h => by
  obtain ⟨hc, e⟩ := ite_some h
  rw [Bool.or_eq_true] at hc
  exact ⟨hc.elim (fun k => .inl (big_of k)) (fun k => .inr (big_of k)), e⟩
theorem og_div : OpG X (rI CDivN fun i j => .int (i.fdiv j)) gDiv := og_int fun i j z h => ⟨(ite_some h).1, (ite_some h).2⟩
theorem og_mod : OpG X (rI (fun _ j => j ≠ 0) fun i j => .int (i.fmod j)) gMod := og_int fun i j z h => ite_some h
theorem cpow_of {i j : Int} (h : 0 ≤ j ∧ j ≤ 1000000 ∧ i.natAbs < 18446744073709551616) : CPow i j := ⟨h.1, h.2.1, by have := h.2.2; omega⟩
theorem og_pow : OpG X (rI CPow fun i j => .int (i ^ j.toNat)) gPow := og_int fun i j z h => ⟨cpow_of (ite_some h).1, (ite_some h).2⟩
theorem og_shl : OpG X (rI CPow fun i j => .int (i * 2 ^ j.toNat)) gShl := og_int fun i j z h => ⟨cpow_of (ite_some h).1, (ite_some h).2⟩
theorem og_shr : OpG X (rI (fun _ j => 0 ≤ j) fun i j => .int (i / 2 ^ j.toNat)) gShr := og_int fun i j z h => ite_some h
theorem og_and : OpG X (rI0 fun i j => .int (Builtin.bitAnd i j)) gAnd := og_int0
theorem og_or : OpG X (rI0 fun i j => .int (Builtin.bitOr i j)) gOr := og_int0
theorem og_xor : OpG X (rI0 fun i j => .int (Builtin.bitXor i j)) gXor := og_int0

/-! ### + -/
def gAdd : D → D → Option Val
  | .int i, .int j => some (.v (.int (i + j)))
  | .str x, .str y => if x.length + y.length ≤ lim then some (.v (.str (x ++ y))) else none
  | .lst a, .lst b => if a.length + b.length ≤ lim then some (.n (a ++ b)) else none
  | .tup a, .tup b => if a.length + b.length ≤ lim then some (.v (.tup (a ++ b))) else none
  | _, _ => none
theorem Rep.tup_mk {c : RC} {H : Hp} {ds : List D} {a : Addr} {xs : List V} (h : SqT c.K H a xs) (r : Reps c H ds xs) : Rep c H (.tup ds) (.ref a) := by
  simp only [Rep]
  exact ⟨a, xs, rfl, h, r⟩
theorem rd_at {pins : List (Addr × Obj)} {σ : L2.St} {H : Hp} {s : Shared} {a : Addr} {xs : List V} (I : Inv X pins σ H s) (h : Rd H a (.lst xs)) : xs.length ≤ sizeLine ∧ ∃ its n, Vals xs its ∧ s.heap.get? a = some { cls := .type "list", data := .seq its.toArray n } := by
  have := h.ok I.hok
  exact this
/-- lists that are read -/
def rCatS : R2 := fun x y H Q => ∃ l b xs zs, x = .ref l ∧ y = .ref b ∧ Rd H l (.lst xs) ∧ Rd H b (.lst zs) ∧ xs.length + zs.length ≤ sizeLine ∧ ∀ p, H p = none → Q (.ref p) (upd H p (.lst (xs ++ zs)))
theorem op_catS : OpR X (binaryOp .Add) rCatS := by
  intro pins s σ H x y v u Q I rx ry h
  obtain ⟨l, b, xs, zs, rfl, rfl, hH, hB, hz, q⟩ := h
  cases rx
  cases ry
  obtain ⟨_, its, n, r, e⟩ := rd_at I hH
  obtain ⟨_, its2, n2, r2, e2⟩ := rd_at I hB
  have l1 := r.length
  have l2 := r2.length
  refine PySem.P.add_list e e2 ?_ (by rw [List.size_toArray, List.size_toArray]; omega)
  rw [show its.toArray ++ its2.toArray = (its ++ its2).toArray from by simp]
  exact ⟨.ref _, _, I.lnew (t' := s.toks) (r.append r2) (by rw [List.length_append]; exact hz), rfl, q _ I.fresh⟩
def rAdd (K : PySem.W.Frag) : R2 := fun x y H Q => (∃ i j, x = .int i ∧ y = .int j ∧ Q (.int (i + j)) H) ∨ (∃ i j, x = .str i ∧ y = .str j ∧ i.length + j.length ≤ sizeLine ∧ Q (.str (i ++ j)) H) ∨ rCatS x y H Q ∨ rCatA K x y H Q
theorem op_addA : OpR X (binaryOp .Add) (rAdd X.K) := op_add.or (op_add_str.or (op_catS.or op_catA))
theorem Reps.nil_of {c : RC} {H : Hp} {xs : List V} (r : Reps c H [] xs) : xs = [] := by
  simp only [Reps] at r
  exact r
theorem og_add : OpG X (rAdd X.K) gAdd := by
  intro H p q x y z Q rx ry hz k
  cases p with
  | int i =>
    cases q with
    | int j =>
      cases hz
      exact .inl ⟨i, j, rx.int, ry.int, k.int⟩
    | _ => cases hz
  | str i =>
    cases q with
    | str j =>
      obtain ⟨hc, rfl⟩ := ite_some hz
      exact .inr (.inl ⟨i, j, rx.str, ry.str, by rw [lim_eq]; exact hc, k.str⟩)
    | _ => cases hz
  | lst a =>
    cases q with
    | lst b =>
      obtain ⟨hc, rfl⟩ := ite_some hz
      obtain ⟨l, xs, rfl, h1, r1⟩ := rx
      obtain ⟨m, ys, rfl, h2, r2⟩ := ry
      exact .inr (.inr (.inl ⟨l, m, xs, ys, rfl, rfl, h1, h2, by rw [← r1.length, ← r2.length, lim_eq]; exact hc, k.new (r1.append r2)⟩))
    | _ => cases hz
  | tup a =>
    cases q with
    | tup b =>
      obtain ⟨hc, rfl⟩ := ite_some hz
      obtain ⟨l, xs, rfl, h1, r1⟩ := rx.tup
      obtain ⟨m, ys, rfl, h2, r2⟩ := ry.tup
      refine .inr (.inr (.inr ⟨l, m, xs, ys, rfl, rfl, h1, h2, by rw [← r1.length, ← r2.length, lim_eq]; exact hc, fun e => ?_, fun _ e => ?_, fun _ _ => k.newT (r1.append r2)⟩))
      · subst e
        have ha : a = [] := List.length_eq_zero_iff.mp r1.length
        subst ha
        exact k.old (Rep.tup_mk h2 r2)
      · subst e
        have hb : b = [] := List.length_eq_zero_iff.mp r2.length
        subst hb
        rw [List.append_nil] at k
        exact k.old (Rep.tup_mk h1 r1)
    | _ => cases hz
  | _ => cases hz
/-- a new list times an int -/
def mRepL (fa fb : VM) : VM := fun ρ S => (fa ρ S).bind fun x S1 => (fb ρ S1).bind fun y S2 => match x, y with
  | .n ds, .v (.int k) => if fits62 k && decide (ds.length * k.toNat ≤ lim) then .ok (.n (List.replicate k.toNat ds).flatten) S2 else .bad
  | _, _ => .bad
theorem Reps.rep {c : RC} {H : Hp} {ds : List D} {xs : List V} (r : Reps c H ds xs) : ∀ n : Nat, Reps c H (List.replicate n ds).flatten (List.replicate n xs).flatten
  | 0 => .nil
  | n + 1 => by
    rw [List.replicate_succ, List.replicate_succ, List.flatten_cons, List.flatten_cons]
    exact r.append (Reps.rep r n)
theorem sv_repL {W : WX} {a b : Expr} {pos : Pos} {fa fb : VM} (ha : SV X W a fa) (hb : SV X W b fb) : SV X W (.BinOp a .Mult b pos) (mRepL fa fb) := by
  refine PE.imp (pe_op op_rep ha hb) fun σ H Q ⟨α, ρ, S, hE, hS, q⟩ => ⟨α, ρ, S, hE, hS, ?_⟩
  refine wpR_mono (wpR_bind q) (fun x S1 h1 v H1 α1 x1 s1 r1 f1 => ?_) fun _ _ z => z
  refine ⟨α1, ρ, S1, hE.mono x1, s1, ?_⟩
  refine wpR_mono (wpR_bind h1) (fun y S2 h2 w H2 α2 x2 s2 r2 f2 => ?_) fun _ _ z => z.mono x1
  have r1' := r1.mono x2
  split at h2
  · rename_i ds k
    by_cases hc : (fits62 k && decide (ds.length * k.toNat ≤ lim)) = true
    · rw [if_pos hc] at h2
      rw [Bool.and_eq_true, decide_eq_true_eq] at hc
      obtain ⟨a, xs, rfl, ea, r, na⟩ := r1'
      have ew : w = .int k := by simpa only [RepX, Rep] using r2
      subst ew
      obtain ⟨k1, k2⟩ := fits62_of hc.1
      refine ⟨a, k, xs, rfl, rfl, ea, by omega, by omega, by rw [← r.length, lim_eq]; exact hc.2, ((okV.mono (x1.trans x2) h2).Z s2).new (r.rep k.toNat)⟩
    · rw [if_neg hc] at h2
      exact h2.elim
  · exact h2.elim

/-! ### data as the library tells it -/
mutual
def D.py : D → Option PyData
  | .non => some .none
  | .bl b => some (.bool b)
  | .int i => some (.int i)
  | .str x => some (.str x)
  | .tup ds => (D.pys ds).map .tuple
  | .lst ds => (D.pys ds).map .list
  | .fn _ => none
  | .kl _ => none
  | .raw _ => none
def D.pys : List D → Option (List PyData)
  | [] => some []
  | d :: ds => match D.py d, D.pys ds with
    | some p, some ps => some (p :: ps)
    | _, _ => none
end
mutual
theorem Rep.dp {c : RC} {H : Hp} : ∀ {d : D} {v : V} {p : PyData}, Rep c H d v → D.py d = some p → Dp c.K H v p
  | .non, v, p, r, h => by
    simp only [Rep] at r
    simp only [D.py] at h
    cases h
    subst r
    exact .non
  | .bl b, v, p, r, h => by
    simp only [Rep] at r
    simp only [D.py] at h
    cases h
    subst r
    exact .bl b
  | .int b, v, p, r, h => by
    simp only [Rep] at r
    simp only [D.py] at h
    cases h
    subst r
    exact .int b
  | .str b, v, p, r, h => by
    simp only [Rep] at r
    simp only [D.py] at h
    cases h
    subst r
    exact .str b
  | .tup ds, v, p, r, h => by
    simp only [Rep] at r
    obtain ⟨a, xs, rfl, q, r⟩ := r
    simp only [D.py] at h
    cases hp : D.pys ds with
    | none => rw [hp] at h; cases h
    | some ps =>
      rw [hp] at h
      cases h
      exact .tup q (Reps.dp r hp)
  | .lst ds, v, p, r, h => by
    simp only [Rep] at r
    obtain ⟨a, xs, rfl, q, r⟩ := r
    simp only [D.py] at h
    cases hp : D.pys ds with
    | none => rw [hp] at h; cases h
    | some ps =>
      rw [hp] at h
      cases h
      exact .lst (.inl q.rd) (Reps.dp r hp)
  | .fn _, _, _, _, h => by simp only [D.py] at h; cases h
  | .kl _, _, _, _, h => by simp only [D.py] at h; cases h
  | .raw _, _, _, _, h => by simp only [D.py] at h; cases h
theorem Reps.dp {c : RC} {H : Hp} : ∀ {ds : List D} {xs : List V} {ps : List PyData}, Reps c H ds xs → D.pys ds = some ps → DpAll c.K H xs ps
  | [], xs, ps, r, h => by
    simp only [Reps] at r
    simp only [D.pys] at h
    cases h
    subst r
    exact .nil
  | d :: ds, xs, ps, r, h => by
    simp only [Reps] at r
    obtain ⟨x, ys, rfl, q, t⟩ := r
    simp only [D.pys] at h
    cases hp : D.py d with
    | none => rw [hp] at h; cases h
    | some p =>
      cases hps : D.pys ds with
      | none => rw [hp, hps] at h; cases h
      | some ps' =>
        rw [hp, hps] at h
        cases h
        exact .cons (Rep.dp q hp) (Reps.dp t hps)
end
theorem RepP.dp {c : RC} {H : Hp} {d : D} {v : V} {p : PyData} (r : RepP c H d v) (h : D.py d = some p) : Dp c.K H v p := by
  cases d with
  | lst ds =>
    obtain ⟨a, xs, rfl, q, r⟩ := r
    simp only [D.py] at h
    cases hp : D.pys ds with
    | none => rw [hp] at h; cases h
    | some ps =>
      rw [hp] at h
      cases h
      exact .lst (.inl q) (Reps.dp r hp)
  | _ => exact Rep.dp r h
def gPy (f : PyData → PyData → Option Val) : D → D → Option Val := fun p q => match D.py p, D.py q with
  | some a, some b => if SeqAt.shaped a && SeqAt.shaped b then f a b else none
  | _, _ => none
theorem gPy_some {f : PyData → PyData → Option Val} {p q : D} {z : Val} (h : gPy f p q = some z) : ∃ a b, D.py p = some a ∧ D.py q = some b ∧ SeqAt.shaped a = true ∧ SeqAt.shaped b = true ∧ f a b = some z := by
  unfold gPy at h
  cases hp : D.py p with
  | none => rw [hp] at h; cases h
  | some a =>
    cases hq : D.py q with
    | none => rw [hp, hq] at h; cases h
    | some b =>
      rw [hp, hq] at h
      dsimp only at h
      by_cases hc : (SeqAt.shaped a && SeqAt.shaped b) = true
      · rw [if_pos hc] at h
        rw [Bool.and_eq_true] at hc
        exact ⟨a, b, rfl, rfl, hc.1, hc.2, h⟩
      · rw [if_neg hc] at h
        cases h
def eqE : PyData → PyData → Option Val := fun a b => some (.v (.bl (PyData.eqv a b)))
def neE : PyData → PyData → Option Val := fun a b => some (.v (.bl (!PyData.eqv a b)))
def gEq : D → D → Option Val
  | .str x, .str y => some (.v (.bl (decide (x = y))))
  | p, q => gPy eqE p q
def gNe : D → D → Option Val
  | .str x, .str y => some (.v (.bl (!decide (x = y))))
  | p, q => gPy neE p q
def rEqA (K : PySem.W.Frag) : R2 := fun x y H Q => rEq x y H Q ∨ rEqD K x y H Q
def rNeA (K : PySem.W.Frag) : R2 := fun x y H Q => rNe x y H Q ∨ rNeD K x y H Q
theorem op_eqA (hu : X.A.units + 64 < cLine) : OpR X (compareOp .Eq) (rEqA X.K) := op_eq.or (op_eqD hu)
theorem op_neA (hu : X.A.units + 64 < cLine) : OpR X (compareOp .NotEq) (rNeA X.K) := op_ne.or (op_neD hu)
theorem dec_str {i j : PySem.Str} : decide (V.str i = V.str j) = decide (i = j) := by
  rw [Bool.eq_iff_iff, decide_eq_true_eq, decide_eq_true_eq]
  exact ⟨fun h => V.str.inj h, fun h => by rw [h]⟩
theorem og_eqP {H : Hp} {p q : D} {x y : V} {z : Val} {Q : VK} (rx : RepP (rc X) H p x) (ry : RepP (rc X) H q y) (hz : gPy eqE p q = some z) (k : okZ (rc X) Q H z) : rEqA X.K x y H Q := by
  obtain ⟨a, b, h1, h2, s1, s2, hf⟩ := gPy_some hz
  cases hf
  exact .inr ⟨a, b, rx.dp h1, ry.dp h2, s1, s2, k.bl⟩
theorem og_neP {H : Hp} {p q : D} {x y : V} {z : Val} {Q : VK} (rx : RepP (rc X) H p x) (ry : RepP (rc X) H q y) (hz : gPy neE p q = some z) (k : okZ (rc X) Q H z) : rNeA X.K x y H Q := by
  obtain ⟨a, b, h1, h2, s1, s2, hf⟩ := gPy_some hz
  cases hf
  exact .inr ⟨a, b, rx.dp h1, ry.dp h2, s1, s2, k.bl⟩
theorem og_eq : OpG X (rEqA X.K) gEq := by
  intro H p q x y z Q rx ry hz k
  unfold gEq at hz
  split at hz
  · cases hz
    rw [rx.str, ry.str]
    exact .inl ⟨rfl, by rw [dec_str]; exact k.bl⟩
  · exact og_eqP rx ry hz k
theorem og_ne : OpG X (rNeA X.K) gNe := by
  intro H p q x y z Q rx ry hz k
  unfold gNe at hz
  split at hz
  · cases hz
    rw [rx.str, ry.str]
    exact .inl ⟨rfl, by rw [dec_str]; exact k.bl⟩
  · exact og_neP rx ry hz k

/-! ### order -/
def rOrd (h : Int → Int → Bool) (g : PySem.Str → PySem.Str → Bool) : R2 := fun x y H Q => (∃ i j, x = .int i ∧ y = .int j ∧ Q (.bl (h i j)) H) ∨ ∃ i j, x = .str i ∧ y = .str j ∧ Q (.bl (g i j)) H
def gOrd (h : Int → Int → Bool) (g : PySem.Str → PySem.Str → Bool) : D → D → Option Val
  | .int i, .int j => some (.v (.bl (h i j)))
  | .str i, .str j => some (.v (.bl (g i j)))
  | _, _ => none
theorem og_ord {h : Int → Int → Bool} {g : PySem.Str → PySem.Str → Bool} : OpG X (rOrd h g) (gOrd h g) := by
  intro H p q x y z Q rx ry hz k
  cases p with
  | int i =>
    cases q with
    | int j =>
      cases hz
      exact .inl ⟨i, j, rx.int, ry.int, k.bl⟩
    | _ => cases hz
  | str i =>
    cases q with
    | str j =>
      cases hz
      exact .inr ⟨i, j, rx.str, ry.str, k.bl⟩
    | _ => cases hz
  | _ => cases hz
def ltS (i j : PySem.Str) : Bool := decide (i.cps.toList < j.cps.toList)
def gLt := gOrd (fun i j => decide (i < j)) ltS
def gLe := gOrd (fun i j => decide (i ≤ j)) fun i j => !ltS j i
def gGt := gOrd (fun i j => decide (j < i)) fun i j => ltS j i
def gGe := gOrd (fun i j => decide (j ≤ i)) fun i j => !ltS i j
theorem op_ltA : OpR X (compareOp .Lt) (rOrd (fun i j => decide (i < j)) ltS) := op_lt.or op_lt_str
theorem op_leA : OpR X (compareOp .LtE) (rOrd (fun i j => decide (i ≤ j)) fun i j => !ltS j i) := op_le.or op_le_str
theorem op_gtA : OpR X (compareOp .Gt) (rOrd (fun i j => decide (j < i)) fun i j => ltS j i) := op_gt.or op_gt_str
theorem op_geA : OpR X (compareOp .GtE) (rOrd (fun i j => decide (j ≤ i)) fun i j => !ltS i j) := op_ge.or op_ge_str
theorem og_lt : OpG X (rOrd (fun i j => decide (i < j)) ltS) gLt := og_ord
theorem og_le : OpG X (rOrd (fun i j => decide (i ≤ j)) fun i j => !ltS j i) gLe := og_ord
theorem og_gt : OpG X (rOrd (fun i j => decide (j < i)) fun i j => ltS j i) gGt := og_ord
theorem og_ge : OpG X (rOrd (fun i j => decide (j ≤ i)) fun i j => !ltS i j) gGe := og_ord

/-! ### is None, is True -/
def isNonD : D → Bool
  | .non => true
  | _ => false
def gIsN (neg : Bool) : D → D → Option Val
  | p, .non => some (.v (.bl (if neg then !isNonD p else isNonD p)))
  | _, _ => none
theorem isNon_rep {c : RC} {H : Hp} {p : D} {x : V} (r : RepP c H p x) : decide (x = .non) = isNonD p := by
  cases p with
  | non => rw [r.non]; rfl
  | bl b => rw [r.bl]; rfl
  | int b => rw [r.int]; rfl
  | str b => rw [r.str]; rfl
  | tup ds => obtain ⟨a, xs, rfl, _⟩ := r.tup; rfl
  | lst ds => obtain ⟨a, xs, rfl, _⟩ := r; rfl
  | fn n =>
    have r' : Rep c H (.fn n) x := r
    simp only [Rep] at r'
    obtain ⟨a, _, rfl⟩ := r'
    rfl
  | kl ds =>
    have r' : Rep c H (.kl ds) x := r
    simp only [Rep] at r'
    obtain ⟨a, xs, rfl, _⟩ := r'
    rfl
  | raw a =>
    have r' : Rep c H (.raw a) x := r
    simp only [Rep] at r'
    subst r'
    rfl
theorem og_isN : OpG X (fun x y H Q => y = .non ∧ Q (.bl (decide (x = .non))) H) (gIsN false) := by
  intro H p q x y z Q rx ry hz k
  cases q with
  | non =>
    cases hz
    exact ⟨ry.non, by rw [isNon_rep rx]; exact k.bl⟩
  | _ => cases hz
theorem og_notN : OpG X (fun x y H Q => y = .non ∧ Q (.bl (!decide (x = .non))) H) (gIsN true) := by
  intro H p q x y z Q rx ry hz k
  cases q with
  | non =>
    cases hz
    exact ⟨ry.non, by rw [isNon_rep rx]; exact k.bl⟩
  | _ => cases hz
def gIsB (neg : Bool) : D → D → Option Val
  | .bl a, .bl b => some (.v (.bl (if neg then !decide (a = b) else decide (a = b))))
  | _, _ => none
theorem og_isB : OpG X rIsB (gIsB false) := by
  intro H p q x y z Q rx ry hz k
  cases p with
  | bl a =>
    cases q with
    | bl b =>
      cases hz
      exact ⟨a, b, rx.bl, ry.bl, k.bl⟩
    | _ => cases hz
  | _ => cases hz
theorem og_notB : OpG X rNotB (gIsB true) := by
  intro H p q x y z Q rx ry hz k
  cases p with
  | bl a =>
    cases q with
    | bl b =>
      cases hz
      exact ⟨a, b, rx.bl, ry.bl, k.bl⟩
    | _ => cases hz
  | _ => cases hz

/-! ### in -/
def rInA (K : PySem.W.Frag) (neg : Bool) : R2 := fun x y H Q => (∃ (c : Nat) (z : PySem.Str), x = .str ⟨#[c]⟩ ∧ y = .str z ∧ Q (.bl (if neg then !decide (c ∈ z.cps.toList) else decide (c ∈ z.cps.toList))) H) ∨
  (∃ d ds, Dp K H x d ∧ Dp K H y (.list ds) ∧ SeqAt.shaped d = true ∧ SeqAt.shaped (.list ds) = true ∧ Q (.bl (if neg then !ds.any fun z => PyData.eqv z d else ds.any fun z => PyData.eqv z d)) H)
theorem op_inA (hu : X.A.units + 65 < cLine) : OpR X (compareOp .In) (rInA X.K false) := op_in_sign.or (op_inD hu)
theorem op_notInA (hu : X.A.units + 65 < cLine) : OpR X (compareOp .NotIn) (rInA X.K true) := op_notIn_sign.or (op_notInD hu)
def gIn (neg : Bool) : D → D → Option Val
  | .str a, .str z => match a.cps.toList with
    | [c] => some (.v (.bl (if neg then !decide (c ∈ z.cps.toList) else decide (c ∈ z.cps.toList))))
    | _ => none
  | p, .lst es => match D.py p, D.pys es with
    | some d, some ds => if SeqAt.shaped d && SeqAt.shaped (.list ds) then some (.v (.bl (if neg then !ds.any fun z => PyData.eqv z d else ds.any fun z => PyData.eqv z d))) else none
    | _, _ => none
  | _, _ => none
theorem one_sign {a : PySem.Str} {c : Nat} (h : a.cps.toList = [c]) : a = ⟨#[c]⟩ := by
  obtain ⟨⟨l⟩⟩ := a
  simp only at h
  subst h
  rfl
theorem og_in {neg : Bool} : OpG X (rInA X.K neg) (gIn neg) := by
  intro H p q x y z Q rx ry hz k
  have list : ∀ es, q = .lst es → rInA X.K neg x y H Q := by
    rintro es rfl
    have hz' : (match D.py p, D.pys es with
      | some d, some ds => if SeqAt.shaped d && SeqAt.shaped (.list ds) then some (Val.v (.bl (if neg then !ds.any fun z => PyData.eqv z d else ds.any fun z => PyData.eqv z d))) else none
      | _, _ => none) = some z := by
      cases p <;> exact hz
    cases hp : D.py p with
    | none => rw [hp] at hz'; cases hz'
    | some d =>
      cases hq : D.pys es with
      | none => rw [hp, hq] at hz'; cases hz'
      | some ds =>
        rw [hp, hq] at hz'
        obtain ⟨hc, rfl⟩ := ite_some hz'
        rw [Bool.and_eq_true] at hc
        exact .inr ⟨d, ds, rx.dp hp, ry.dp (by simp only [D.py, hq]; rfl), hc.1, hc.2, k.bl⟩
  cases q with
  | lst es => exact list es rfl
  | str w =>
    cases p with
    | str a =>
      have hz' : (match a.cps.toList with
        | [c] => some (Val.v (.bl (if neg then !decide (c ∈ w.cps.toList) else decide (c ∈ w.cps.toList))))
        | _ => none) = some z := hz
      split at hz'
      · rename_i c hc
        cases hz'
        exact .inl ⟨c, w, by rw [rx.str, one_sign hc], ry.str, k.bl⟩
      · cases hz'
    | _ => cases hz
  | _ => cases p <;> cases hz
end M

namespace M
open PySem PySem.Spec PyProof.Rows L2
variable {X : Cx} {W : WX} {a b e : Expr} {es : List Expr} {pos apos cpos : Pos}

/-! ### items, slices -/
theorem Reps.atI {c : RC} {H : Hp} {ds : List D} {xs : List V} {i : Int} {d : D} (r : Reps c H ds xs) (h : L2.atI ds i = some d) : ∃ x, L2.atI xs i = some x ∧ Rep c H d x := by
  unfold L2.atI at h ⊢
  rw [← r.length]
  cases hj : L2.ixN ds.length i with
  | none => rw [hj] at h; cases h
  | some j =>
    rw [hj] at h
    exact r.get h
def gIx : D → D → Option Val
  | .lst ds, .int i => (L2.atI ds i).map fun d => .v d
  | .tup ds, .int i => (L2.atI ds i).map fun d => .v d
  | .str z, .int i => if z.length ≤ lim then (L2.atI z.cps.toList i).map fun c => .v (.str ⟨#[c]⟩) else none
  | _, _ => none
theorem map_some {α β : Type} {o : Option α} {f : α → β} {z : β} (h : o.map f = some z) : ∃ a, o = some a ∧ z = f a := by
  cases o with
  | none => cases h
  | some a => cases h; exact ⟨a, rfl, rfl⟩
theorem og_ix : OpG X (rIx X.K) gIx := by
  intro H p q x y z Q rx ry hz k
  cases q with
  | int i =>
    cases p with
    | lst ds =>
      obtain ⟨d, hd, rfl⟩ := map_some hz
      obtain ⟨l, xs, rfl, q, r⟩ := rx.seqL
      obtain ⟨v, ev, rv⟩ := r.atI hd
      exact .inl ⟨l, xs, i, v, rfl, ry.int, q, ev, k.old rv⟩
    | tup ds =>
      obtain ⟨d, hd, rfl⟩ := map_some hz
      obtain ⟨l, xs, rfl, q, r⟩ := rx.tup
      obtain ⟨v, ev, rv⟩ := r.atI hd
      exact .inr (.inl ⟨l, xs, i, v, rfl, ry.int, q, ev, k.old rv⟩)
    | str w =>
      have hz' : (if w.length ≤ lim then (L2.atI w.cps.toList i).map (fun c => Val.v (.str ⟨#[c]⟩)) else none) = some z := hz
      by_cases hl : w.length ≤ lim
      · rw [if_pos hl] at hz'
        obtain ⟨c, hc, rfl⟩ := map_some hz'
        exact .inr (.inr ⟨w, i, c, rx.str, ry.int, by rw [lim_eq]; exact hl, hc, k.str⟩)
      · rw [if_neg hl] at hz'
        cases hz'
    | _ => cases hz
  | _ => cases p <;> cases hz
theorem sv_ix {fa fb : VM} (ha : SV X W a fa) (hb : SV X W b fb) (hs : PlainIx b) : SV X W (.Subscript a b pos) (mOp gIx fa fb) :=
  PE.imp (pe_ix ix_seq ha hb hs) fun σ H Q h => two og_ix h
def cutD {α : Type} (xs : List α) (lo hi : Option Int) : List α := (xs.drop (HT.sIx xs.length 0 lo)).take (HT.sIx xs.length xs.length hi - HT.sIx xs.length 0 lo)
theorem Reps.cut {c : RC} {H : Hp} {ds : List D} {xs : List V} (r : Reps c H ds xs) (lo hi : Option Int) : Reps c H (cutD ds lo hi) (cutV xs lo hi) := by
  unfold cutD cutV
  rw [← r.length]
  exact (r.drop _).take _
def gSl (lo hi : Option Int) : D → Option Val
  | .lst ds => some (.n (cutD ds lo hi))
  | .tup ds => some (.v (.tup (cutD ds lo hi)))
  | .str z => if z.length ≤ lim then some (.v (.str (cutS z lo hi))) else none
  | _ => none
abbrev OM := MEnv → Sto → R (Option Int)
def oNo : OM := fun _ S => .ok none S
def oAt (f : VM) : OM := fun ρ S => (f ρ S).bind fun x S1 => match x with
  | .v (.int i) => .ok (some i) S1
  | _ => .bad
def tO (c : RC) (W : WX) (f : OM) : TO := fun σ H Q => ∃ α ρ S, RelE c α H ρ σ ∧ RelS c α H S ∧ wpR (f ρ S) (fun o S' => ∀ H' α', Ext α α' H H' → RelS c α' H' S' → Q o H') (okE c W σ α H)
def SO (X : Cx) (W : WX) (o : Option Expr) (f : OM) : Prop := PO X o (tO (rc X) W f)
theorem PO.imp {o : Option Expr} {t t' : TO} (h : PO X o t) (i : ∀ σ H Q, t' σ H Q → t σ H Q) : PO X o t' := ⟨fun pins s σ H Q I q => h.run pins s σ H Q I (i σ H Q q)⟩
theorem so_none : SO X W none oNo := PO.imp po_none fun σ H Q ⟨α, ρ, S, hE, hS, q⟩ => q H α (.refl _ _) hS
theorem so_some {f : VM} (h : SV X W e f) : SO X W (some e) (oAt f) := by
  refine PO.imp (po_some h) fun σ H Q ⟨α, ρ, S, hE, hS, q⟩ => ⟨α, ρ, S, hE, hS, ?_⟩
  refine wpR_mono (wpR_bind q) (fun x S1 h1 v H1 α1 x1 s1 r1 f1 => ?_) fun _ _ z => z
  split at h1
  · rename_i i
    exact ⟨i, by simpa only [RepX, Rep] using r1, h1 H1 α1 x1 s1⟩
  · exact h1.elim
def mSl (f : VM) (lo hi : OM) : VM := fun ρ S => (f ρ S).bind fun x S1 => (lo ρ S1).bind fun l S2 => (hi ρ S2).bind fun u S3 => ap1 (gSl l u) S3 x
def rSlAll (K : PySem.W.Frag) : V → Option Int → Option Int → Hp → VK → Prop := fun x lo hi H Q => (rSlL K x lo hi H Q ∨ rSlA K x lo hi H Q) ∨ rSlS x lo hi H Q
theorem sl_all : SlR X (rSlAll X.K) := (sl_list.or sl_tupA).or sl_str
theorem cut_whole {α : Type} {xs : List α} {lo hi : Option Int} (h : HT.sIx xs.length 0 lo = 0 ∧ HT.sIx xs.length xs.length hi = xs.length) : cutD xs lo hi = xs := by
  unfold cutD
  rw [h.1, h.2]
  simp
theorem og_sl {lo hi : Option Int} : UnG X (fun x H Q => rSlAll X.K x lo hi H Q) (gSl lo hi) := by
  intro H p x z Q rx hz k
  cases p with
  | lst ds =>
    cases hz
    obtain ⟨l, xs, rfl, q, r⟩ := rx.seqL
    exact .inl (.inl ⟨l, xs, rfl, q, k.new (r.cut lo hi)⟩)
  | tup ds =>
    cases hz
    obtain ⟨l, xs, rfl, q, r⟩ := rx.tup
    refine .inl (.inr ⟨l, xs, rfl, q, fun hw => ?_, fun _ => k.newT (r.cut lo hi)⟩)
    rw [← r.length] at hw
    rw [cut_whole hw] at k
    exact k.old (Rep.tup_mk q r)
  | str w =>
    obtain ⟨hl, rfl⟩ := ite_some hz
    exact .inr ⟨w, rx.str, by rw [lim_eq]; exact hl, k.str⟩
  | _ => cases hz
theorem sv_slice {lo hi : Option Expr} {p2 : Pos} {f : VM} {l u : OM} (h : SV X W e f) (hl : SO X W lo l) (hu : SO X W hi u) : SV X W (.Subscript e (.Slice lo hi none p2) pos) (mSl f l u) := by
  refine PE.imp (pe_slice sl_all h hl hu) fun σ H Q ⟨α, ρ, S, hE, hS, q⟩ => ⟨α, ρ, S, hE, hS, ?_⟩
  refine wpR_mono (wpR_bind q) (fun x S1 h1 v H1 α1 x1 s1 r1 f1 => ?_) fun _ _ z => z
  refine ⟨α1, ρ, S1, hE.mono x1, s1, ?_⟩
  refine wpR_mono (wpR_bind h1) (fun lo S2 h2 H2 α2 x2 s2 => ?_) fun _ _ z => z.mono x1
  have x12 := x1.trans x2
  refine ⟨α2, ρ, S2, hE.mono x12, s2, ?_⟩
  refine wpR_mono (wpR_bind h2) (fun hi S3 h3 H3 α3 x3 s3 => ?_) fun _ _ z => z.mono x12
  exact ap1_ok og_sl s3 (r1.mono (x2.trans x3)) (wpR_mono h3 (fun z S' k => k.mono (x12.trans x3)) fun _ _ z => z)

/-! ### calls of built-ins -/
def pks (S : Sto) : List Val → Option (List D)
  | [] => some []
  | x :: xs => match pk S x, pks S xs with
    | some p, some ps => some (p :: ps)
    | _, _ => none
inductive RepPs (c : RC) (H : Hp) : List D → List V → Prop where
  | nil : RepPs c H [] []
  | cons {d : D} {v : V} {ds : List D} {vs : List V} : RepP c H d v → RepPs c H ds vs → RepPs c H (d :: ds) (v :: vs)
theorem pks_rep {c : RC} {α : List Addr} {H : Hp} {S : Sto} (s : RelS c α H S) : ∀ {xs : List Val} {vs : List V} {ds : List D}, RepAs c α H xs vs → pks S xs = some ds → RepPs c H ds vs
  | _, _, _, .nil, h => by
    cases h
    exact .nil
  | _, _, _, .cons (x := x) (xs := xs) r t, h => by
    unfold pks at h
    cases hp : pk S x with
    | none => rw [hp] at h; cases h
    | some p =>
      cases hps : pks S xs with
      | none => rw [hp, hps] at h; cases h
      | some ps =>
        rw [hp, hps] at h
        cases h
        exact .cons (pk_rep s r.X hp) (pks_rep s t hps)
def CallG (X : Cx) (r : List V → Hp → VK → Prop) (g : List D → Option Val) : Prop := ∀ (H : Hp) (ps : List D) (xs : List V) (z : Val) (Q : VK), RepPs (rc X) H ps xs → g ps = some z → okZ (rc X) Q H z → r xs H Q
def apN (g : List D → Option Val) (S : Sto) (xs : List Val) : R Val := match pks S xs with
  | some ps => (match g ps with
    | some z => .ok z S
    | none => .bad)
  | none => .bad
def mB (g : List D → Option Val) (fs : AM) : VM := fun ρ S => (fs ρ S).bind fun xs S1 => apN g S1 xs
theorem apN_ok {r : List V → Hp → VK → Prop} {g : List D → Option Val} (hg : CallG X r g) {α : List Addr} {H : Hp} {S : Sto} {xs : List Val} {vs : List V} {Q : VK} {er : Exc → Sto → Prop} (s : RelS (rc X) α H S) (rx : RepAs (rc X) α H xs vs)
    (h : wpR (apN g S xs) (okV (rc X) Q α H) er) : r vs H Q := by
  unfold apN at h
  cases hp : pks S xs with
  | none => rw [hp] at h; exact h.elim
  | some ps =>
    rw [hp] at h
    dsimp only at h
    cases hz : g ps with
    | none => rw [hz] at h; exact h.elim
    | some z =>
      rw [hz] at h
      exact hg H ps vs z Q (pks_rep s rx hp) hz (okV.Z h s)
theorem cb_of {r : List V → Hp → VK → Prop} {g : List D → Option Val} (hg : CallG X r g) {fs : AM} {σ : L2.St} {H : Hp} {Q : VK} (h : tV (rc X) W (mB g fs) σ H Q) : tCB r (tA (rc X) W fs) σ H Q := by
  obtain ⟨α, ρ, S, hE, hS, q⟩ := h
  refine ⟨α, ρ, S, hE, hS, ?_⟩
  refine wpR_mono (wpR_bind q) (fun xs S1 h1 vs H1 α1 x1 s1 r1 => ?_) fun _ _ z => z
  exact apN_ok hg s1 r1 (wpR_mono h1 (fun z S' k => k.mono x1) fun _ _ z => z)
theorem sv_b {r : List V → Hp → VK → Prop} {g : List D → Option Val} (hg : CallG X r g) {fs : AM} (h : PE X e (tCB r (tA (rc X) W fs))) : SV X W e (mB g fs) := PE.imp h fun σ H Q q => cb_of hg q
theorem RepPs.one {c : RC} {H : Hp} {p : D} {vs : List V} (r : RepPs c H [p] vs) : ∃ v, vs = [v] ∧ RepP c H p v := by
  cases r with
  | cons h t => cases t; exact ⟨_, rfl, h⟩
theorem RepPs.two {c : RC} {H : Hp} {p q : D} {vs : List V} (r : RepPs c H [p, q] vs) : ∃ v w, vs = [v, w] ∧ RepP c H p v ∧ RepP c H q w := by
  cases r with
  | cons h t =>
    obtain ⟨w, rfl, hw⟩ := t.one
    exact ⟨_, w, rfl, h, hw⟩
def g1 (f : D → Option Val) : List D → Option Val
  | [p] => f p
  | _ => none
def lenD : D → Option Val
  | .lst ds => some (.v (.int ds.length))
  | .tup ds => some (.v (.int ds.length))
  | .kl ds => some (.v (.int ds.length))
  | .str z => if z.length ≤ lim then some (.v (.int z.length)) else none
  | _ => none
def rLen (K : PySem.W.Frag) : List V → Hp → VK → Prop := fun xs H Q => ∃ x n, xs = [x] ∧ LenV K x H n ∧ Q (.int n) H
theorem cg1 {r : List V → Hp → VK → Prop} {f : D → Option Val} (h : UnG X (fun x H Q => r [x] H Q) f) : CallG X r (g1 f) := by
  intro H ps xs z Q rp hz k
  match ps, hz with
  | [p], hz =>
    obtain ⟨v, rfl, rv⟩ := rp.one
    exact h H p v z Q rv hz k
theorem cg_len : CallG X (rLen X.K) (g1 lenD) := cg1 fun H p x z Q rx hz k => by
  cases p with
  | lst ds =>
    cases hz
    obtain ⟨l, xs, rfl, q, r⟩ := rx.seqL
    exact ⟨_, ds.length, rfl, .inl ⟨xs, q, r.length⟩, k.int⟩
  | tup ds =>
    cases hz
    obtain ⟨l, xs, rfl, q, r⟩ := rx.tup
    exact ⟨_, ds.length, rfl, .inr ⟨xs, q, r.length⟩, k.int⟩
  | kl ds =>
    cases hz
    have r' : Rep (rc X) H (.kl ds) x := rx
    simp only [Rep] at r'
    obtain ⟨l, xs, rfl, q, r⟩ := r'
    exact ⟨_, ds.length, rfl, .inl ⟨xs, q.seq, r.length⟩, k.int⟩
  | str w =>
    obtain ⟨hl, rfl⟩ := ite_some hz
    exact ⟨_, w.length, rfl, by rw [rx.str]; exact ⟨by rw [lim_eq]; exact hl, rfl⟩, k.int⟩
  | _ => cases hz
/-- a list of ints, of truth values, of texts -/
def intsOf : List D → Option (List Int)
  | [] => some []
  | .int i :: r => (intsOf r).map (i :: ·)
  | _ :: _ => none
def blsOf : List D → Option (List Bool)
  | [] => some []
  | .bl i :: r => (blsOf r).map (i :: ·)
  | _ :: _ => none
def strsOf : List D → Option (List PySem.Str)
  | [] => some []
  | .str i :: r => (strsOf r).map (i :: ·)
  | _ :: _ => none
theorem intsOf_map : ∀ ns : List Int, intsOf (ns.map D.int) = some ns
  | [] => rfl
  | n :: r => by
    show (intsOf (r.map D.int)).map (n :: ·) = some (n :: r)
    rw [intsOf_map r]
    rfl
theorem blsOf_map : ∀ ns : List Bool, blsOf (ns.map D.bl) = some ns
  | [] => rfl
  | n :: r => by
    show (blsOf (r.map D.bl)).map (n :: ·) = some (n :: r)
    rw [blsOf_map r]
    rfl
theorem strsOf_map : ∀ ns : List PySem.Str, strsOf (ns.map D.str) = some ns
  | [] => rfl
  | n :: r => by
    show (strsOf (r.map D.str)).map (n :: ·) = some (n :: r)
    rw [strsOf_map r]
    rfl
theorem intsOf_rep {c : RC} {H : Hp} : ∀ {ds : List D} {ns : List Int} {xs : List V}, intsOf ds = some ns → Reps c H ds xs → xs = ns.map V.int
  | [], _, _, h, r => by
    cases h
    exact r.nil_of
  | .int i :: ds, _, _, h, r => by
    obtain ⟨ns, hn, rfl⟩ := map_some h
    simp only [Reps, Rep] at r
    obtain ⟨x, ys, rfl, rfl, t⟩ := r
    rw [List.map_cons, intsOf_rep hn t]
theorem blsOf_rep {c : RC} {H : Hp} : ∀ {ds : List D} {ns : List Bool} {xs : List V}, blsOf ds = some ns → Reps c H ds xs → xs = ns.map V.bl
  | [], _, _, h, r => by
    cases h
    exact r.nil_of
  | .bl i :: ds, _, _, h, r => by
    obtain ⟨ns, hn, rfl⟩ := map_some h
    simp only [Reps, Rep] at r
    obtain ⟨x, ys, rfl, rfl, t⟩ := r
    rw [List.map_cons, blsOf_rep hn t]
theorem strsOf_rep {c : RC} {H : Hp} : ∀ {ds : List D} {ns : List PySem.Str} {xs : List V}, strsOf ds = some ns → Reps c H ds xs → xs = ns.map V.str
  | [], _, _, h, r => by
    cases h
    exact r.nil_of
  | .str i :: ds, _, _, h, r => by
    obtain ⟨ns, hn, rfl⟩ := map_some h
    simp only [Reps, Rep] at r
    obtain ⟨x, ys, rfl, rfl, t⟩ := r
    rw [List.map_cons, strsOf_rep hn t]
def sumD : D → Option Val
  | .lst ds => (intsOf ds).map fun ns => .v (.int ns.sum)
  | _ => none
theorem cg_sum : CallG X (rSum X.K) (g1 sumD) := cg1 fun H p x z Q rx hz k => by
  cases p with
  | lst ds =>
    obtain ⟨ns, hn, rfl⟩ := map_some hz
    obtain ⟨l, xs, rfl, q, r⟩ := rx.seqL
    rw [intsOf_rep hn r] at q
    exact ⟨l, ns, rfl, q, k.int⟩
  | _ => cases hz
def allD : D → Option Val
  | .lst ds => (blsOf ds).map fun ns => .v (.bl (ns.all id))
  | _ => none
def anyD : D → Option Val
  | .lst ds => (blsOf ds).map fun ns => .v (.bl (ns.any id))
  | _ => none
theorem cg_all : CallG X (rAll X.K) (g1 allD) := cg1 fun H p x z Q rx hz k => by
  cases p with
  | lst ds =>
    obtain ⟨ns, hn, rfl⟩ := map_some hz
    obtain ⟨l, xs, rfl, q, r⟩ := rx.seqL
    rw [blsOf_rep hn r] at q
    exact ⟨l, ns, rfl, q, k.bl⟩
  | _ => cases hz
theorem cg_any : CallG X (rAny X.K) (g1 anyD) := cg1 fun H p x z Q rx hz k => by
  cases p with
  | lst ds =>
    obtain ⟨ns, hn, rfl⟩ := map_some hz
    obtain ⟨l, xs, rfl, q, r⟩ := rx.seqL
    rw [blsOf_rep hn r] at q
    exact ⟨l, ns, rfl, q, k.bl⟩
  | _ => cases hz
def g2I (h : Int → Int → Int) : List D → Option Val
  | [.int i, .int j] => some (.v (.int (h i j)))
  | _ => none
theorem cg_2I {h : Int → Int → Int} : CallG X (fun xs H Q => ∃ i j, xs = [.int i, .int j] ∧ Q (.int (h i j)) H) (g2I h) := by
  intro H ps xs z Q rp hz k
  unfold g2I at hz
  split at hz
  · cases hz
    obtain ⟨v, w, rfl, rv, rw'⟩ := rp.two
    exact ⟨_, _, by rw [rv.int, rw'.int], k.int⟩
  · cases hz
def gMax2 := g2I fun i j => if j > i then j else i
def gMin2 := g2I fun i j => if j < i then j else i
theorem cg_max2 : CallG X (fun xs H Q => ∃ i j, xs = [.int i, .int j] ∧ Q (.int (if j > i then j else i)) H) gMax2 := cg_2I
theorem cg_min2 : CallG X (fun xs H Q => ∃ i j, xs = [.int i, .int j] ∧ Q (.int (if j < i then j else i)) H) gMin2 := cg_2I
def absD : D → Option Val
  | .int i => some (.v (.int (if i < 0 then -i else i)))
  | _ => none
theorem cg_abs : CallG X (fun xs H Q => ∃ i, xs = [.int i] ∧ Q (.int (if i < 0 then -i else i)) H) (g1 absD) := cg1 fun H p x z Q rx hz k => by
  cases p with
  | int i =>
    cases hz
    exact ⟨i, by rw [rx.int], k.int⟩
  | _ => cases hz
/-- the greatest, the least of a list of ints -/
def maxI : List Int → Int
  | [] => 0
  | [x] => x
  | x :: r => max x (maxI r)
def minI : List Int → Int
  | [] => 0
  | [x] => x
  | x :: r => min x (minI r)
theorem maxI_mem : ∀ {ns : List Int}, ns ≠ [] → maxI ns ∈ ns ∧ ∀ y ∈ ns, y ≤ maxI ns
  | [], h => absurd rfl h
  | [x], _ => by simp [maxI]
  | x :: y :: r, _ => by
    obtain ⟨h1, h2⟩ := maxI_mem (ns := y :: r) (List.cons_ne_nil _ _)
    have e : maxI (x :: y :: r) = max x (maxI (y :: r)) := rfl
    rw [e]
    refine ⟨?_, fun z hz => ?_⟩
    · rcases Int.le_total x (maxI (y :: r)) with h | h
      · rw [Int.max_eq_right h]
        exact List.mem_cons_of_mem _ h1
      · rw [Int.max_eq_left h]
        exact List.mem_cons_self
    · rcases List.mem_cons.mp hz with rfl | hz
      · exact Int.le_max_left _ _
      · exact Int.le_trans (h2 z hz) (Int.le_max_right _ _)
theorem minI_mem : ∀ {ns : List Int}, ns ≠ [] → minI ns ∈ ns ∧ ∀ y ∈ ns, minI ns ≤ y
  | [], h => absurd rfl h
  | [x], _ => by simp [minI]
  | x :: y :: r, _ => by
    obtain ⟨h1, h2⟩ := minI_mem (ns := y :: r) (List.cons_ne_nil _ _)
    have e : minI (x :: y :: r) = min x (minI (y :: r)) := rfl
    rw [e]
    refine ⟨?_, fun z hz => ?_⟩
    · rcases Int.le_total x (minI (y :: r)) with h | h
      · rw [Int.min_eq_left h]
        exact List.mem_cons_self
      · rw [Int.min_eq_right h]
        exact List.mem_cons_of_mem _ h1
    · rcases List.mem_cons.mp hz with rfl | hz
      · exact Int.min_le_left _ _
      · exact Int.le_trans (Int.min_le_right _ _) (h2 z hz)
def maxD : D → Option Val
  | .lst ds => match intsOf ds with
    | some (n :: r) => some (.v (.int (maxI (n :: r))))
    | _ => none
  | _ => none
def minD : D → Option Val
  | .lst ds => match intsOf ds with
    | some (n :: r) => some (.v (.int (minI (n :: r))))
    | _ => none
  | _ => none
theorem cg_max : CallG X (rMax X.K) (g1 maxD) := cg1 fun H p x z Q rx hz k => by
  cases p with
  | lst ds =>
    have hz' : (match intsOf ds with
      | some (n :: r) => some (Val.v (.int (maxI (n :: r))))
      | _ => none) = some z := hz
    split at hz'
    · rename_i n r hn
      cases hz'
      obtain ⟨l, xs, rfl, q, rr⟩ := rx.seqL
      rw [intsOf_rep hn rr] at q
      refine ⟨l, n :: r, rfl, q, Nat.succ_pos _, fun m hm hu => ?_⟩
      obtain ⟨h1, h2⟩ := maxI_mem (ns := n :: r) (List.cons_ne_nil _ _)
      have e : m = maxI (n :: r) := Int.le_antisymm (h2 m hm) (hu _ h1)
      rw [e]
      exact k.int
    · cases hz'
  | _ => cases hz
theorem cg_min : CallG X (rMin X.K) (g1 minD) := cg1 fun H p x z Q rx hz k => by
  cases p with
  | lst ds =>
    have hz' : (match intsOf ds with
      | some (n :: r) => some (Val.v (.int (minI (n :: r))))
      | _ => none) = some z := hz
    split at hz'
    · rename_i n r hn
      cases hz'
      obtain ⟨l, xs, rfl, q, rr⟩ := rx.seqL
      rw [intsOf_rep hn rr] at q
      refine ⟨l, n :: r, rfl, q, Nat.succ_pos _, fun m hm hu => ?_⟩
      obtain ⟨h1, h2⟩ := minI_mem (ns := n :: r) (List.cons_ne_nil _ _)
      have e : m = minI (n :: r) := Int.le_antisymm (hu _ h1) (h2 m hm)
      rw [e]
      exact k.int
    · cases hz'
  | _ => cases hz
/-- list(x), tuple(x) -/
def listD : D → Option Val
  | .lst ds => some (.n ds)
  | .tup ds => some (.n ds)
  | _ => none
def tupleD : D → Option Val
  | .lst ds => some (.v (.tup ds))
  | .tup ds => some (.v (.tup ds))
  | _ => none
theorem cg_list : CallG X (fun xs H Q => ∃ p ys, xs = [.ref p] ∧ (SqL X.K H p ys ∨ SqT X.K H p ys) ∧ ∀ l, H l = none → Q (.ref l) (upd H l (.lst ys))) (g1 listD) := cg1 fun H p x z Q rx hz k => by
  cases p with
  | lst ds =>
    cases hz
    obtain ⟨l, xs, rfl, q, r⟩ := rx.seqL
    exact ⟨l, xs, rfl, .inl q, k.new r⟩
  | tup ds =>
    cases hz
    obtain ⟨l, xs, rfl, q, r⟩ := rx.tup
    exact ⟨l, xs, rfl, .inr q, k.new r⟩
  | _ => cases hz
theorem cg_tuple : CallG X (fun xs H Q => ∃ p ys, xs = [.ref p] ∧ ((SqL X.K H p ys ∧ ∀ l, H l = none → Q (.ref l) (upd H l (.tup ys))) ∨ (SqT X.K H p ys ∧ Q (.ref p) H))) (g1 tupleD) := cg1 fun H p x z Q rx hz k => by
  cases p with
  | lst ds =>
    cases hz
    obtain ⟨l, xs, rfl, q, r⟩ := rx.seqL
    exact ⟨l, xs, rfl, .inl ⟨q, k.newT r⟩⟩
  | tup ds =>
    cases hz
    obtain ⟨l, xs, rfl, q, r⟩ := rx.tup
    exact ⟨l, xs, rfl, .inr ⟨q, k.old (Rep.tup_mk q r)⟩⟩
  | _ => cases hz
/-- int(x), str(x) -/
def intD : D → Option Val
  | .int i => some (.v (.int i))
  | .bl b => some (.v (.int (if b then 1 else 0)))
  | .str a => match PySem.intText? a with
    | some n => if a.length ≤ 640 then some (.v (.int n)) else none
    | none => none
  | _ => none
def rInt : List V → Hp → VK → Prop := fun xs H Q => ((∃ i, xs = [.int i] ∧ Q (.int i) H) ∨ ∃ k, xs = [.bl k] ∧ Q (.int (if k then 1 else 0)) H) ∨ ∃ a n, xs = [.str a] ∧ PySem.intText? a = some n ∧ a.length ≤ 640 ∧ Q (.int n) H
theorem CallR.or {f : Value} {r r' : List V → Hp → VK → Prop} (h : CallR X f r) (h' : CallR X f r') : CallR X f (fun xs H Q => r xs H Q ∨ r' xs H Q) := by
  intro pins s σ H xs us Q I rv q
  rcases q with q | q
  · exact h pins s σ H xs us Q I rv q
  · exact h' pins s σ H xs us Q I rv q
theorem call_intA : CallR X (.type "int") rInt := CallR.or call_int1 call_int_str
theorem cg_int : CallG X rInt (g1 intD) := cg1 fun H p x z Q rx hz k => by
  cases p with
  | int i =>
    cases hz
    exact .inl (.inl ⟨i, by rw [rx.int], k.int⟩)
  | bl i =>
    cases hz
    exact .inl (.inr ⟨i, by rw [rx.bl], k.int⟩)
  | str a =>
    have hz' : (match PySem.intText? a with
      | some n => if a.length ≤ 640 then some (Val.v (.int n)) else none
      | none => none) = some z := hz
    split at hz'
    · rename_i n hn
      obtain ⟨hl, rfl⟩ := ite_some hz'
      exact .inr ⟨a, n, by rw [rx.str], hn, hl, k.int⟩
    · cases hz'
  | _ => cases hz
def strD : D → Option Val
  | .int i => if i.natAbs.log2 < 1920 then some (.v (.str (toString i))) else none
  | .str a => some (.v (.str a))
  | _ => none
def rStr : List V → Hp → VK → Prop := fun xs H Q => (∃ i, xs = [.int i] ∧ i.natAbs.log2 < 1920 ∧ Q (.str (toString i)) H) ∨ ∃ a, xs = [.str a] ∧ Q (.str a) H
theorem call_strA : CallR X (.type "str") rStr := CallR.or call_str_int (by
  intro pins s σ H xs us Q I r h
  obtain ⟨a, rfl, q⟩ := h
  obtain ⟨u, rfl, t, rfl⟩ := vals1 r
  exact PySem.P.str_of_str ⟨.str a, H, I, ⟨t, rfl⟩, q⟩)
theorem cg_str : CallG X rStr (g1 strD) := cg1 fun H p x z Q rx hz k => by
  cases p with
  | int i =>
    obtain ⟨hl, rfl⟩ := ite_some hz
    exact .inl ⟨i, by rw [rx.int], hl, k.str⟩
  | str a =>
    cases hz
    exact .inr ⟨a, by rw [rx.str], k.str⟩
  | _ => cases hz
/-- repr(x) -/
def rRepr (K : PySem.W.Frag) : List V → Hp → VK → Prop := fun xs H Q => ∃ x d, xs = [x] ∧ Dp K H x d ∧ d.showable = true ∧ d.depth ≤ 64 ∧ d.shown.length ≤ sizeLine ∧ Q (.str d.shown) H
mutual
theorem dp_noDict {K : PySem.W.Frag} {H : Hp} : ∀ (d : PyData) {v : V}, Dp K H v d → d.hasDict = false
  | .none, _, _ => by simp only [PyData.hasDict]
  | .bool _, _, _ => by simp only [PyData.hasDict]
  | .int _, _, _ => by simp only [PyData.hasDict]
  | .str _, _, _ => by simp only [PyData.hasDict]
  | .list ds, _, h => by
    cases h with
    | lst hs ha =>
      simp only [PyData.hasDict]
      exact dp_noDicts ds ha
  | .tuple ds, _, h => by
    cases h with
    | tup hs ha =>
      simp only [PyData.hasDict]
      exact dp_noDicts ds ha
  | .dict _, _, h => by cases h
theorem dp_noDicts {K : PySem.W.Frag} {H : Hp} : ∀ (ds : List PyData) {vs : List V}, DpAll K H vs ds → PyData.hasDictAll ds = false
  | [], _, _ => by simp only [PyData.hasDictAll]
  | d :: ds, _, h => by
    cases h with
    | cons h1 h2 =>
      simp only [PyData.hasDictAll]
      rw [dp_noDict d h1, dp_noDicts ds h2]
      rfl
end
theorem call_reprA (hgd : X.A.guards = some []) (hu : X.A.units + 65 < cLine) : CallR X (.builtin "repr") (rRepr X.K) := by
  intro pins s σ H xs us Q I r h
  obtain ⟨x, d, rfl, hd, h1, h2, h3, q⟩ := h
  obtain ⟨u, rfl, rx⟩ := vals1 r
  have nd := dp_noDict _ hd
  cases hd with
  | non =>
    cases rx
    exact PySem.P.repr_of_none ⟨.str _, H, I.tok _, ⟨_, rfl⟩, q⟩
  | bl b =>
    cases rx
    refine PySem.P.repr_of_bool ⟨.str _, H, I.tok _, ⟨_, rfl⟩, ?_⟩
    simp only [PyData.shown] at q
    cases b <;> exact q
  | int i =>
    obtain ⟨t, rfl⟩ := rx
    refine PySem.P.repr_of_int (by simpa [PyData.showable] using h1) ⟨.str _, H, I.tok _, ⟨_, rfl⟩, ?_⟩
    simp only [PyData.shown] at q
    exact q
  | str y =>
    obtain ⟨t, rfl⟩ := rx
    refine PySem.P.repr_of_str ⟨.str _, H, I.tok _, ⟨_, rfl⟩, ?_⟩ (by simpa only [PyData.shown] using h3)
    simp only [PyData.shown] at q
    exact q
  | @lst a xs ds hs ha =>
    obtain ⟨as, rd⟩ := Dp.reads I _ _ u (.lst hs ha) rx
    cases rx
    exact repr_of_reads' rd h1 (fun z => by rw [nd] at z; cases z) hgd (by omega) (fun _ _ q => q) (fun h' u tk kp => ⟨.str _, H, I.kept kp, ⟨_, rfl⟩, q⟩) h3
  | @tup a xs ds hs ha =>
    obtain ⟨as, rd⟩ := Dp.reads I _ _ u (.tup hs ha) rx
    cases rx
    exact repr_of_reads' rd h1 (fun z => by rw [nd] at z; cases z) hgd (by omega) (fun _ _ q => q) (fun h' u tk kp => ⟨.str _, H, I.kept kp, ⟨_, rfl⟩, q⟩) h3
def reprD : D → Option Val := fun p => match D.py p with
  | some d => if d.showable && decide (d.depth ≤ 64) && decide (d.shown.length ≤ lim) then some (.v (.str d.shown)) else none
  | none => none
theorem cg_repr : CallG X (rRepr X.K) (g1 reprD) := cg1 fun H p x z Q rx hz k => by
  unfold reprD at hz
  split at hz
  · rename_i d hd
    obtain ⟨hc, rfl⟩ := ite_some hz
    rw [Bool.and_eq_true, Bool.and_eq_true, decide_eq_true_eq, decide_eq_true_eq] at hc
    exact ⟨x, d, rfl, rx.dp hd, hc.1.1, hc.1.2, by rw [lim_eq]; exact hc.2, k.str⟩
  · cases hz
end M

namespace M
open PySem PySem.Spec PyProof.Rows L2
variable {X : Cx} {W : WX} {o a b e : Expr} {es : List Expr} {pos apos cpos : Pos} {name : PySem.Str} {T id : String}

/-! ### methods that change a list -/
abbrev ArM := Sto → List Val → Option (List D)
abbrev ArP := RC → Hp → List D → List V → Prop
def ArOk (ar : ArM) (A : ArP) : Prop := ∀ (c : RC) (α : List Addr) (H : Hp) (S : Sto) (xs : List Val) (vs : List V) (ps : List D), RelS c α H S → RepAs c α H xs vs → ar S xs = some ps → A c H ps vs
/-- arguments that are kept: data; that are read: anything -/
def arK : ArM := fun _ xs => dats xs
theorem arK_ok : ArOk arK Reps := fun c α H S xs vs ps s r h => dats_rep r h
theorem arR_ok : ArOk pks RepPs := fun c α H S xs vs ps s r h => pks_rep s r h
def MutG (X : Cx) (A : ArP) (r : V → List V → Hp → VK → Prop) (h : List D → List D → Option (List D × D)) : Prop :=
  ∀ (H : Hp) (l : Addr) (xs : List V) (ds ps : List D) (vs : List V) (ds' : List D) (d : D) (Q : VK), H l = some (.lst xs) → Reps (rc X) H ds xs → A (rc X) H ps vs → h ds ps = some (ds', d) →
    (∀ xs' v, Reps (rc X) H ds' xs' → Rep (rc X) H d v → Q v (upd H l (.lst xs'))) → r (.ref l) vs H Q
def mMut (ar : ArM) (h : List D → List D → Option (List D × D)) (f : VM) (fs : AM) : VM := fun ρ S => (f ρ S).bind fun x S1 => match x with
  | .l n => (match S1[n]? with
    | some (some _) => (fs ρ S1).bind fun ys S2 => (match S2[n]? with
      | some (some ds) => (match ar S2 ys with
        | some ps => (match h ds ps with
          | some (ds', d) => .ok (.v d) (S2.set n (some ds'))
          | none => .bad)
        | none => .bad)
      | _ => .bad)
    | _ => .bad)
  | _ => .bad
theorem RelS.put {c : RC} {α : List Addr} {H : Hp} {S : Sto} {n : Nat} {a : Addr} {xs xs' : List V} {ds' : List D} (s : RelS c α H S) (ea : α[n]? = some a) (eh : H a = some (.lst xs)) (r : Reps c H ds' xs') : RelS c α (upd H a (.lst xs')) (S.set n (some ds')) := by
  have le : LeH H (upd H a (.lst xs')) := fun b => ⟨fun ys q => by rw [upd_ne (fun z => by rw [z, eh] at q; cases q)]; exact q, fun u w q => by rw [upd_ne (fun z => by rw [z, eh] at q; cases q)]; exact q⟩
  have hn : n < S.length := by rw [← s.len]; exact (List.getElem?_eq_some_iff.mp ea).1
  refine ⟨by simp [s.len], s.nd, fun b hb => ?_, fun m es e => ?_⟩
  · by_cases hba : b = a
    · subst hba
      rw [upd_same]
      simp
    · rw [upd_ne hba]
      exact s.tr b hb
  · by_cases hm : n = m
    · subst hm
      rw [List.getElem?_set_self hn] at e
      cases e
      exact ⟨a, xs', ea, upd_same, r.mono le⟩
    · rw [List.getElem?_set_ne hm] at e
      obtain ⟨b, ys, e1, e2, r2⟩ := s.at_ m es e
      have hba : b ≠ a := fun z => by
        subst z
        exact hm (nodup_at s.nd ea e1)
      exact ⟨b, ys, e1, by rw [upd_ne hba]; exact e2, r2.mono le⟩
theorem Ext.put {α α' : List Addr} {H H' : Hp} {a : Addr} {xs xs' : List V} (x : Ext α α' H H') (ha : a ∈ α') (eh : H' a = some (.lst xs)) : Ext α α' H (upd H' a (.lst xs')) := by
  refine ⟨x.pre, fun b u q nb => ?_, x.nw, x.le.trans fun b => ⟨fun ys q => by rw [upd_ne (fun z => by rw [z, eh] at q; cases q)]; exact q, fun u w q => by rw [upd_ne (fun z => by rw [z, eh] at q; cases q)]; exact q⟩⟩
  have hba : b ≠ a := fun z => by
    subst z
    have := x.nw b ha nb
    rw [q] at this
    cases this
  rw [upd_ne hba]
  exact x.fr b u q nb
theorem LeH.put {H : Hp} {a : Addr} {xs xs' : List V} (eh : H a = some (.lst xs)) : LeH H (upd H a (.lst xs')) := fun b => ⟨fun ys q => by rw [upd_ne (fun z => by rw [z, eh] at q; cases q)]; exact q, fun u w q => by rw [upd_ne (fun z => by rw [z, eh] at q; cases q)]; exact q⟩
theorem mut_of {ar : ArM} {A : ArP} (hA : ArOk ar A) {r : V → List V → Hp → VK → Prop} {h : List D → List D → Option (List D × D)} (hg : MutG X A r h) {f : VM} {fs : AM} {σ : L2.St} {H : Hp} {Q : VK} (q : tV (rc X) W (mMut ar h f fs) σ H Q) :
    tV (rc X) W f σ H fun x H1 => tyV X.K "list" x H1 ∧ tA (rc X) W fs σ H1 fun xs H2 => r x xs H2 Q := by
  obtain ⟨α, ρ, S, hE, hS, q⟩ := q
  refine ⟨α, ρ, S, hE, hS, ?_⟩
  refine wpR_mono (wpR_bind q) (fun x S1 h1 v H1 α1 x1 s1 r1 f1 => ?_) fun _ _ z => z
  cases x with
  | v d => exact h1.elim
  | n ds => exact h1.elim
  | l n =>
    dsimp only at h1
    cases hn : S1[n]? with
    | none => rw [hn] at h1; exact h1.elim
    | some od =>
      cases od with
      | none => rw [hn] at h1; exact h1.elim
      | some ds0 =>
        rw [hn] at h1
        dsimp only at h1
        obtain ⟨l, el, rfl⟩ := r1
        obtain ⟨l', xs0, el', eh, _⟩ := s1.at_ n ds0 hn
        rw [el] at el'
        cases el'
        refine ⟨.inl ⟨rfl, xs0, .inl (.inl eh)⟩, α1, ρ, S1, hE.mono x1, s1, ?_⟩
        refine wpR_mono (wpR_bind h1) (fun ys S2 h2 vs H2 α2 x2 s2 r2 => ?_) fun _ _ z => z.mono x1
        cases hn2 : S2[n]? with
        | none => rw [hn2] at h2; exact h2.elim
        | some od =>
          cases od with
          | none => rw [hn2] at h2; exact h2.elim
          | some ds =>
            rw [hn2] at h2
            dsimp only at h2
            cases hp : ar S2 ys with
            | none => rw [hp] at h2; exact h2.elim
            | some ps =>
              rw [hp] at h2
              dsimp only at h2
              cases hh : h ds ps with
              | none => rw [hh] at h2; exact h2.elim
              | some dd =>
                obtain ⟨ds', d⟩ := dd
                rw [hh] at h2
                obtain ⟨l2, xs, el2, eh2, rr⟩ := s2.at_ n ds hn2
                have el3 := pre_get x2.pre el
                rw [el3] at el2
                cases el2
                refine hg H2 l xs ds ps vs ds' d Q eh2 rr (hA _ _ _ _ _ _ _ s2 r2 hp) hh fun xs' w rr' rw' => ?_
                exact h2 w _ α2 ((x1.trans x2).put (List.mem_of_getElem? el3) eh2) (s2.put el3 eh2 rr') (rw'.mono (LeH.put eh2)) trivial
theorem sv_mut {ar : ArM} {A : ArP} (hA : ArOk ar A) {r : V → List V → Hp → VK → Prop} {h : List D → List D → Option (List D × D)} {f : VM} {fs : AM} (hg : MutG X A r h) (p : PE X e (tBM X.K "list" r (tV (rc X) W f) (tA (rc X) W fs))) : SV X W e (mMut ar h f fs) := PE.imp p fun σ H Q q => mut_of hA hg q
theorem sv_mut0 {ar : ArM} {A : ArP} (hA : ArOk ar A) {r : V → List V → Hp → VK → Prop} {h : List D → List D → Option (List D × D)} {f : VM} (hg : MutG X A r h) (p : PE X e (tBM0 X.K "list" r (tV (rc X) W f))) : SV X W e (mMut ar h f mNil) := PE.imp p fun σ H Q q => by
  obtain ⟨α, ρ, S, hE, hS, q⟩ := mut_of hA hg q
  refine ⟨α, ρ, S, hE, hS, wpR_mono q (fun x S1 k v H1 α1 x1 s1 r1 f1 => ?_) fun _ _ z => z⟩
  obtain ⟨ty, α2, ρ2, S2, e2, s2, q2⟩ := k v H1 α1 x1 s1 r1 f1
  exact ⟨ty, q2 [] H1 α2 (.refl _ _) s2 .nil⟩
def hApp : List D → List D → Option (List D × D) := fun ds ps => match ps with
  | [d] => if ds.length < lim then some (ds ++ [d], .non) else none
  | _ => none
theorem Reps.one_of {c : RC} {H : Hp} {p : D} {vs : List V} (r : Reps c H [p] vs) : ∃ v, vs = [v] ∧ Rep c H p v := by
  simp only [Reps] at r
  obtain ⟨v, t, rfl, h, rfl⟩ := r
  exact ⟨v, rfl, h⟩
theorem Reps.two_of {c : RC} {H : Hp} {p q : D} {vs : List V} (r : Reps c H [p, q] vs) : ∃ v w, vs = [v, w] ∧ Rep c H p v ∧ Rep c H q w := by
  simp only [Reps] at r
  obtain ⟨v, t, rfl, h, w, t', rfl, h', rfl⟩ := r
  exact ⟨v, w, rfl, h, h'⟩
theorem rep_non {c : RC} {H : Hp} : Rep c H .non .non := by simp only [Rep]
theorem mg_app : MutG X Reps rAppend hApp := by
  intro H l xs ds ps vs ds' d Q eh r rp hh k
  unfold hApp at hh
  split at hh
  · rename_i p
    by_cases hl : ds.length < lim
    · rw [if_pos hl] at hh
      cases hh
      obtain ⟨v, rfl, rv⟩ := rp.one_of
      exact ⟨l, xs, v, rfl, rfl, eh, by rw [← r.length, lim_eq]; exact hl, k _ _ (r.append (.one rv)) rep_non⟩
    · rw [if_neg hl] at hh
      cases hh
  · cases hh
theorem Reps.dropLast {c : RC} {H : Hp} {ds : List D} {xs : List V} (r : Reps c H ds xs) : Reps c H ds.dropLast xs.dropLast := by
  rw [List.dropLast_eq_take, List.dropLast_eq_take, ← r.length]
  exact r.take _
def hPop : List D → List D → Option (List D × D) := fun ds ps => match ps with
  | [] => (ds[ds.length - 1]?).map fun d => (ds.dropLast, d)
  | _ => none
theorem mg_pop : MutG X Reps rPop hPop := by
  intro H l xs ds ps vs ds' d Q eh r rp hh k
  unfold hPop at hh
  split at hh
  · obtain ⟨y, hy, e⟩ := map_some hh
    cases e
    obtain ⟨v, ev, rv⟩ := r.get hy
    rw [r.length] at ev
    exact ⟨l, xs, v, rfl, rp.nil_of, eh, ev, k _ _ r.dropLast rv⟩
  · cases hh
def hRev : List D → List D → Option (List D × D) := fun ds ps => match ps with
  | [] => some (ds.reverse, .non)
  | _ => none
theorem mg_rev : MutG X Reps rReverse hRev := by
  intro H l xs ds ps vs ds' d Q eh r rp hh k
  unfold hRev at hh
  split at hh
  · cases hh
    exact ⟨l, xs, rfl, rp.nil_of, eh, k _ _ r.reverse rep_non⟩
  · cases hh
/-- extend by a list that is read -/
def rExtS : V → List V → Hp → VK → Prop := fun x vs H Q => ∃ l b xs zs, x = .ref l ∧ vs = [.ref b] ∧ H l = some (.lst xs) ∧ Rd H b (.lst zs) ∧ xs.length + zs.length ≤ sizeLine ∧ Q .non (upd H l (.lst (xs ++ zs)))
theorem mt_extS : MtR X "list.extend" rExtS := by
  intro pins s σ H x vs v us Q I rx rv h
  obtain ⟨l, b, xs, zs, rfl, rfl, hH, hB, hz, q⟩ := h
  cases rx
  obtain ⟨u, rfl, ru⟩ := vals1 rv
  cases ru
  obtain ⟨z, its, n, r, e⟩ := rd_at I (.inl hH)
  obtain ⟨z2, its2, n2, r2, e2⟩ := rd_at I hB
  have l1 := r.length
  have l2 := r2.length
  have hsz : its.toArray.size + its2.toArray.size ≤ sizeLine := by rw [List.size_toArray, List.size_toArray]; omega
  have hlong : ¬ (!its.toArray.isEmpty && Builtin.List.listTooLong (its.toArray.size + its2.toArray.size)) = true := by
    rw [notLongL hsz, Bool.and_false]
    exact Bool.false_ne_true
  refine call_meets F.slot_list_extend ⟨_, e, rfl⟩ F.entry_list_extend (F.args_list_extend_2 _ _) (AutoSeq1.list_extend_list_list_0 l its.toArray n b its2.toArray n2 hlong (by rw [List.size_toArray]; omega) (by omega)) ⟨e, e2, ?_⟩
  exact ⟨.non, _, I.lset (its' := its ++ its2) hH e (by simp) (r.append r2) (by rw [List.length_append]; exact hz), rfl, q⟩
def hExt : List D → List D → Option (List D × D) := fun ds ps => match ps with
  | [.lst es] => if ds.length + es.length ≤ lim then some (ds ++ es, .non) else none
  | _ => none
theorem mg_ext : MutG X RepPs rExtS hExt := by
  intro H l xs ds ps vs ds' d Q eh r rp hh k
  unfold hExt at hh
  split at hh
  · rename_i es
    by_cases hl : ds.length + es.length ≤ lim
    · rw [if_pos hl] at hh
      cases hh
      obtain ⟨v, rfl, b, zs, rfl, rd, r2⟩ := rp.one
      exact ⟨l, b, xs, zs, rfl, rfl, eh, rd, by rw [← r.length, ← r2.length, lim_eq]; exact hl, k _ _ (r.append r2) rep_non⟩
    · rw [if_neg hl] at hh
      cases hh
  · cases hh

/-! ### methods of a text -/
abbrev SFn := PySem.Str → List D → Option Val
def StrG (X : Cx) (r : V → List V → Hp → VK → Prop) (g : SFn) : Prop := ∀ (H : Hp) (z : PySem.Str) (ps : List D) (vs : List V) (y : Val) (Q : VK), RepPs (rc X) H ps vs → g z ps = some y → okZ (rc X) Q H y → r (.str z) vs H Q
def mStr (g : SFn) (f : VM) (fs : AM) : VM := fun ρ S => (f ρ S).bind fun x S1 => match x with
  | .v (.str z) => (fs ρ S1).bind fun ys S2 => apN (g z) S2 ys
  | _ => .bad
theorem str_of {r : V → List V → Hp → VK → Prop} {g : SFn} {f : VM} {fs : AM} (hg : StrG X r g) {σ : L2.St} {H : Hp} {Q : VK} (q : tV (rc X) W (mStr g f fs) σ H Q) :
    tV (rc X) W f σ H fun x H1 => tyV X.K "str" x H1 ∧ tA (rc X) W fs σ H1 fun xs H2 => r x xs H2 Q := by
  obtain ⟨α, ρ, S, hE, hS, q⟩ := q
  refine ⟨α, ρ, S, hE, hS, ?_⟩
  refine wpR_mono (wpR_bind q) (fun x S1 h1 v H1 α1 x1 s1 r1 f1 => ?_) fun _ _ z => z
  split at h1
  · rename_i z
    have ev : v = .str z := by simpa only [RepX, Rep] using r1
    subst ev
    refine ⟨rfl, α1, ρ, S1, hE.mono x1, s1, ?_⟩
    refine wpR_mono (wpR_bind h1) (fun ys S2 h2 vs H2 α2 x2 s2 r2 => ?_) fun _ _ z => z.mono x1
    exact apN_ok (r := fun vs H Q => r (.str z) vs H Q) (fun H ps xs y Q rp hz k => hg H z ps xs y Q rp hz k) s2 r2 (wpR_mono h2 (fun z S' k => k.mono (x1.trans x2)) fun _ _ z => z)
  · exact h1.elim
theorem sv_str1 {r : V → List V → Hp → VK → Prop} {g : SFn} {f : VM} {fs : AM} (hg : StrG X r g) (p : PE X e (tBM X.K "str" r (tV (rc X) W f) (tA (rc X) W fs))) : SV X W e (mStr g f fs) := PE.imp p fun σ H Q q => str_of hg q
theorem sv_str0 {r : V → List V → Hp → VK → Prop} {g : SFn} {f : VM} (hg : StrG X r g) (p : PE X e (tBM0 X.K "str" r (tV (rc X) W f))) : SV X W e (mStr g f mNil) := PE.imp p fun σ H Q q => by
  obtain ⟨α, ρ, S, hE, hS, q⟩ := str_of hg q
  refine ⟨α, ρ, S, hE, hS, wpR_mono q (fun x S1 k v H1 α1 x1 s1 r1 f1 => ?_) fun _ _ z => z⟩
  obtain ⟨ty, α2, ρ2, S2, e2, s2, q2⟩ := k v H1 α1 x1 s1 r1 f1
  exact ⟨ty, q2 [] H1 α2 (.refl _ _) s2 .nil⟩
/-- sep.join(texts) -/
def gJoin : SFn := fun a ps => match ps with
  | [.lst es] => match strsOf es with
    | some ys => if (ys.map (·.length)).sum + ys.length * a.length ≤ lim then some (.v (.str (Txt.join a ys))) else none
    | none => none
  | _ => none
def rJoinS (K : PySem.W.Frag) : V → List V → Hp → VK → Prop := fun x xs H Q => ∃ a p, ∃ ys : List PySem.Str, x = .str a ∧ xs = [.ref p] ∧ (SqL K H p (ys.map V.str) ∨ SqT K H p (ys.map V.str)) ∧ (ys.map (·.length)).sum + ys.length * a.length ≤ 16777216 ∧ Q (.str (Txt.join a ys)) H
theorem sg_join : StrG X (rJoinS X.K) gJoin := by
  intro H z ps vs y Q rp hz k
  unfold gJoin at hz
  split at hz
  · rename_i es
    split at hz
    · rename_i ys hs
      obtain ⟨hl, rfl⟩ := ite_some hz
      obtain ⟨v, rfl, p, xs, rfl, rd, r⟩ := rp.one
      rw [strsOf_rep hs r] at rd
      exact ⟨z, p, ys, rfl, rfl, .inl (.inl rd), hl, k.str⟩
    · cases hz
  · cases hz
/-- s.split(sep) -/
def gSplit : SFn := fun a ps => match ps with
  | [.str b] => if (b.length == 0) = false ∧ a.length + 2 ≤ lim then some (.n ((Txt.split a b).map D.str)) else none
  | _ => none
def rSplitS : V → List V → Hp → VK → Prop := fun x xs H Q => ∃ a b, x = .str a ∧ xs = [.str b] ∧ (b.length == 0) = false ∧ a.length + 2 ≤ sizeLine ∧ rNewStrs (Txt.split a b) H Q
theorem Reps.strs {c : RC} {H : Hp} : ∀ ns : List PySem.Str, Reps c H (ns.map D.str) (ns.map V.str)
  | [] => .nil
  | n :: r => .cons (by simp only [Rep]) (Reps.strs r)
theorem sg_split : StrG X rSplitS gSplit := by
  intro H z ps vs y Q rp hz k
  unfold gSplit at hz
  split at hz
  · rename_i b
    obtain ⟨⟨h1, h2⟩, rfl⟩ := ite_some hz
    obtain ⟨v, rfl, rv⟩ := rp.one
    exact ⟨z, b, rfl, by rw [rv.str], h1, by rw [lim_eq]; exact h2, k.new (.strs _)⟩
  · cases hz
/-- n.bit_length() -/
def bitsD : D → Option Val
  | .int i => some (.v (.int (Builtin.Int.intBits i : Nat)))
  | _ => none
theorem sv_bits {f : VM} (p : PE X e (tBits (tV (rc X) W f))) : SV X W e (mUn bitsD f) := PE.imp p fun σ H Q q => one_ (r := fun x H Q => ∃ i, x = .int i ∧ Q (.int (Builtin.Int.intBits i : Nat)) H) (fun H p x z Q rx hz k => by
  cases p with
  | int i =>
    cases hz
    exact ⟨i, rx.int, k.int⟩
  | _ => cases hz) q

/-! ### isinstance(x, T) -/
def tyD : D → Option String
  | .non => some "NoneType"
  | .bl _ => some "bool"
  | .int _ => some "int"
  | .str _ => some "str"
  | .tup _ => some "tuple"
  | .lst _ => some "list"
  | .fn _ => none
  | .kl _ => some "list"
  | .raw _ => none
def isiD (T : String) : D → Option Val := fun p => (tyD p).bind fun t => (kitB t T).map fun b => .v (.bl b)
theorem tyD_rep {H : Hp} {p : D} {x : V} {t : String} (r : RepP (rc X) H p x) (h : tyD p = some t) : TyX X.K H x (.type t) := by
  cases p with
  | non => cases h; rw [r.non]; exact .base .non
  | bl b => cases h; rw [r.bl]; exact .base (.bl b)
  | int b => cases h; rw [r.int]; exact .base (.int b)
  | str b => cases h; rw [r.str]; exact .base (.str b)
  | tup ds =>
    cases h
    obtain ⟨a, xs, rfl, q, _⟩ := r.tup
    rcases q with (q | ⟨o, q⟩) | ⟨o, its, n, q, qc, _⟩
    · exact .base (.tup q)
    · exact .fTuple q
    · exact .kTuple q qc
  | lst ds =>
    cases h
    obtain ⟨a, xs, rfl, q, _⟩ := r
    rcases q with q | ⟨o, q⟩
    · exact .base (.lst q)
    · exact .base (.frz q)
  | fn n => cases h
  | kl ds =>
    cases h
    have r' : Rep (rc X) H (.kl ds) x := r
    simp only [Rep] at r'
    obtain ⟨a, xs, rfl, q, _⟩ := r'
    rcases q with ⟨o, q⟩ | ⟨o, its, n, q, qc, _⟩
    · exact .base (.frz q)
    · exact .kList q qc
  | raw a => cases h
theorem sv_isi {T : String} {f : VM} (p : PE X e (tCB (rIsi X.K) (tCons (tV (rc X) W f) (tCons (tC (.ty T)) tNil)))) : SV X W e (mUn (isiD T) f) := PE.imp p fun σ H Q q => one_ (r := fun x H Q => rIsi X.K [x, .ty T] H Q) (fun H p x z Q rx hz k => by
  unfold isiD at hz
  cases ht : tyD p with
  | none => rw [ht] at hz; cases hz
  | some t =>
    rw [ht] at hz
    obtain ⟨b, hb, rfl⟩ := map_some hz
    exact ⟨x, .ty T, .type t, .type T, b, rfl, .ty T, tyD_rep rx ht, kit_ty hb, k.bl⟩) q

/-! ### sorted(a list of ints) -/
def sortI (ns : List Int) : List Int := ns.mergeSort fun a b => decide (a ≤ b)
theorem sortI_perm (ns : List Int) : (sortI ns).Perm ns := List.mergeSort_perm _ _
theorem sortI_le (ns : List Int) : (sortI ns).Pairwise (· ≤ ·) := by
  have := List.pairwise_mergeSort (le := fun a b : Int => decide (a ≤ b)) (fun a b c h1 h2 => by
    rw [decide_eq_true_eq] at *
    omega) (fun a b => by
    rw [Bool.or_eq_true, decide_eq_true_eq, decide_eq_true_eq]
    omega) ns
  exact this.imp fun h => by simpa using h
theorem sorted_eq {as bs : List Int} (p : as.Perm bs) (h1 : as.Pairwise (· ≤ ·)) (h2 : bs.Pairwise (· ≤ ·)) : as = bs :=
  p.eq_of_pairwise (fun a b _ _ x y => Int.le_antisymm x y) h1 h2
def sortD : D → Option Val
  | .lst ds => (intsOf ds).map fun ns => .n ((sortI ns).map D.int)
  | _ => none
theorem cg_sorted : CallG X (rSortedI X.K) (g1 sortD) := cg1 fun H p x z Q rx hz k => by
  cases p with
  | lst ds =>
    obtain ⟨ns, hn, rfl⟩ := map_some hz
    obtain ⟨l, xs, rfl, q, r⟩ := rx.seqL
    rw [intsOf_rep hn r] at q
    refine ⟨l, ns, rfl, q, fun ns' p hp hs hn => ?_⟩
    have e : ns' = sortI ns := sorted_eq (hp.trans (sortI_perm ns).symm) hs (sortI_le ns)
    rw [e]
    exact k.new (.ints _) p hn
  | _ => cases hz

/-! ### raise -/
def sRaise (cls : PySem.Str) : SM := fun ρ S => .er ⟨cls, none⟩ ρ S
theorem ss_raise {st : Stmt} {x : PySem.Str} {C : Addr} (hC : X.mg x = some (.ref C)) (p : PS X st (fun _ σ H => W (.ref C) none σ H)) : SS X W st (sRaise x) :=
  PS.imp p fun D σ H ⟨α, ρ, S, hE, hS, q⟩ => q (.ref C) none σ H α (.refl _ _) hE hS ⟨C, hC, rfl, rfl⟩
end M

namespace M
open PySem PySem.Spec PyProof.Rows L2

/-! ### list.count, list.index of data -/
section
variable {X : Cx} {W : WX} {e : Expr}
def rCntD (K : PySem.W.Frag) : V → List V → Hp → VK → Prop := fun x xs H Q => ∃ (a : Addr) (y : V) (d : PyData) (ds : List PyData), x = V.ref a ∧ xs = [y] ∧ Dp K H (V.ref a) (.list ds) ∧ Dp K H y d ∧ SeqAt.shaped (.list ds) = true ∧ SeqAt.shaped d = true ∧
  Q (.int (ds.countP fun z => PyData.eqv z d : Nat)) H
theorem mt_countD (hu : X.A.units + 65 < cLine) : MtR X "list.count" (rCntD X.K) := by
  intro pins s σ H x xs v us Q I rx rxs h
  obtain ⟨a, y, d, ds, rfl, rfl, hl, hy, sl, sd, q⟩ := h
  cases rx
  obtain ⟨uy, rfl, ry⟩ := vals1 rxs
  obtain ⟨bs, r1⟩ := Dp.reads I d y uy hy ry
  have lay : PyData.canLayAll0 ds = true := SeqAt.canLay_of_shaped sl
  have room : X.A.units + 1 + min (PyData.depthAll ds) d.depth < cLine := by
    have h1 := SeqAt.depth_of_shaped sd
    have h2 : min (PyData.depthAll ds) d.depth ≤ d.depth := Nat.min_le_right _ _
    omega
  cases hl with
  | lst hs ha =>
    obtain ⟨its, rv, ⟨⟨cls, dd, data, sls⟩, n, ho, hc, hdn, hdt⟩, hlen⟩ := I.list hs
    simp only at hc hdt
    subst hc hdt
    obtain ⟨as, h4⟩ := Dp.readsAll I ds _ its ha rv
    have back : its.map (SeqAt.readOf s.heap) = ds := SeqAt.readsAll_map ds its as lay h4
    refine call_meets PySem.F.slot_list_count ⟨_, ho, rfl⟩ PySem.F.entry_list_count (PySem.F.args_list_count_2 _ _)
      (SeqAt.list_countAt a its.toArray n dd sls uy (fun u => PyData.eqv (SeqAt.readOf s.heap u) d)) ⟨ho, SeqAt.items_eqAt (vs := its.toArray) (show ReadsAll s.heap its.toArray.toList ds as from h4) r1 lay (SeqAt.canLay_of_shaped sd) room, ?_⟩
    refine ⟨.int _, H, I.tok _, ⟨s.toks, ?_⟩, q⟩
    have e : its.toArray.toList.countP (fun u => PyData.eqv (SeqAt.readOf s.heap u) d) = ds.countP fun z => PyData.eqv z d := by
      rw [← back, List.countP_map]
      rfl
    rw [e]
/-- methods of a list that read -/
def LstG (X : Cx) (r : V → List V → Hp → VK → Prop) (g : List D → List D → Option Val) : Prop := ∀ (H : Hp) (ds ps : List D) (x : V) (vs : List V) (y : Val) (Q : VK), RepP (rc X) H (.lst ds) x → RepPs (rc X) H ps vs → g ds ps = some y → okZ (rc X) Q H y → r x vs H Q
def mLm (g : List D → List D → Option Val) (f : VM) (fs : AM) : VM := fun ρ S => (f ρ S).bind fun x S1 => match pk S1 x with
  | some (.lst _) => (fs ρ S1).bind fun ys S2 => (match pk S2 x with
    | some (.lst ds) => apN (g ds) S2 ys
    | _ => .bad)
  | _ => .bad
theorem sv_lm {r : V → List V → Hp → VK → Prop} {g : List D → List D → Option Val} {f : VM} {fs : AM} (hg : LstG X r g) (p : PE X e (tBM X.K "list" r (tV (rc X) W f) (tA (rc X) W fs))) : SV X W e (mLm g f fs) := by
  refine PE.imp p fun σ H Q ⟨α, ρ, S, hE, hS, q⟩ => ⟨α, ρ, S, hE, hS, ?_⟩
  refine wpR_mono (wpR_bind q) (fun x S1 h1 v H1 α1 x1 s1 r1 f1 => ?_) fun _ _ z => z
  split at h1
  · rename_i ds0 hp
    obtain ⟨l, xs, rfl, sq, _⟩ := (pk_rep s1 r1 hp).seqL
    refine ⟨.inl ⟨rfl, xs, sq⟩, α1, ρ, S1, hE.mono x1, s1, ?_⟩
    refine wpR_mono (wpR_bind h1) (fun ys S2 h2 vs H2 α2 x2 s2 r2 => ?_) fun _ _ z => z.mono x1
    split at h2
    · rename_i ds hp2
      have rp := pk_rep s2 (r1.mono x2) hp2
      exact apN_ok (r := fun vs H' Q' => RepP (rc X) H' (.lst ds) (.ref l) → r (.ref l) vs H' Q') (fun H ps xs y Q rps hz k rl => hg H ds ps _ xs y Q rl rps hz k) s2 r2 (wpR_mono h2 (fun z S' k => k.mono (x1.trans x2)) fun _ _ z => z) rp
    · exact h2.elim
  · exact h1.elim
def gCnt : List D → List D → Option Val := fun es ps => match ps with
  | [p] => match D.py p, D.pys es with
    | some d, some ds => if SeqAt.shaped (.list ds) && SeqAt.shaped d then some (.v (.int (ds.countP fun z => PyData.eqv z d : Nat))) else none
    | _, _ => none
  | _ => none
theorem lg_cnt : LstG X (rCntD X.K) gCnt := by
  intro H es ps x vs y Q rx rp hz k
  unfold gCnt at hz
  split at hz
  · rename_i p
    split at hz
    · rename_i d ds hd hds
      obtain ⟨hc, rfl⟩ := ite_some hz
      rw [Bool.and_eq_true] at hc
      obtain ⟨v, rfl, rv⟩ := rp.one
      have dl := rx.dp (p := .list ds) (by simp only [D.py, hds]; rfl)
      obtain ⟨l, xs, rfl, _, _⟩ := rx
      exact ⟨l, v, d, ds, rfl, rfl, dl, rv.dp hd, hc.1, hc.2, k.int⟩
    · cases hz
  · cases hz
/-- the first place of an equal one -/
def idxP (d : PyData) : List PyData → Option Nat
  | [] => none
  | z :: r => if PyData.eqv z d then some 0 else (idxP d r).map (· + 1)
theorem idxP_some {d : PyData} : ∀ {ds : List PyData} {j : Nat}, idxP d ds = some j → ∃ z, ds[j]? = some z ∧ PyData.eqv z d = true ∧ ∀ (m : Nat) (z' : PyData), m < j → ds[m]? = some z' → PyData.eqv z' d = false
  | [], j, h => by cases h
  | z :: r, j, h => by
    unfold idxP at h
    by_cases hz : PyData.eqv z d = true
    · rw [if_pos hz] at h
      cases h
      exact ⟨z, rfl, hz, fun m z' hm => absurd hm (Nat.not_lt_zero _)⟩
    · rw [if_neg hz] at h
      obtain ⟨i, hi, rfl⟩ := map_some h
      obtain ⟨w, h1, h2, h3⟩ := idxP_some hi
      refine ⟨w, by simpa using h1, h2, fun m z' hm hz' => ?_⟩
      cases m with
      | zero =>
        cases hz'
        exact Bool.eq_false_iff.mpr hz
      | succ m => exact h3 m z' (by omega) (by simpa using hz')
def gIdx : List D → List D → Option Val := fun es ps => match ps with
  | [p] => match D.py p, D.pys es with
    | some d, some ds => if SeqAt.shaped (.list ds) && SeqAt.shaped d then (idxP d ds).map fun j => .v (.int (j : Nat)) else none
    | _, _ => none
  | _ => none
theorem lg_idx : LstG X (rIndexD X.K) gIdx := by
  intro H es ps x vs y Q rx rp hz k
  unfold gIdx at hz
  split at hz
  · rename_i p
    split at hz
    · rename_i d ds hd hds
      by_cases hc : (SeqAt.shaped (.list ds) && SeqAt.shaped d) = true
      · rw [if_pos hc] at hz
        rw [Bool.and_eq_true] at hc
        obtain ⟨j, hj, rfl⟩ := map_some hz
        obtain ⟨z, z1, z2, z3⟩ := idxP_some hj
        obtain ⟨v, rfl, rv⟩ := rp.one
        have dl := rx.dp (p := .list ds) (by simp only [D.py, hds]; rfl)
        obtain ⟨l, xs, rfl, _, _⟩ := rx
        exact ⟨l, v, d, ds, j, z, rfl, rfl, dl, rv.dp hd, hc.1, hc.2, z1, z2, z3, k.int⟩
      · rw [if_neg hc] at hz
        cases hz
    · cases hz
  · cases hz
end

/-! ### a def that is called with the exception that is handled -/
/-- a (of the class at C) is the exception that is handled; the def answers with the text r -/
structure FnK (P : Program) (w : World) (K : PySem.W.Frag) (mg : PySem.Str → Option Value) (base : Heap) (k : Nat) (f : Addr) (fd : FuncData) (ps : List PySem.Str) (C : Addr) (r : PySem.Str) : Prop where
  run : ∀ (A : Around) (outer : List Env) (s : Shared) (H : Hp) (args : Args) (us : List Value) (Q : VK) (a : Addr) (oe : Obj), L2H.RoomH k A → L2H.PinOk outer H s (a, oe) → Zc (.ref C) none oe → (∃ vs, oe.data = .fields vs) → Env0 P w K mg base A outer s H → BindsTo s fd args (ps.zip us) → Vals [.ref a] us →
    (∀ H', Same H H' → Q (.str r) H') → codeAny (model P w) A (.call (.ref f) args) (CR CX0 outer P w H s Q E0) s
section
variable {P : Program} {w : World} {K : PySem.W.Frag} {mg : PySem.Str → Option Value} {base : Heap}
/-- isinstance(e, C'), e an exception that is pinned -/
theorem call_isP {X : Cx} {a D' : Addr} {oe : Obj} (C : ExcC X.K D') (hp : (a, oe) ∈ X.pn) (hz : Zc (.ref D') none oe) (hf : ∃ vs, oe.data = .fields vs) : CallR X (.builtin "isinstance") (rIsE X.K D' a) := by
  intro pins s σ H xs us Q I r h
  obtain ⟨c, cv, b, rfl, hcv, e, q⟩ := h
  obtain ⟨u1, u2, rfl, r1, r2⟩ := vals2 r
  cases r1
  obtain rfl := hcv _ r2
  have hget := (I.pin (a, oe) (List.mem_append_left _ hp)).1
  obtain ⟨vs, hv⟩ := hf
  have J : PySem.W.InstAt s.heap a oe D' none := by
    obtain ⟨oc, od, oda, osl⟩ := oe
    obtain ⟨h1, h2⟩ := hz
    dsimp only at h1 h2 hv
    subst h1 h2 hv
    exact ⟨hget, rfl, rfl, trivial⟩
  exact PySem.W.kia_one (PySem.W.handS_kitx_exc C.hg C.hk C.hs C.hd C.ha C.hn C.ht C.hm) I.kIn J e (fun z => nomatch z) fun tk => ⟨.bl b, H, I.kept (t' := tk) fun _ _ z => z, rfl, q⟩
/-- isinstance(name, C'): what is known of it -/
def mIsP (a : Addr) (b : Bool) (f : VM) : VM := fun ρ S => (f ρ S).bind fun x S1 => match x with
  | .v (.raw a') => if a' = a then .ok (.v (.bl b)) S1 else .bad
  | _ => .bad
theorem sv_isP {X : Cx} {W : WX} {e : Expr} {a D' C' : Addr} {b : Bool} {f : VM} (hk : PySem.W.kitOne X.K (.ref D') (.ref C') = some b) (p : PE X e (tCB (rIsE X.K D' a) (tCons (tV (rc X) W f) (tCons (tC (.ref C')) tNil)))) : SV X W e (mIsP a b f) := by
  refine PE.imp p fun σ H Q ⟨α, ρ, S, hE, hS, q⟩ => ⟨α, ρ, S, hE, hS, ?_⟩
  refine wpR_mono (wpR_bind q) (fun x S1 h1 v H1 α1 x1 s1 r1 f1 => ?_) fun _ _ z => z
  split at h1
  · rename_i a'
    by_cases ha : a' = a
    · rw [if_pos ha] at h1
      have ev : v = .ref a' := by simpa only [RepX, Rep] using r1
      subst ev ha
      exact ⟨.ref C', .ref C', b, rfl, fun u r => r, hk, h1 (.bl b) H1 α1 x1 s1 (by simp only [RepX, Rep]) trivial⟩
    · rw [if_neg ha] at h1
      exact h1.elim
  · exact h1.elim
theorem fnK_of {k : Nat} {x qual : PySem.Str} {st : Stmt} {f : Addr} {fd : FuncData} {N : List PySem.Str} {n1 : PySem.Str} {C : Addr} {r : PySem.Str} (body : Addr → SM) (F : Fun K x qual st f fd) (S : FnScope N [n1] (defScope st))
    (hbody : ∀ (cdv : Value) (A : Around) (outer : List Env) (s : Shared) (H : Hp) (a : Addr) (oe : Obj), L2H.RoomH k (A.deeper (envOfC qual (defScope st) s.heap.objs.size f cdv)) → Zc (.ref C) none oe → (∃ vs, oe.data = .fields vs) →
      SSs (L2H.cxH CX0 P w K mg base N qual (defScope st) f cdv A outer s H E0 (a, oe)) W0 (defBody st) (body a))
    (hr : ∀ a, ∃ S1, body a ([some (.v (.raw a))] ++ List.replicate (N.length - 1) none) [] = .rt (.v (.str r)) S1) : FnK P w K mg base (k + 1) f fd [n1] C r := by
  obtain ⟨oc, od, kV, doc, pm, an, cdv, ct, osl, rfl, lk, hcd⟩ := F.ex
  refine ⟨fun A outer s H args us Q a oe hro hpin hz hf e0 hb rel hQ => ?_⟩
  have kin : K.In s.heap := e0.mod.kin.keeps fun b o q => (e0.bs b o q).1
  have nol : s.heap.NoLimit := e0.mod.nolimit.keeps fun b o q => (e0.bs b o q).1
  have slots : ∀ y ∈ [n1].zip us, (defScope st).names.lookup y.1 = some .local ∨ ((defScope st).names.lookup y.1 = some .cell ∧ ((cellsFrom (s.heap.objs.size + 1) (defScope st).names []).lookup y.1).isSome = true) := by
    rintro ⟨n, v⟩ hy
    rcases S.par n (List.of_mem_zip hy).1 with loc | cel
    · exact .inl loc
    · exact .inr ⟨cel, PySem.W.cellsFrom_some _ _ _ (.inl cel)⟩
  refine codeAny_call_function hro.depth (kin _ _ lk) rfl S.co S.gen rfl (PySem.W.codeRec_of kin hcd) (hb _ _ _ _ (wpAny_newFunctionEnv_cells S.kind slots fun env he s1 x => ?_))
  subst he
  have hl : ([V.ref a] : List V).length = [n1].length := rfl
  have I := L2H.inv_startH (CX := CX0) (E := E0) (f := f) (cd := cdv) (qual := qual) S hpin e0 hl rel x
  obtain ⟨S1, hS1⟩ := hr a
  have hN : 1 ≤ N.length := by
    have := congrArg List.length S.pre
    rw [List.length_take] at this
    simp at this
    omega
  have hE : RelE ⟨K, mg⟩ [] H ([some (.v (.raw a))] ++ List.replicate (N.length - 1) none) (L2.start N [.ref a]) :=
    start_rel (xs := [.v (.raw a)]) (.cons (show RepA ⟨K, mg⟩ [] H (.v (.raw a)) (.ref a) from (show Rep ⟨K, mg⟩ H (.raw a) (.ref a) from by simp only [Rep])) .nil) hN
  have hS : RelS ⟨K, mg⟩ [] H [] := ⟨rfl, .nil, fun a h => absurd h (by simp), fun n ds h => by simp at h⟩
  refine ⟨nol.keeps x.toInCall.keep, codeAny_func (wpAny_mono ((hbody cdv A outer s H a oe (hro.deeper _) hz hf).run [] s1 (L2.start N [.ref a]) H { nx := fun _ H' => False, rt := Q } I ⟨[], _, [], hE, hS, ?_⟩) (fun fl s' hs => ?_) fun e s' hs => hs)⟩
  · rw [hS1]
    intro v H' α' xt s2 rv _
    have ev : v = .str r := by simpa only [RepX, Rep] using rv
    subst ev
    exact hQ H' fun b o q => xt.fr b o q (by simp)
  · cases fl with
    | ret u =>
      obtain ⟨v, σ', H', J, rv, q⟩ := hs
      exact ⟨v, H', J.os, J.bare, J.base, J.hok, rv, q⟩
    | next =>
      obtain ⟨σ', H', J, q⟩ := hs
      exact q.elim
    | brk =>
      obtain ⟨_, _, _, q⟩ := hs
      exact q.elim
    | cont =>
      obtain ⟨_, _, _, q⟩ := hs
      exact q.elim
end

/-! ### try: .. except X as e: return kind(e) -/
section
variable {X : Cx} {W : WX}
/-- the call of kind upon the handled exception, by the class of it -/
def tKind (tab : Value → Option PySem.Str) (i : Nat) (a : Addr) (cls : Value) (d : Option Addr) : TE := fun σ H Q => ∃ r, tab cls = some r ∧ d = none ∧ σ[i]? = some (some (.ref a)) ∧ ∀ H', Same H H' → Q (.str r) H'
theorem pe_kind {i : Nat} {a : Addr} {oe : Obj} {cls : Value} {d : Option Addr} {pn : List (Addr × Obj)} {k : Nat} {f : Addr} {fd : FuncData} {ps : List PySem.Str} {x y : PySem.Str} {p p1 pos : Pos} {tab : Value → Option PySem.Str}
    (F : ∀ r, tab cls = some r → ∃ C, cls = .ref C ∧ FnK X.prog X.w X.K X.mg X.base k f fd ps C r) (hr : L2H.RoomH k X.A) (hz : Zc cls d oe) (hf : ∃ vs, oe.data = .fields vs) (hm : X.mg x = some (.ref f)) (hk : PySem.W.keepIn X.K (.ref f) = true) (hb : Binds X.K fd ps []) (hp : ps.length = 1)
    (hv : PE (X.suite a ((a, oe) :: pn)) (.Name y p1) (tVar i)) (hg : Gl (X.suite a ((a, oe) :: pn)) x) (hdb : (x == ("__debug__" : PySem.Str)) = false := by decide)
    (he : starEach [.Name y p1] X.env = (false, eval (.Name y p1) X.env) :: starEach [] X.env := by rfl) (hpl : (backTo pos (starEach [] X.env)).any (·.1) = false := by rfl) :
    PE (X.suite a ((a, oe) :: pn)) (.Call (.Name x p) [.Name y p1] [] pos) (tKind tab i a cls d) := by
  refine ⟨fun pins s σ H Q I h => ?_⟩
  obtain ⟨r, ht, hd, hs, q⟩ := h
  obtain ⟨C, rfl, FK⟩ := F r ht
  subst hd
  have ha : PA (X.suite a ((a, oe) :: pn)) [.Name y p1] (tCons (tVar i) tNil) := pa_cons hv pa_nil he
  refine wpAny_Call_Name_kw (ld_glob I hg hm ?_ hdb)
  refine PySem.W.callWith_K (h₀ := X.base) I.ok.mod.kin hk (thn (ha.run pos pins s σ H (fun vs H1 => vs = [V.ref a] ∧ H1 = H) I ⟨_, hs, rfl, rfl⟩) fun us s1 hh => ?_) he hpl
  obtain ⟨vs, H1, I1, rv, rfl, rfl⟩ := hh
  refine ⟨I1.kIn, ?_⟩
  have P1 := I1.pin (a, oe) (List.mem_append_left _ List.mem_cons_self)
  have hpin : L2H.PinOk (X.suite a ((a, oe) :: pn)).stack H1 s1 (a, oe) := ⟨P1.1, P1.2.1, fun hm => (List.mem_cons.mp (I1.stkSub a hm)).elim P1.2.2.1 P1.2.2.2.1, P1.2.2.2.2⟩
  have hl : us.length = ps.length := by rw [← rv.length, hp]; rfl
  have bs := hb s1 us I1.kIn (by simpa using hl)
  rw [List.append_nil] at bs
  refine wpAny_call (codeAny_mono (FK.run (X.suite a ((a, oe) :: pn)).A (X.suite a ((a, oe) :: pn)).stack s1 H1 ⟨us, []⟩ us Q a oe ⟨hr.dp, hr.un⟩ hpin hz hf I1.env0 bs rv q) fun res s' hq => ?_)
  cases res with
  | error e => exact hq.elim
  | ok fl =>
    cases fl with
    | ret u => exact I1.after hq
    | next => exact hq.elim
    | brk => exact hq.elim
    | cont => exact hq.elim
/-- what kind says, by the class's name; none: not looked at -/
abbrev KTab := List (PySem.Str × PySem.Str)
def sTryK (tab : KTab) (i : Nat) (f : SM) : SM := fun ρ S => match f ρ S with
  | .er e ρ1 S1 => (match e.fld with
    | none => (match tab.lookup e.cls with
      | some r => if i < ρ1.length then .rt (.v (.str r)) S1 else .bad
      | none => .bad)
    | some _ => .bad)
  | r => r
/-- except X as e: if kind(e) != r0: return False -/
def sTryK2 (tab : KTab) (i : Nat) (r0 : PySem.Str) (f : SM) : SM := fun ρ S => match f ρ S with
  | .er e ρ1 S1 => (match e.fld with
    | none => (match tab.lookup e.cls with
      | some r => if i < ρ1.length then (if r = r0 then .nx (ρ1.set i none) S1 else .rt (.v (.bl false)) S1) else .bad
      | none => .bad)
    | some _ => .bad)
  | r => r
structure TabOk (K : PySem.W.Frag) (mg : PySem.Str → Option Value) (c : Value) (tab : KTab) (vt : Value → Option PySem.Str) : Prop where
  ok : ∀ n r C, tab.lookup n = some r → mg n = some (.ref C) → vt (.ref C) = some r ∧ PySem.W.exmOne K (.ref C) c = some true
theorem ss_tryK {st : Stmt} {f : SM} {i : Nat} {c : Value} {tab : KTab} {vt : Value → Option PySem.Str} {Wout : WX} (T : TabOk X.K X.mg c tab vt)
    (h : PS X st (fun D σ H => tS (rc X) (wAs X.K c i (fun a cls d => tRet (tKind vt i a cls d)) Wout D) f D σ H)) : SS X Wout st (sTryK tab i f) := by
  refine PS.imp h fun D σ H ⟨α, ρ, S, hE, hS, q⟩ => ⟨α, ρ, S, hE, hS, ?_⟩
  unfold sTryK at q
  cases hf : f ρ S with
  | nx ρ1 S1 => rw [hf] at q; exact q
  | rt x S1 => rw [hf] at q; exact q
  | bk ρ1 S1 => rw [hf] at q; exact q
  | ct ρ1 S1 => rw [hf] at q; exact q
  | bad => rw [hf] at q; exact q
  | er e ρ1 S1 =>
    rw [hf] at q
    dsimp only at q
    intro cls od σ' H' α' x1 e1 s1 re
    obtain ⟨C, hC, rfl, hfl⟩ := re
    cases hd : e.fld with
    | some fi => rw [hd] at q; exact q.elim
    | none =>
      rw [hd] at q hfl
      dsimp only at q hfl
      subst hfl
      cases ht : tab.lookup e.cls with
      | none => rw [ht] at q; exact q.elim
      | some r =>
        rw [ht] at q
        dsimp only at q
        by_cases hi : i < ρ1.length
        · rw [if_pos hi] at q
          obtain ⟨t1, t2⟩ := T.ok _ _ _ ht hC
          refine ⟨true, t2, fun _ a na => ⟨r, t1, rfl, List.getElem?_set_self (Nat.lt_of_lt_of_le hi e1.le), fun H2 sm => ?_⟩, fun z => nomatch z⟩
          exact q (.str r) H2 α' (x1.trans (.of_same sm)) (s1.same sm) (by simp only [RepX, Rep]) trivial
        · rw [if_neg hi] at q
          exact q.elim
/-- the suite of sTryK2, by what its parts read -/
theorem ss_tryK2 {st : Stmt} {f : SM} {i : Nat} {c : Value} {tab : KTab} {vt : Value → Option PySem.Str} {r0 : PySem.Str} {Wout : WX} (T : TabOk X.K X.mg c tab vt)
    (h : PS X st (fun D σ H => tS (rc X) (wAs X.K c i (fun a cls d => tIfS (tTest (tOp rNe (tKind vt i a cls d) (tC (.str r0)))) (tRet (tC (.bl false))) tNext) Wout D) f D σ H)) : SS X Wout st (sTryK2 tab i r0 f) := by
  refine PS.imp h fun D σ H ⟨α, ρ, S, hE, hS, q⟩ => ⟨α, ρ, S, hE, hS, ?_⟩
  unfold sTryK2 at q
  cases hf : f ρ S with
  | nx ρ1 S1 => rw [hf] at q; exact q
  | rt x S1 => rw [hf] at q; exact q
  | bk ρ1 S1 => rw [hf] at q; exact q
  | ct ρ1 S1 => rw [hf] at q; exact q
  | bad => rw [hf] at q; exact q
  | er e ρ1 S1 =>
    rw [hf] at q
    dsimp only at q
    intro cls od σ' H' α' x1 e1 s1 re
    obtain ⟨C, hC, rfl, hfl⟩ := re
    cases hd : e.fld with
    | some fi => rw [hd] at q; exact q.elim
    | none =>
      rw [hd] at q hfl
      dsimp only at q hfl
      subst hfl
      cases ht : tab.lookup e.cls with
      | none => rw [ht] at q; exact q.elim
      | some r =>
        rw [ht] at q
        dsimp only at q
        by_cases hi : i < ρ1.length
        · rw [if_pos hi] at q
          obtain ⟨t1, t2⟩ := T.ok _ _ _ ht hC
          refine ⟨true, t2, fun _ a na => ⟨r, t1, rfl, List.getElem?_set_self (Nat.lt_of_lt_of_le hi e1.le), fun H2 sm => ⟨rfl, ?_⟩⟩, fun z => nomatch z⟩
          refine ⟨_, rfl, ?_⟩
          by_cases hr : r = r0
          · rw [if_pos hr] at q
            subst hr
            rw [decide_eq_true rfl]
            refine iteF ?_
            have e2 : RelE (rc X) α' H2 (ρ1.set i none) ((σ'.set i (some (.ref a))).set i none) := by
              rw [List.set_set]
              exact (e1.mono (.of_same sm)).unset i
            exact q _ H2 α' (x1.trans (.of_same sm)) e2 (s1.same sm)
          · rw [if_neg hr] at q
            have hne : ¬ V.str r = V.str r0 := fun z => hr (V.str.inj z)
            rw [decide_eq_false hne]
            exact iteT (q (.bl false) H2 α' (x1.trans (.of_same sm)) (s1.same sm) (by simp only [RepX, Rep]) trivial)
        · rw [if_neg hi] at q
          exact q.elim
end

/-! ### the law's own end -/
/-- what is wanted of the law's plain function -/
def LawOk (g : MFn) : Prop := ∀ ns : List Int, ns.length ≤ 63 → ∃ S, g [.v (.kl (ns.map D.int))] [] = .ok (.v (.bl true)) S
theorem lawG_call {P : Program} {w : World} {K : PySem.W.Frag} {mg mb : PySem.Str → Option Value} {k : Nat} {fa a : Addr} {fd : FuncData} {x : PySem.Str} {g : MFn} {s₁ : Shared} {vs : List Value} {ns : List Int}
    (KX : K.In s₁.heap) (hns : s₁.heap.Ns mainGlobals mg) (hb : s₁.heap.Ns builtinsNs mb) (hbb : ∀ x : PySem.Str, x ≠ "__name__" → mb x = bootBuiltins x) (hlim : s₁.heap.NoLimit) (hg : s₁.gens = #[])
    (ha : s₁.heap.get? a = some { cls := .type "list", data := .seq vs.toArray }) (hi : IntsAre vs ns) (hl : ns.length ≤ 63) (hr : Room k callerA)
    (F : ∀ base : Heap, K.In base → base.Ns mainGlobals mg → FnG P w K mg base k fa fd [x] (spM ⟨K, mg⟩ g)) (hbind : ∀ (s : Shared) (u : Value), BindsTo s fd ⟨[u], []⟩ [(x, u)]) (L : LawOk g) :
    codeAny (model P w) callerA (.call (.ref fa) ⟨[.ref a], []⟩) (fun r s' => r = .ok (.ret (.bool true)) ∧ OldK s₁.heap s'.heap ∧ s'.os = s₁.os ∧ AllBare s'.gens) s₁ := by
  obtain ⟨SL, hL⟩ := L ns hl
  have rv := vals_ints hi
  have lz : ns.length ≤ sizeLine := by
    rw [lim_eq]
    exact Nat.le_trans hl (by decide)
  -- H tracks at most the script, as a list that never changes
  have core : ∀ H : Hp, (∀ b, H b = none ∨ (b = a ∧ K.lookup a = none ∧ ∃ o, H b = some (.frz o (.lst (ns.map V.int))))) → KlL K H a (ns.map V.int) → HOk P w H s₁.heap →
      codeAny (model P w) callerA (.call (.ref fa) ⟨[.ref a], []⟩) (fun r s' => r = .ok (.ret (.bool true)) ∧ OldK s₁.heap s'.heap ∧ s'.os = s₁.os ∧ AllBare s'.gens) s₁ := by
    intro H hH hK hok
    have free : ∀ {b : Addr} {o : Obj} {es : Array DictEntry} {ep : Nat}, s₁.heap.get? b = some o → o.data = .dict es ep → H b = none := fun {b o es ep} q d => by
      rcases hH b with z | ⟨z, _⟩
      · exact z
      · subst z
        rw [ha] at q
        cases q
        have d' : Data.seq vs.toArray _ = Data.dict es ep := d
        cases d'
    have ns' : ∀ {b : Addr} {m : PySem.Str → Option Value}, s₁.heap.Ns b m → (hidT s₁.heap H).Ns b m := fun {b m} ⟨o, es, ep, q, d, r⟩ => ⟨o, es, ep, hidT_get q (free q d), d, r⟩
    have kin : K.In (hidT s₁.heap H) := fun b o q => hidT_get (KX b o q) (by
      rcases hH b with z | ⟨z, z2, _⟩
      · exact z
      · subst z
        rw [z2] at q
        cases q)
    have md : Mod K mg (hidT s₁.heap H) := ⟨kin, ns' hns, ⟨mb, ns' hb, hbb⟩, let ⟨mc, h1, h2⟩ := hlim; ⟨mc, ns' h1, h2⟩⟩
    have e0 : Env0 P w K mg (hidT s₁.heap H) callerA [] s₁ H := ⟨rfl, md, fun b o q => of_hidT q, Nat.le_of_eq (hidT_size _ _), trivial, fun b q => absurd (show b ∈ ([] : List Addr) from q) (by simp), hok, .of_eq hg⟩
    have hsp : spM ⟨K, mg⟩ g [.ref a] H (fun v _ => v = .bl true) (fun _ _ _ => False) := by
      refine ⟨[], [], [.v (.kl (ns.map D.int))], ⟨rfl, .nil, fun b q => absurd q (by simp), fun n ds q => by simp at q⟩, .cons ?_ .nil, ?_⟩
      · show Rep ⟨K, mg⟩ H (.kl (ns.map D.int)) (.ref a)
        simp only [Rep]
        exact ⟨a, _, rfl, hK, .ints ns⟩
      · rw [hL]
        intro v H' α' _ _ r _
        simpa only [RepX, Rep] using r
    refine codeAny_mono ((F _ kin (ns' hns)).run callerA [] s₁ H ⟨[.ref a], []⟩ [.ref a] [.ref a] _ _ hr rfl e0 (hbind s₁ (.ref a)) (.cons rfl .nil) hsp) fun r s' h => ?_
    cases r with
    | error e =>
      obtain ⟨_, _, _, _, _, _, _, _, _, _, _, _, z⟩ := h
      exact z.elim
    | ok fl =>
      cases fl with
      | next => exact h.elim
      | brk => exact h.elim
      | cont => exact h.elim
      | ret u =>
        obtain ⟨v, H', os, bare, un, hok', r', rfl⟩ := h
        obtain rfl : u = Value.bool true := r'
        refine ⟨rfl, OldK.of_keep fun b o q => ?_, os, bare⟩
        rcases hH b with z | ⟨_, _, ob, z⟩
        · exact un.keep b o q z (by simp [frs]) (by simp)
        · obtain ⟨g1, _⟩ := hok b _ z
          obtain ⟨g2, _⟩ := hok' b _ (un.frzs b ob _ z)
          rw [q] at g1
          cases g1
          exact g2
  cases hk : K.lookup a with
  | some o =>
    have q := KX a o hk
    rw [ha] at q
    cases q
    refine core (fun _ => none) (fun _ => .inl rfl) (.inr ⟨_, vs.toArray, _, hk, rfl, rfl, rfl, ?_, by simpa using rv⟩) (fun b u z => nomatch z)
    rw [List.size_toArray, hi.length]
    exact lz
  | none =>
    refine core (upd (fun _ => none) a (.frz { cls := .type "list", data := .seq vs.toArray } (.lst (ns.map V.int)))) (fun b => ?_) (.inl ⟨_, upd_same⟩) (fun b u z => ?_)
    · by_cases hba : b = a
      · exact .inr ⟨hba, hk, _, by rw [hba]; exact upd_same⟩
      · exact .inl (upd_ne hba)
    · by_cases hba : b = a
      · subst hba
        rw [upd_same] at z
        cases z
        exact ⟨ha, by rw [List.length_map]; exact lz, vs, _, rv, ha⟩
      · rw [upd_ne hba] at z
        cases z
/-- the goal that k_head leaves, from the law's plain function -/
theorem walkG {l : PySem.W.OpenLaw} {k : Nat} {q : Program} {loose : List PySem.Str} {XP : (PySem.Str → Option Value) → Heap → Prop} {YP : World → Heap → Prop} {d : DefRec} {K : Params → PySem.W.Frag} {x : PySem.Str} {g : MFn}
    (hn : l.most = some 63) (hdf : d.params.defaults = []) (hr : Room k callerA) (hY : ∀ (w : World) (h : Heap), YP w h → (K w.params).In h)
    (F : ∀ (w : World) (mg : PySem.Str → Option Value) (fa : Addr) (h : Heap), (K w.params).In h → h.Ns mainGlobals mg → mg d.name = some (.ref fa) →
      ∃ fd : FuncData, (∀ (s : Shared) (u : Value), BindsTo s fd ⟨[u], []⟩ [(x, u)]) ∧ ∀ base : Heap, (K w.params).In base → base.Ns mainGlobals mg → FnG l.prog w (K w.params) mg base k fa fd [x] (spM ⟨K w.params, mg⟩ g))
    (L : LawOk g) : PySem.W.WalkO q loose XP YP l.row.toRowW d [] (fun f vs => PySem.call f vs) := by
  refine Att.attach_call hn hdf fun w s₀ s₁ mg mb fa o pm cd doc a vs ns G Y ho hd hcd hmg hobj hints hlen hg => ?_
  have KX := hY w _ Y
  obtain ⟨fd, hb, hF⟩ := F w mg fa _ KX G.T.g hmg
  exact lawG_call KX G.T.g G.T.b G.T.builtins G.T.nolimit hg hobj hints hlen hr hF hb L
end M

namespace M
open PySem PySem.Spec PyProof.Rows L2

/-! ### a written dict from texts to defs -/
structure DTab (K : PySem.W.Frag) (w : World) (mg : PySem.Str → Option Value) (d : Addr) (tab : List (PySem.Str × PySem.Str)) : Prop where
  ok : ∃ es n, KDict K w d es n ∧ Paired (fun (kv : PySem.Str × PySem.Str) (e : DictEntry) => (∃ t, e.key = .str kv.1 t) ∧ ∃ f, mg kv.2 = some (.ref f) ∧ e.val = .ref f) tab es.toList
theorem dtab_find {mg : PySem.Str → Option Value} {z : PySem.Str} : ∀ {tab : List (PySem.Str × PySem.Str)} {es : List DictEntry}, Paired (fun (kv : PySem.Str × PySem.Str) (e : DictEntry) => (∃ t, e.key = .str kv.1 t) ∧ ∃ f, mg kv.2 = some (.ref f) ∧ e.val = .ref f) tab es →
    (match tab.lookup z with
    | some n => ∃ e f, es.find? (·.key.isStr z) = some e ∧ mg n = some (.ref f) ∧ e.val = .ref f
    | none => es.find? (·.key.isStr z) = none ∧ es.any (·.refKey) = false)
  | _, _, .nil => ⟨rfl, rfl⟩
  | (k, n) :: tab, e :: es, .cons ⟨⟨t, hk⟩, f, hf, hv⟩ r => by
    have ih := dtab_find (z := z) r
    have hs : e.key.isStr z = (k == z) := by
      rw [hk]
      rfl
    by_cases hz : z = k
    · subst hz
      have h1 : List.lookup z ((z, n) :: tab) = some n := by simp [List.lookup]
      rw [h1]
      refine ⟨e, f, ?_, hf, hv⟩
      rw [List.find?_cons, hs]
      simp
    · have hb : (z == k) = false := beq_eq_false_iff_ne.mpr hz
      have hb2 : (k == z) = false := beq_eq_false_iff_ne.mpr fun q => hz q.symm
      have h1 : List.lookup z ((k, n) :: tab) = tab.lookup z := by simp [List.lookup, hb]
      have h2 : (e :: es).find? (·.key.isStr z) = es.find? (·.key.isStr z) := by
        rw [List.find?_cons, hs, hb2]
      rw [h1, h2]
      cases hl : tab.lookup z with
      | some m => rw [hl] at ih; exact ih
      | none =>
        rw [hl] at ih
        refine ⟨ih.1, ?_⟩
        rw [List.any_cons, ih.2, Bool.or_false]
        show DictEntry.refKey e = false
        simp [DictEntry.refKey, hk]
theorem DTab.look {K : PySem.W.Frag} {w : World} {mg : PySem.Str → Option Value} {d : Addr} {tab : List (PySem.Str × PySem.Str)} (T : DTab K w mg d tab) (z : PySem.Str) : ∃ es n, KDict K w d es n ∧
    ((∃ m f, tab.lookup z = some m ∧ mg m = some (.ref f) ∧ PySem.W.nsIn K d z = some (some (.ref f))) ∨ (tab.lookup z = none ∧ PySem.W.nsIn K d z = some none)) := by
  obtain ⟨es, n, D', p⟩ := T.ok
  refine ⟨es, n, D', ?_⟩
  have h := dtab_find (z := z) p
  unfold PySem.W.nsIn
  rw [D'.at_]
  dsimp only
  cases hl : tab.lookup z with
  | some m =>
    rw [hl] at h
    obtain ⟨e, f, h1, h2, h3⟩ := h
    rw [h1]
    exact .inl ⟨m, f, rfl, h2, by rw [← h3]⟩
  | none =>
    rw [hl] at h
    rw [h.1, h.2]
    exact .inr ⟨rfl, rfl⟩
section
variable {X : Cx} {W : WX} {a b e : Expr} {pos : Pos} {d : Addr} {tab : List (PySem.Str × PySem.Str)}
def mDIn (neg : Bool) (tab : List (PySem.Str × PySem.Str)) (f : VM) : VM := fun ρ S => (f ρ S).bind fun x S1 => match x with
  | .v (.str z) => .ok (.v (.bl (if neg then !(tab.lookup z).isSome else (tab.lookup z).isSome))) S1
  | _ => .bad
def rDIn (neg : Bool) (K : PySem.W.Frag) (w : World) (d : Addr) : R2 := fun x y H Q => ∃ es n, KDict K w d es n ∧ ∃ (z : PySem.Str) (r : Option Value), x = .str z ∧ y = .ref d ∧ PySem.W.nsIn K d z = some r ∧ Q (.bl (if neg then !r.isSome else r.isSome)) H
theorem op_dIn : OpR X (compareOp .In) (rDIn false X.K X.w d) := by
  intro pins s σ H x y v u Q I rx ry ⟨es, n, D', h⟩
  exact op_in_kd D' pins s σ H x y v u Q I rx ry h
theorem op_dNotIn : OpR X (compareOp .NotIn) (rDIn true X.K X.w d) := by
  intro pins s σ H x y v u Q I rx ry ⟨es, n, D', h⟩
  exact op_notIn_kd D' pins s σ H x y v u Q I rx ry h
theorem dIn_of {neg : Bool} {f : VM} (T : DTab X.K X.w X.mg d tab) {σ : L2.St} {H : Hp} {Q : VK} (h : tV (rc X) W (mDIn neg tab f) σ H Q) : tOp (rDIn neg X.K X.w d) (tV (rc X) W f) (tC (.ref d)) σ H Q := by
  obtain ⟨α, ρ, S, hE, hS, q⟩ := h
  refine ⟨α, ρ, S, hE, hS, ?_⟩
  refine wpR_mono (wpR_bind q) (fun x S1 h1 v H1 α1 x1 s1 r1 f1 => ?_) fun _ _ z => z
  split at h1
  · rename_i z
    have ev : v = .str z := by simpa only [RepX, Rep] using r1
    obtain ⟨es, n, D', hh⟩ := T.look z
    refine ⟨es, n, D', z, ?_⟩
    rcases hh with ⟨m, g, h2, h3, h4⟩ | ⟨h2, h4⟩
    · rw [h2] at h1
      exact ⟨_, ev, rfl, h4, h1 _ H1 α1 x1 s1 (by simp only [RepX, Rep]; rfl) trivial⟩
    · rw [h2] at h1
      exact ⟨_, ev, rfl, h4, h1 _ H1 α1 x1 s1 (by simp only [RepX, Rep]; rfl) trivial⟩
  · exact h1.elim
theorem sv_dIn {f : VM} (T : DTab X.K X.w X.mg d tab) (ha : SV X W a f) (hb : PE X b (tC (.ref d))) (hm : behindInMarks .In b = false) : SV X W (.Compare a [.In] [b] pos) (mDIn false tab f) := PE.imp (pe_cmpR op_dIn ha hb hm) fun σ H Q h => dIn_of T h
theorem st_dIn {f : VM} (T : DTab X.K X.w X.mg d tab) (ha : SV X W a f) (hb : PE X b (tC (.ref d))) (hm : behindInMarks .In b = false) : ST X W (.Compare a [.In] [b] pos) (mTB (mDIn false tab f)) := PT.imp (pt_cmpR op_dIn ha hb hm) fun σ H Q h => dIn_of T (tB_of h)
theorem st_dNotIn {f : VM} (T : DTab X.K X.w X.mg d tab) (ha : SV X W a f) (hb : PE X b (tC (.ref d))) (hm : behindInMarks .NotIn b = false) : ST X W (.Compare a [.NotIn] [b] pos) (mTB (mDIn true tab f)) := PT.imp (pt_cmpR op_dNotIn ha hb hm) fun σ H Q h => dIn_of T (tB_of h)
/-- D[thing]: the def -/
def mDGet (tab : List (PySem.Str × PySem.Str)) (f : VM) : VM := fun ρ S => (f ρ S).bind fun x S1 => match x with
  | .v (.str z) => (match tab.lookup z with
    | some m => .ok (.v (.fn m)) S1
    | none => .bad)
  | _ => .bad
theorem sv_dGet {f : VM} (T : DTab X.K X.w X.mg d tab) (ha : PE X a (tC (.ref d))) (hb : SV X W b f) (hs : PlainIx b) : SV X W (.Subscript a b pos) (mDGet tab f) := by
  refine PE.imp (pe_ix ix_kdict ha hb hs) fun σ H Q ⟨α, ρ, S, hE, hS, q⟩ => ⟨α, ρ, S, hE, hS, ?_⟩
  refine wpR_mono (wpR_bind q) (fun x S1 h1 v H1 α1 x1 s1 r1 f1 => ?_) fun _ _ z => z
  split at h1
  · rename_i z
    have ev : v = .str z := by simpa only [RepX, Rep] using r1
    obtain ⟨es, n, D', hh⟩ := T.look z
    rcases hh with ⟨m, g, h2, h3, h4⟩ | ⟨h2, h4⟩
    · rw [h2] at h1
      exact ⟨d, z, .ref g, rfl, ev, ⟨es, n, .ref g, D'.at_, D'.lit, h4, rfl⟩, h1 (.ref g) H1 α1 x1 s1 (by show Rep (rc X) H1 (.fn m) (.ref g); simp only [Rep]; exact ⟨g, h3, rfl⟩) trivial⟩
    · rw [h2] at h1
      exact h1.elim
  · exact h1.elim

/-! ### the call of a def that a value tells -/
abbrev FTab := List (PySem.Str × MFn)
structure FTabOk (X : Cx) (tab : FTab) : Prop where
  ok : ∀ n g, tab.lookup n = some g → ∃ f fd ps k, X.mg n = some (.ref f) ∧ FnG X.prog X.w X.K X.mg X.base k f fd ps (spM (rc X) g) ∧ Room k X.A ∧ PySem.W.keepIn X.K (.ref f) = true ∧ Binds X.K fd ps []
def mCallV (tab : FTab) (ff : VM) (fs : AM) : VM := fun ρ S => (ff ρ S).bind fun x S1 => match x with
  | .v (.fn n) => (match tab.lookup n with
    | some g => (fs ρ S1).bind fun xs S2 => g xs S2
    | none => .bad)
  | _ => .bad
theorem sv_callV {tab' : FTab} {func : Expr} {es : List Expr} {ff : VM} {fs : AM} (T : FTabOk X tab') (hgd : X.A.guards = some []) (tk : Takes X W) (hf : SV X W func ff) (ha : SA X W (e :: es) fs)
    (hev : eval (.Call func (e :: es) [] pos) X.env = (do callWith pos (← eval func X.env) [] (backTo pos (starEach (e :: es) X.env)) (backToKw pos (keywordEach [] X.env))) := by rfl)
    (he : starEach (e :: es) X.env = (false, eval e X.env) :: starEach es X.env := by rfl) (hpl : (backTo pos (starEach es X.env)).any (·.1) = false := by rfl) : SV X W (.Call func (e :: es) [] pos) (mCallV tab' ff fs) := by
  refine ⟨fun pins s σ H Q I ⟨α, ρ, S, hE, hS, q⟩ => ?_⟩
  refine Call_ (thn (hf.run pins s σ H (fun v H1 => ∃ n g f, v = .ref f ∧ tab'.lookup n = some g ∧ X.mg n = some (.ref f) ∧ tA (rc X) W fs σ H1 fun vs H2 => spM (rc X) g vs H2 Q (WE W σ)) I ⟨α, ρ, S, hE, hS, ?_⟩) fun u s1 hu => ?_) hev
  · refine wpR_mono (wpR_bind q) (fun x S1 h1 v H1 α1 x1 s1 r1 f1 => ?_) fun _ _ z => z
    split at h1
    · rename_i n
      have r' : Rep (rc X) H1 (.fn n) v := r1
      simp only [Rep] at r'
      obtain ⟨f, hm, rfl⟩ := r'
      cases ht : tab'.lookup n with
      | none => rw [ht] at h1; exact h1.elim
      | some g =>
        rw [ht] at h1
        refine ⟨n, g, f, rfl, ht, hm, call_of ⟨α1, ρ, S1, hE.mono x1, s1, ?_⟩⟩
        exact wpR_mono h1 (fun z S' k => k.mono x1) fun _ _ z => z.mono x1
    · exact h1.elim
  · obtain ⟨v, H1, I1, rv, n, g, f, rfl, ht, hm, hq⟩ := hu
    cases rv
    obtain ⟨f', fd, ps, k, hm', F, hr, hk, hb⟩ := T.ok n g ht
    rw [hm] at hm'
    cases hm'
    refine PySem.W.callWith_K (h₀ := X.base) I.ok.mod.kin hk (thn (ha.run pos pins s1 σ H1 _ I1 hq) fun us s2 ⟨vs, H2, I2, r, q2⟩ => ⟨I2.kIn, ?_⟩) he hpl
    exact run_fnG F hr hgd hb tk I2 r q2
end
end M

namespace M
open PySem PySem.Spec PyProof.Rows L2

/-! ### what the printed walks use -/
theorem u65 {k : Nat} {A : Around} (hr : Room k A) : A.units + 65 < cLine := by
  have := hr.un
  omega
theorem u64 {k : Nat} {A : Around} (hr : Room k A) : A.units + 64 < cLine := by
  have := hr.un
  omega
theorem v65 {k : Nat} {A : Around} (hr : L2H.RoomH k A) : A.units + 65 < cLine := by
  have := hr.un
  omega
theorem v64 {k : Nat} {A : Around} (hr : L2H.RoomH k A) : A.units + 64 < cLine := by
  have := hr.un
  omega
section
variable {X : Cx} {W : WX}
theorem sv_lc {elt tg iter : Expr} {ifs : List Expr} {scope : Scope} {own : List (PySem.Str × Nat)} {pos : Pos} {it : IM} {g : GP} {tt : TM} {te : VM} (hc : X.calm = true) (hN : X.N.Nodup) (hi : SI X W tg iter it) (ok : BlkOk X.N X.env.scope scope own)
    (hg : ∀ (s : Shared) (H : Hp) (C : Addr) (cl : List (PySem.Str × Addr)) (fp : List Addr), SGw (X.blk s H scope (compEnvC scope cl C X.env) fp) (List.map (fun x : PySem.Str × Nat => x.2) own) tg g) (ht : ∀ (s : Shared) (H : Hp) (C : Addr) (cl : List (PySem.Str × Addr)) (fp : List Addr), STs (X.blk s H scope (compEnvC scope cl C X.env) fp) W0 ifs tt)
    (he : ∀ (s : Shared) (H : Hp) (C : Addr) (cl : List (PySem.Str × Addr)) (fp : List Addr), SV (X.blk s H scope (compEnvC scope cl C X.env) fp) W0 elt te) (hs : ∀ x, foldedSetIterable iter X.env x = pure x := by intro _; rfl) :
    SV X W (.ListComp elt [⟨tg, iter, ifs, 0⟩] scope pos) (mLC it g tt te (List.map (fun x : PySem.Str × Nat => x.2) own)) :=
  PE.imp (pe_lc (wi := tI (rc X) W it) (g := tGw (rc X) (List.map (fun x : PySem.Str × Nat => x.2) own) g) (tt := tT (rc X) W0 tt) (te := tV (rc X) W0 te) hc hN hi ok hg ht he hs) fun _ _ _ q => lc_of q
theorem tAsg_imp {t t' : TE} {g : TG} {D : Ends} {σ : L2.St} {H : Hp} (i : ∀ Q, t' σ H Q → t σ H Q) (h : tAsg t' g D σ H) : tAsg t g D σ H := i _ h
theorem ps_lc {i : Nat} {y : PySem.Str} {py : Pos} {elt tg iter : Expr} {ifs : List Expr} {scope : Scope} {own : List (PySem.Str × Nat)} {pos spos : Pos} {it : IM} {g : GP} {tt : TM} {te : VM} (hc : X.calm = true) (hN : X.N.Nodup) (hy : X.N[i]? = some y) (hyl : X.env.scope.names.lookup y = some .local)
    (hsw : swapsWith (.ListComp elt [⟨tg, iter, ifs, 0⟩] scope pos) (some (.Name y py)) spos.line X.env = pure true) (hi : SI X W tg iter it) (ok : BlkOk X.N X.env.scope scope own)
    (hg : ∀ (s : Shared) (H : Hp) (C : Addr) (cl : List (PySem.Str × Addr)) (fp : List Addr), SGw (X.blk s H scope (compEnvC scope cl C X.env) fp) (List.map (fun x : PySem.Str × Nat => x.2) own) tg g) (ht : ∀ (s : Shared) (H : Hp) (C : Addr) (cl : List (PySem.Str × Addr)) (fp : List Addr), STs (X.blk s H scope (compEnvC scope cl C X.env) fp) W0 ifs tt)
    (he : ∀ (s : Shared) (H : Hp) (C : Addr) (cl : List (PySem.Str × Addr)) (fp : List Addr), SV (X.blk s H scope (compEnvC scope cl C X.env) fp) W0 elt te) (hs : ∀ x, foldedSetIterable iter X.env x = pure x := by intro _; rfl) :
    PS X (.Assign [.Name y py] (.ListComp elt [⟨tg, iter, ifs, 0⟩] scope pos) spos) (tAsg (tV (rc X) W (mLC it g tt te (List.map (fun x : PySem.Str × Nat => x.2) own))) (gName i)) :=
  PS.imp (ps_setLc (wi := tI (rc X) W it) (g := tGw (rc X) (List.map (fun x : PySem.Str × Nat => x.2) own) g) (tt := tT (rc X) W0 tt) (te := tV (rc X) W0 te) hc hN hy hyl hsw hi ok hg ht he hs) fun D σ H q => tAsg_imp (fun Q h => lc_of h) q
/-! the ghost steps on the statement -/
theorem ss_s {st : Stmt} {f : VM} {i : Nat} (h : PS X st (tAsg (tV (rc X) W f) (gName i))) : SS X W st (sSet i f) := ss_set (te := tVar 0) h

def gNeg : D → Option Val
  | .int i => some (.v (.int (-i)))
  | _ => none
theorem ug_neg : UnG X (rU fun i => .int (-i)) gNeg := fun H p x z Q rx hz k => by
  cases p with
  | int i =>
    cases hz
    exact ⟨i, rx.int, k.int⟩
  | _ => cases hz
theorem si_r1 {tg e : Expr} {g : AM} (h : PI X tg e (iRng1 (tA (rc X) W g))) : SI X W tg e (mRng rng1 g) := si_rng1 (a := e) h
theorem si_r2 {tg e : Expr} {g : AM} (h : PI X tg e (iRng2 (tA (rc X) W g))) : SI X W tg e (mRng rng2 g) := si_rng2 (a := e) h
end
end M

namespace M
open PySem PySem.Spec PyProof.Rows L2

theorem bt_len : bootBuiltins "len" = some (.builtin "len") := by decide +kernel
theorem bt_sum : bootBuiltins "sum" = some (.builtin "sum") := by decide +kernel
theorem bt_all : bootBuiltins "all" = some (.builtin "all") := by decide +kernel
theorem bt_any : bootBuiltins "any" = some (.builtin "any") := by decide +kernel
theorem bt_max : bootBuiltins "max" = some (.builtin "max") := by decide +kernel
theorem bt_min : bootBuiltins "min" = some (.builtin "min") := by decide +kernel
theorem bt_abs : bootBuiltins "abs" = some (.builtin "abs") := by decide +kernel
theorem bt_sorted : bootBuiltins "sorted" = some (.builtin "sorted") := by decide +kernel
theorem bt_repr : bootBuiltins "repr" = some (.builtin "repr") := by decide +kernel
theorem bt_isinstance : bootBuiltins "isinstance" = some (.builtin "isinstance") := by decide +kernel
theorem bt_list : bootBuiltins "list" = some (.type "list") := by decide +kernel
theorem bt_tuple : bootBuiltins "tuple" = some (.type "tuple") := by decide +kernel
theorem bt_int : bootBuiltins "int" = some (.type "int") := by decide +kernel
theorem bt_str : bootBuiltins "str" = some (.type "str") := by decide +kernel
theorem bt_bool : bootBuiltins "bool" = some (.type "bool") := by decide +kernel

/-! ### name = a comprehension -/
theorem PS.freeze {X : Cx} {st : Stmt} {t t' : TS} (h : PS X st t) (i : ∀ D σ H, t' D σ H → t { D with nx := fun σ1 H1 => D.nx σ1 H1 ∨ ∃ a xs, H1 a = some (.lst xs) ∧ ∀ o, D.nx σ1 (upd H1 a (.frz o (.lst xs))) } σ H) : PS X st t' := by
  refine ⟨fun pins s σ H D I q => thn (h.run pins s σ H _ I (i D σ H q)) fun f s' r => ?_⟩
  cases f with
  | next =>
    obtain ⟨σ', H', I', q'⟩ := r
    rcases q' with q' | ⟨a, xs, ea, q'⟩
    · exact ⟨σ', H', I', q'⟩
    · obtain ⟨o, I2⟩ := Inv.freeze I' ea
      exact ⟨σ', _, I2, q' o⟩
  | brk => exact r
  | cont => exact r
  | ret u => exact r
section
variable {X : Cx} {W : WX}
theorem ss_fz {st : Stmt} {f : VM} {i : Nat} (h : PS X st (tAsg (tV (rc X) W f) (gName i))) : SS X W st (sSet i (mFz f)) := by
  refine PS.freeze h fun D σ H ⟨α, ρ, S, hE, hS, q⟩ => ⟨α, ρ, S, hE, hS, ?_⟩
  refine wpR_mono (wpR_bind (wpS_ofR hE q)) (fun x S1 h1 v H1 α1 x1 s1 r1 f1 => ?_) fun _ _ z => z
  cases x with
  | v d => exact .inl (toSlot_ok (W := W) hE x1 s1 r1 h1)
  | l n => exact .inl (toSlot_ok (W := W) hE x1 s1 r1 h1)
  | n ds =>
    obtain ⟨a, xs, rfl, ea, r, na⟩ := r1
    have fa : H a = none := f1 a rfl
    refine .inr ⟨a, xs, ea, fun o => toSlot_ok (W := W) (x := .v (.lst ds)) hE ⟨x1.pre, fun b u q nb => ?_, x1.nw, x1.le.trans (LeH.frz ea)⟩ (s1.frz ea na) ?_ h1⟩
    · rw [upd_ne (fun z => by rw [z, fa] at q; cases q)]
      exact x1.fr b u q nb
    · show Rep (rc X) _ (.lst ds) _
      simp only [Rep]
      exact ⟨a, xs, rfl, ⟨o, upd_same⟩, r.mono (LeH.frz ea)⟩
theorem ss_al {st : Stmt} {f : VM} {i : Nat} (h : PS X st (tAsg (tV (rc X) W f) (gName i))) : SS X W st (sSet i (mAl f)) := by
  refine PS.imp h fun D σ H ⟨α, ρ, S, hE, hS, q⟩ => ⟨α, ρ, S, hE, hS, ?_⟩
  refine wpR_mono (wpR_bind (wpS_ofR hE q)) (fun x S1 h1 v H1 α1 x1 s1 r1 f1 => ?_) fun _ _ z => z
  cases x with
  | v d => exact toSlot_ok (W := W) hE x1 s1 r1 h1
  | l n => exact toSlot_ok (W := W) hE x1 s1 r1 h1
  | n ds =>
    obtain ⟨a, xs, rfl, ea, r, na⟩ := r1
    have fa : H a = none := f1 a rfl
    refine toSlot_ok (W := W) (x := .l S1.length) (α1 := α1 ++ [a]) hE ⟨?_, x1.fr, fun b hb nb => ?_, x1.le⟩ (s1.push na ea r) ?_ h1
    · obtain ⟨β, rfl⟩ := x1.pre
      exact ⟨β ++ [a], by rw [List.append_assoc]⟩
    · rcases List.mem_append.mp hb with hb | hb
      · exact x1.nw b hb nb
      · simp at hb
        subst hb
        exact fa
    · exact ⟨a, by rw [← s1.len]; simp, rfl⟩
end
theorem L2H_room {j k : Nat} {A : Around} (hr : Room k A) (h : j ≤ k) : L2H.RoomH j A := ⟨by have := hr.dp; omega, by have := hr.un; omega⟩

/-! ### an int added in place -/
def gAddI : D → D → Option Val := gI fun i j => some (.v (.int (i + j)))
theorem og_ip {X : Cx} {h : Int → Int → Int} {f : Int → Int → Option Val} (hf : ∀ i j z, f i j = some z → z = .v (.int (h i j))) : OpG X (ipI h) (gI f) := by
  intro H p q x y z Q rp rq hz k
  cases p <;> try (cases hz; done)
  cases q <;> try (cases hz; done)
  rename_i i j
  obtain rfl := hf i j z hz
  exact ⟨i, j, rp.int, rq.int, k.int⟩
theorem og_addI {X : Cx} : OpG X (ipI fun i j => i + j) gAddI := og_ip fun i j z h => (Option.some.inj h).symm
theorem og_subI {X : Cx} : OpG X (ipI fun i j => i - j) gSub := og_ip fun i j z h => (Option.some.inj h).symm

/-! ### try: .. except X as e: return kind(e) -/
open Classical in
noncomputable def vtOf (mg : PySem.Str → Option Value) : KTab → Value → Option PySem.Str
  | [], _ => none
  | (n, r) :: t, v => if mg n = some v then some r else vtOf mg t v
theorem vtOf_some {mg : PySem.Str → Option Value} : ∀ {t : KTab} {v : Value} {r : PySem.Str}, vtOf mg t v = some r → ∃ n, (n, r) ∈ t ∧ mg n = some v
  | [], _, _, h => by cases h
  | (n, r0) :: t, v, r, h => by
    unfold vtOf at h
    split at h
    · rename_i hm
      cases h
      exact ⟨n, List.mem_cons_self, hm⟩
    · obtain ⟨m, h1, h2⟩ := vtOf_some h
      exact ⟨m, List.mem_cons_of_mem _ h1, h2⟩
theorem vtOf_mem {mg : PySem.Str → Option Value} {v : Value} : ∀ {t : KTab} {n r : PySem.Str}, (n, r) ∈ t → mg n = some v → ∃ r', vtOf mg t v = some r'
  | [], _, _, h, _ => by cases h
  | (n0, r0) :: t, n, r, h, hm => by
    unfold vtOf
    split
    · exact ⟨_, rfl⟩
    · rename_i hne
      rcases List.mem_cons.mp h with e | h
      · cases e
        exact absurd hm hne
      · exact vtOf_mem h hm
structure KindOk (P : Program) (w : World) (K : PySem.W.Frag) (mg : PySem.Str → Option Value) (base : Heap) (k : Nat) (f : Addr) (fd : FuncData) (ps : List PySem.Str) (c : Value) (tab : KTab) : Prop where
  ok : ∀ n r, (n, r) ∈ tab → ∃ C, mg n = some (.ref C) ∧ PySem.W.exmOne K (.ref C) c = some true ∧ FnK P w K mg base k f fd ps C r
  inj : ∀ n r n' r', (n, r) ∈ tab → (n', r') ∈ tab → mg n = mg n' → n = n'
  nd : (tab.map (·.1)).Nodup
theorem fst_uniq {α β : Type} : ∀ {t : List (α × β)} {n : α} {r r' : β}, (t.map (·.1)).Nodup → (n, r) ∈ t → (n, r') ∈ t → r = r'
  | [], _, _, _, _, h, _ => by cases h
  | (n0, r0) :: t, n, r, r', nd, h, h' => by
    simp only [List.map_cons, List.nodup_cons] at nd
    rcases List.mem_cons.mp h with e | h
    · cases e
      rcases List.mem_cons.mp h' with e | h'
      · cases e; rfl
      · exact absurd (List.mem_map.mpr ⟨_, h', rfl⟩) nd.1
    · rcases List.mem_cons.mp h' with e | h'
      · cases e
        exact absurd (List.mem_map.mpr ⟨_, h, rfl⟩) nd.1
      · exact fst_uniq nd.2 h h'
theorem lookup_mem {β : Type} {n : PySem.Str} {r : β} : ∀ {t : List (PySem.Str × β)}, t.lookup n = some r → (n, r) ∈ t
  | [], h => by cases h
  | (m, q) :: t, h => by
    unfold List.lookup at h
    split at h
    · rename_i e
      cases h
      have := eq_of_beq e
      subst this
      exact List.mem_cons_self
    · exact List.mem_cons_of_mem _ (lookup_mem h)
section
variable {P : Program} {w : World} {K : PySem.W.Frag} {mg : PySem.Str → Option Value} {base : Heap} {k : Nat} {f : Addr} {fd : FuncData} {ps : List PySem.Str} {c : Value} {tab : KTab}
theorem KindOk.vt (h : KindOk P w K mg base k f fd ps c tab) {n r : PySem.Str} {C : Addr} (hm : (n, r) ∈ tab) (e : mg n = some (.ref C)) : vtOf mg tab (.ref C) = some r := by
  obtain ⟨r', h1⟩ := vtOf_mem hm e
  obtain ⟨n', h2, h3⟩ := vtOf_some h1
  have := h.inj _ _ _ _ hm h2 (e.trans h3.symm)
  subst this
  rw [h1, fst_uniq h.nd hm h2]
theorem KindOk.tb (h : KindOk P w K mg base k f fd ps c tab) : TabOk K mg c tab (vtOf mg tab) := ⟨fun n r C h1 h2 => by
  have hm := lookup_mem h1
  obtain ⟨C', e1, e2, _⟩ := h.ok n r hm
  rw [h2] at e1
  cases e1
  exact ⟨h.vt hm h2, e2⟩⟩
theorem KindOk.fn (h : KindOk P w K mg base k f fd ps c tab) {cls : Value} (r : PySem.Str) (e : vtOf mg tab cls = some r) : ∃ C, cls = .ref C ∧ FnK P w K mg base k f fd ps C r := by
  obtain ⟨n, h2, h3⟩ := vtOf_some e
  obtain ⟨C, e1, _, e3⟩ := h.ok n r h2
  rw [h3] at e1
  cases e1
  exact ⟨C, rfl, e3⟩
end
section
variable {X : Cx} {Wout : WX} {k : Nat} {f : Addr} {fd : FuncData} {ps : List PySem.Str} {c : Value} {tab : KTab} {i : Nat} {n x y z : PySem.Str} {np p p1 pos pos' pos2 : Pos} {body : List Stmt} {g : SM}
theorem ss_tryR (hs : X.stack = X.env :: X.outer) (hf : X.env.frame = some X.env.locals) (hN : X.N.Nodup) (hi : X.N[i]? = some n) (hln : X.env.kindOf n = some .local) (hc : Names X x c) (tk : Takes X Wout)
    (KO : KindOk X.prog X.w X.K X.mg X.base k f fd ps c tab) (hr : L2H.RoomH k X.A) (hm : X.mg y = some (.ref f)) (hk : PySem.W.keepIn X.K (.ref f) = true) (hb : Binds X.K fd ps []) (hp : ps.length = 1)
    (hv : ∀ a oe pn, PE (X.suite a ((a, oe) :: pn)) (.Name n p1) (tVar i)) (hg : ∀ a oe pn, Gl (X.suite a ((a, oe) :: pn)) y)
    (hbody : ∀ (W : WX) (pn : List (Addr × Obj)) (xe : Value → Shared → Prop), Takes (X.tr pn xe) W → PassesOwn (model X.prog X.w) X.A X.env xe → SSs (X.tr pn xe) W body g)
    (hdb : (y == ("__debug__" : PySem.Str)) = false := by decide) (he : starEach [.Name n p1] X.env = (false, eval (.Name n p1) X.env) :: starEach [] X.env := by rfl) (hpl : (backTo pos2 (starEach [] X.env)).any (·.1) = false := by rfl) :
    SS X Wout (.Try body [.ExceptHandler (some (.Name x np)) (some n) [.Return (some (.Call (.Name y p) [.Name n p1] [] pos2)) pos3] pos'] [] [] pos) (sTryK tab i g) := by
  refine ss_tryK KO.tb (c := c) ?_
  exact ps_try_as (i := i) (tb := fun W => tS (rc X) W g) (ts := fun a cls d => tRet (tKind (vtOf X.mg tab) i a cls d)) hs hf hN hi hln hc tk (fun W pn xe t pw => hbody W pn xe t pw)
    (fun a oe cls d pn hz hfl => pss_one (ps_ret (pe_kind (fun r e => KO.fn r e) hr hz hfl hm hk hb hp (hv a oe pn) (hg a oe pn) hdb he hpl)))
theorem ss_tryR2 {r0 : PySem.Str} {j j2 : Nat} {pos4 pos5 pos6 pos7 : Pos} (hs : X.stack = X.env :: X.outer) (hf : X.env.frame = some X.env.locals) (hN : X.N.Nodup) (hi : X.N[i]? = some n) (hln : X.env.kindOf n = some .local) (hc : Names X x c) (tk : Takes X Wout)
    (KO : KindOk X.prog X.w X.K X.mg X.base k f fd ps c tab) (hr : L2H.RoomH k X.A) (hm : X.mg y = some (.ref f)) (hk : PySem.W.keepIn X.K (.ref f) = true) (hb : Binds X.K fd ps []) (hp : ps.length = 1)
    (hv : ∀ a oe pn, PE (X.suite a ((a, oe) :: pn)) (.Name n p1) (tVar i)) (hg : ∀ a oe pn, Gl (X.suite a ((a, oe) :: pn)) y)
    (hbody : ∀ (W : WX) (pn : List (Addr × Obj)) (xe : Value → Shared → Prop), Takes (X.tr pn xe) W → PassesOwn (model X.prog X.w) X.A X.env xe → SSs (X.tr pn xe) W body g)
    (hdb : (y == ("__debug__" : PySem.Str)) = false := by decide) (he : starEach [.Name n p1] X.env = (false, eval (.Name n p1) X.env) :: starEach [] X.env := by rfl) (hpl : (backTo pos2 (starEach [] X.env)).any (·.1) = false := by rfl) :
    SS X Wout (.Try body [.ExceptHandler (some (.Name x np)) (some n) [.If (.Compare (.Call (.Name y p) [.Name n p1] [] pos2) [.NotEq] [.Constant (.str r0) j pos3] pos4) [.Return (some (.Constant (.bool false) j2 pos5)) pos6] [] pos7] pos'] [] [] pos) (sTryK2 tab i r0 g) := by
  refine ss_tryK2 KO.tb (c := c) ?_
  exact ps_try_as (i := i) (tb := fun W => tS (rc X) W g) (ts := fun a cls d => tIfS (tTest (tOp rNe (tKind (vtOf X.mg tab) i a cls d) (tC (.str r0)))) (tRet (tC (.bl false))) tNext) hs hf hN hi hln hc tk (fun W pn xe t pw => hbody W pn xe t pw)
    (fun a oe cls d pn hz hfl => pss_one (ps_if (pt_cmpR op_ne (pe_kind (fun r e => KO.fn r e) hr hz hfl hm hk hb hp (hv a oe pn) (hg a oe pn) hdb he hpl) pe_str (nomark _)) (pss_one (ps_ret pe_bl)) pss_nil))
end
end M

namespace M
open PySem PySem.Spec PyProof.Rows L2

/-! ### running plain functions, by simp -/
section
variable {α β : Type} {ρ : MEnv} {S S' : Sto} {f g h : VM} {fs gs : AM} {t u : TM} {a b : SM}
@[simp] theorem bind_ok {x : α} {k : α → Sto → R β} : (R.ok x S).bind k = k x S := rfl
@[simp] theorem bind_er {e : Exc} {k : α → Sto → R β} : (R.er e S : R α).bind k = .er e S := rfl
@[simp] theorem bind_bad {k : α → Sto → R β} : (R.bad : R α).bind k = .bad := rfl
@[simp] theorem ofR_ok {x : α} {k : α → Sto → RS} : ofR (R.ok x S) ρ k = k x S := rfl
@[simp] theorem ofR_er {e : Exc} {k : α → Sto → RS} : ofR (R.er e S : R α) ρ k = .er e ρ S := rfl
@[simp] theorem mV_ap {i : Nat} : mV i ρ S = (match ρ[i]? with
  | some (some x) => .ok x S
  | _ => .bad) := rfl
@[simp] theorem mC_ap {d : D} : mC d ρ S = .ok (.v d) S := rfl
@[simp] theorem mNil_ap : mNil ρ S = .ok [] S := rfl
/-- an argument that is no new list -/
def arg1 (x : Val) (k : R (List Val)) : R (List Val) := k.bind fun xs S2 => .ok (x :: xs) S2
@[simp] theorem mCons_ap : mCons f fs ρ S = (f ρ S).bind fun x S1 => match x with
  | .n _ => .bad
  | x => (fs ρ S1).bind fun xs S2 => .ok (x :: xs) S2 := by
  unfold mCons
  rfl
@[simp] theorem mFz_ap : mFz f ρ S = (f ρ S).bind fun x S => match x with
  | .n ds => .ok (.v (.lst ds)) S
  | x => .ok x S := rfl
@[simp] theorem mAl_ap : mAl f ρ S = (f ρ S).bind fun x S => match x with
  | .n ds => .ok (.l S.length) (S ++ [some ds])
  | x => .ok x S := rfl
@[simp] theorem mDv_ap : mDv f ρ S = (f ρ S).bind fun x S => match x with
  | .n ds => .ok (.v (.lst ds)) S
  | .l n => (match S[n]? with
    | some (some ds) => .ok (.v (.lst ds)) (S.set n none)
    | _ => .bad)
  | .v d => .ok (.v d) S := rfl
@[simp] theorem pk_v {d : D} : pk S (.v d) = some d := rfl
@[simp] theorem pk_n {ds : List D} : pk S (.n ds) = some (.lst ds) := rfl
@[simp] theorem pk_l {n : Nat} : pk S (.l n) = (match S[n]? with
  | some (some ds) => some (.lst ds)
  | _ => none) := rfl
@[simp] theorem mOp_ap {o : D → D → Option Val} : mOp o f g ρ S = (f ρ S).bind fun x S1 => (g ρ S1).bind fun y S2 => ap2 o S2 x y := rfl
@[simp] theorem ap2_ap {o : D → D → Option Val} {x y : Val} : ap2 o S x y = (match pk S x, pk S y with
  | some p, some q => (match o p q with
    | some z => .ok z S
    | none => .bad)
  | _, _ => .bad) := rfl
@[simp] theorem mUn_ap {o : D → Option Val} : mUn o f ρ S = (f ρ S).bind fun x S1 => ap1 o S1 x := rfl
@[simp] theorem ap1_ap {o : D → Option Val} {x : Val} : ap1 o S x = (match pk S x with
  | some p => (match o p with
    | some z => .ok z S
    | none => .bad)
  | _ => .bad) := rfl
@[simp] theorem mTB_ap : mTB f ρ S = asB (f ρ S) := rfl
@[simp] theorem asB_ok1 {b : Bool} : asB (.ok (.v (.bl b)) S) = .ok b S := rfl
@[simp] theorem asB_bad : asB .bad = .bad := rfl
@[simp] theorem mChain_ap {o o' : D → D → Option Val} : mChain o o' f g h ρ S = (f ρ S).bind fun x S1 => (g ρ S1).bind fun y S2 => (asB (ap2 o S2 x y)).bind fun k S3 =>
  if k = true then (h ρ S3).bind fun z S4 => ap2 o' S4 y z else .ok (.v (.bl false)) S3 := rfl
@[simp] theorem mTru_ap : mTru f ρ S = (f ρ S).bind fun x S1 => match pk S1 x with
  | some p => (match truB p with
    | some b => .ok b S1
    | none => .bad)
  | none => .bad := rfl
@[simp] theorem mNot_ap : mNot t ρ S = (t ρ S).bind fun b S1 => .ok (!b) S1 := rfl
@[simp] theorem mAnd_ap : mAnd t u ρ S = (t ρ S).bind fun b S1 => if b = true then u ρ S1 else .ok false S1 := rfl
@[simp] theorem mOr_ap : mOr t u ρ S = (t ρ S).bind fun b S1 => if b = true then .ok true S1 else u ρ S1 := rfl
@[simp] theorem mVB_ap {k : Bool → VM} : mVB f k ρ S = (f ρ S).bind fun x S1 => match x with
  | .v (.bl b) => k b ρ S1
  | _ => .bad := rfl
@[simp] theorem mAndV_ap : mAndV f g ρ S = mVB f (fun b ρ S => if b = true then g ρ S else .ok (.v (.bl false)) S) ρ S := rfl
@[simp] theorem mOrV_ap : mOrV f g ρ S = mVB f (fun b ρ S => if b = true then .ok (.v (.bl true)) S else g ρ S) ρ S := rfl
@[simp] theorem mNotV_ap : mNotV f ρ S = mVB f (fun b _ S => .ok (.v (.bl !b)) S) ρ S := rfl
@[simp] theorem mIfE_ap : mIfE t f g ρ S = (t ρ S).bind fun b S1 => if b = true then f ρ S1 else g ρ S1 := rfl
@[simp] theorem mTup_ap : mTup fs ρ S = (fs ρ S).bind fun xs S1 => match dats xs with
  | some ds => if ds.length ≤ lim then .ok (.v (.tup ds)) S1 else .bad
  | none => .bad := rfl
@[simp] theorem mLst_ap : mLst fs ρ S = (fs ρ S).bind fun xs S1 => match dats xs with
  | some ds => if ds.length ≤ lim then .ok (.n ds) S1 else .bad
  | none => .bad := rfl
@[simp] theorem dats_nil : dats [] = some [] := rfl
@[simp] theorem dats_cons {d : D} {r : List Val} : dats (.v d :: r) = (dats r).map (d :: ·) := rfl
@[simp] theorem sSeq_ap : sSeq a b ρ S = (match a ρ S with
  | .nx ρ1 S1 => b ρ1 S1
  | r => r) := rfl
@[simp] theorem sSkip_ap : sSkip ρ S = .nx ρ S := rfl
@[simp] theorem sBrk_ap : sBrk ρ S = .bk ρ S := rfl
@[simp] theorem sCnt_ap : sCnt ρ S = .ct ρ S := rfl
@[simp] theorem sExpr_ap : sExpr f ρ S = ofR (f ρ S) ρ fun _ S1 => .nx ρ S1 := rfl
@[simp] theorem sRet_ap : sRet f ρ S = ofR (f ρ S) ρ fun x S1 => .rt x S1 := rfl
@[simp] theorem sRetN_ap : sRetN ρ S = .rt (.v .non) S := rfl
@[simp] theorem sIf_ap : sIf t a b ρ S = ofR (t ρ S) ρ fun c S1 => if c = true then a ρ S1 else b ρ S1 := rfl
@[simp] theorem sSet_ap {i : Nat} : sSet i f ρ S = ofR (f ρ S) ρ fun x S1 => toSlot x ρ i S1 := rfl
@[simp] theorem toSlot_v {d : D} {i : Nat} : toSlot (.v d) ρ i S = .nx (ρ.set i (some (.v d))) S := rfl
@[simp] theorem toSlot_l {n i : Nat} : toSlot (.l n) ρ i S = .nx (ρ.set i (some (.l n))) S := rfl
@[simp] theorem sAug_ap {i : Nat} {o : D → D → Option Val} : sAug i o f ρ S = (match ρ[i]? with
  | some (some (.v d)) => ofR (f ρ S) ρ fun y S1 => ofR (ap2 o S1 (.v d) y) ρ fun z S2 => toSlot z ρ i S2
  | _ => .bad) := rfl
@[simp] theorem sPar_ap {i j : Nat} : sPar i j fs ρ S = ofR (fs ρ S) ρ fun xs S1 => match xs with
  | [x, y] => .nx ((ρ.set i (some x)).set j (some y)) S1
  | _ => .bad := rfl
@[simp] theorem mCall_ap {k : MFn} : mCall k fs ρ S = (fs ρ S).bind fun xs S1 => k xs S1 := rfl
@[simp] theorem mB_ap {o : List D → Option Val} : mB o fs ρ S = (fs ρ S).bind fun xs S1 => apN o S1 xs := rfl
@[simp] theorem apN_ap {o : List D → Option Val} {xs : List Val} : apN o S xs = (match pks S xs with
  | some ps => (match o ps with
    | some z => .ok z S
    | none => .bad)
  | none => .bad) := rfl
@[simp] theorem pks_nil : pks S [] = some [] := rfl
@[simp] theorem pks_cons {x : Val} {xs : List Val} : pks S (x :: xs) = (match pk S x, pks S xs with
  | some p, some ps => some (p :: ps)
  | _, _ => none) := rfl
@[simp] theorem mMut_ap {ar : ArM} {k : List D → List D → Option (List D × D)} : mMut ar k f fs ρ S = (f ρ S).bind fun x S1 => match x with
  | .l n => (match S1[n]? with
    | some (some _) => (fs ρ S1).bind fun ys S2 => (match S2[n]? with
      | some (some ds) => (match ar S2 ys with
        | some ps => (match k ds ps with
          | some (ds', d) => .ok (.v d) (S2.set n (some ds'))
          | none => .bad)
        | none => .bad)
      | _ => .bad)
    | _ => .bad)
  | _ => .bad := rfl
@[simp] theorem mStr_ap {o : SFn} : mStr o f fs ρ S = (f ρ S).bind fun x S1 => match x with
  | .v (.str z) => (fs ρ S1).bind fun ys S2 => apN (o z) S2 ys
  | _ => .bad := rfl
@[simp] theorem mLm_ap {o : List D → List D → Option Val} : mLm o f fs ρ S = (f ρ S).bind fun x S1 => match pk S1 x with
  | some (.lst _) => (fs ρ S1).bind fun ys S2 => (match pk S2 x with
    | some (.lst ds) => apN (o ds) S2 ys
    | _ => .bad)
  | _ => .bad := rfl
@[simp] theorem mIsP_ap {p : Addr} {b : Bool} : mIsP p b f ρ S = (f ρ S).bind fun x S1 => match x with
  | .v (.raw a') => if a' = p then .ok (.v (.bl b)) S1 else .bad
  | _ => .bad := rfl
@[simp] theorem mSl_ap {l u : OM} : mSl f l u ρ S = (f ρ S).bind fun x S1 => (l ρ S1).bind fun l S2 => (u ρ S2).bind fun u S3 => ap1 (gSl l u) S3 x := rfl
@[simp] theorem oNo_ap : oNo ρ S = .ok none S := rfl
@[simp] theorem oAt_ap : oAt f ρ S = (f ρ S).bind fun x S1 => match x with
  | .v (.int i) => .ok (some i) S1
  | _ => .bad := rfl
@[simp] theorem mRng_ap {k : List Val → Sto → R Items} : mRng k fs ρ S = (fs ρ S).bind k := rfl
@[simp] theorem mIt_ap : mIt f ρ S = (mFz f ρ S).bind fun x S1 => match x with
  | .v (.lst ds) => .ok (.fix ds) S1
  | .v (.kl ds) => .ok (.fix ds) S1
  | .v (.tup ds) => .ok (.fix ds) S1
  | .v (.str z) => .ok (.fix (chars z)) S1
  | .l n => (match S1[n]? with
    | some (some _) => .ok (.at_ n) S1
    | _ => .bad)
  | _ => .bad := rfl
@[simp] theorem sFor_ap {it : IM} {k : GM} : sFor it k a ρ S = ofR (it ρ S) ρ fun t S1 => match t with
  | .fix ds => forL k a ds ρ S1
  | .at_ n => forN k a n (lenAt S1 n) 0 ρ S1 := rfl
@[simp] theorem mLC_ap {it : IM} {k : GP} {vs : List Nat} : mLC it k t f vs ρ S = (it ρ S).bind fun z S1 => match z with
  | .fix ds => lcL (wipeM ρ vs) k t f ds [] S1
  | .at_ n => lcN (wipeM ρ vs) k t f n (lenAt S1 n) 0 [] S1 := rfl
@[simp] theorem mYes_ap : mYes ρ S = .ok true S := rfl
@[simp] theorem gN_ap {i : Nat} {d : D} : gN i d ρ S = .ok (ρ.set i (some (.v d))) S := rfl
@[simp] theorem mRepL_ap : mRepL f g ρ S = (f ρ S).bind fun x S1 => (g ρ S1).bind fun y S2 => match x, y with
  | .n ds, .v (.int k) => if (fits62 k && decide (ds.length * k.toNat ≤ lim)) = true then .ok (.n (List.replicate k.toNat ds).flatten) S2 else .bad
  | _, _ => .bad := by
  unfold mRepL
  rfl
@[simp] theorem fin_v {n : Nat} {d : D} : fin n (.v d) S = .ok (.v d) (S.take n) := rfl
@[simp] theorem fin_n {n : Nat} {ds : List D} : fin n (.n ds) S = .ok (.n ds) (S.take n) := rfl
@[simp] theorem leave_rt {n : Nat} {x : Val} : leave n (.rt x S) = fin n x S := rfl
@[simp] theorem leave_nx {n : Nat} : leave n (.nx ρ S) = fin n (.v .non) S := rfl
@[simp] theorem leave_er {n : Nat} {e : Exc} : leave n (.er e ρ S) = .er e (S.take n) := rfl
@[simp] theorem mCallV_ap {tab : FTab} : mCallV tab f fs ρ S = (f ρ S).bind fun x S1 => match x with
  | .v (.fn n) => (match tab.lookup n with
    | some g => (fs ρ S1).bind fun xs S2 => g xs S2
    | none => .bad)
  | _ => .bad := rfl
@[simp] theorem mDIn_ap {neg : Bool} {tab : List (PySem.Str × PySem.Str)} : mDIn neg tab f ρ S = (f ρ S).bind fun x S1 => match x with
  | .v (.str z) => .ok (.v (.bl (if neg then !(tab.lookup z).isSome else (tab.lookup z).isSome))) S1
  | _ => .bad := rfl
@[simp] theorem mDGet_ap {tab : List (PySem.Str × PySem.Str)} : mDGet tab f ρ S = (f ρ S).bind fun x S1 => match x with
  | .v (.str z) => (match tab.lookup z with
    | some m => .ok (.v (.fn m)) S1
    | none => .bad)
  | _ => .bad := rfl
@[simp] theorem sRaise_ap {c : PySem.Str} : sRaise c ρ S = .er ⟨c, none⟩ ρ S := rfl
@[simp] theorem gI_int {k : Int → Int → Option Val} {i j : Int} : gI k (.int i) (.int j) = k i j := rfl
theorem mkFn_ap {np n : Nat} {xs : List Val} (h : xs.length = np) : mkFn np n a xs S = leave S.length (a (xs.map some ++ List.replicate (n - np) none) S) := by
  unfold mkFn
  rw [if_pos h]
end
end M

namespace M
open PySem PySem.Spec PyProof.Rows L2

theorem kitCls_of {K : PySem.W.Frag} {C D' : Addr} {b : Bool} (h2 : PySem.W.isClsIn K D' = true) (h3 : PySem.W.typeIn K (.ref D') = some (.type "type")) (h4 : PySem.W.subIn K (.ref C) (.ref D') = some b) : PySem.W.kitCls K (.ref C) (.ref D') = some b := by
  have e2 : ((PySem.W.clsIn K D').isSome && PySem.W.typeIn K (.ref D') == some (.type "type")) = true := by
    have h2' : (PySem.W.clsIn K D').isSome = true := h2
    rw [h2', h3] <;> rfl
  show (if ((PySem.W.clsIn K D').isSome && PySem.W.typeIn K (.ref D') == some (.type "type")) = true then PySem.W.subIn K (.ref C) (.ref D') else none) = some b
  rw [if_pos e2]
  exact h4
theorem exm_of {K : PySem.W.Frag} {C D' : Addr} {b : Bool} (h1 : PySem.W.subIn K (.ref D') (.type "BaseException") = some true) (h2 : PySem.W.isClsIn K D' = true) (h3 : PySem.W.typeIn K (.ref D') = some (.type "type")) (h4 : PySem.W.subIn K (.ref C) (.ref D') = some b) :
    PySem.W.exmOne K (.ref C) (.ref D') = some b := by
  have e1 : (PySem.W.subIn K (.ref D') (.type "BaseException") == some true) = true := by rw [h1] <;> rfl
  show (if (PySem.W.subIn K (.ref D') (.type "BaseException") == some true) = true then PySem.W.kitCls K (.ref C) (.ref D') else none) = some b
  rw [if_pos e1]
  exact kitCls_of h2 h3 h4
theorem kit_of {K : PySem.W.Frag} {C D' : Addr} {b : Bool} (hne : (Value.ref C == Value.ref D') = false) (h2 : PySem.W.isClsIn K D' = true) (h3 : PySem.W.typeIn K (.ref D') = some (.type "type")) (h4 : PySem.W.subIn K (.ref C) (.ref D') = some b) : PySem.W.kitOne K (.ref C) (.ref D') = some b := by
  unfold PySem.W.kitOne
  rw [if_neg (by rw [hne]; exact Bool.false_ne_true)]
  exact kitCls_of h2 h3 h4
theorem kit_self {K : PySem.W.Frag} {C : Addr} : PySem.W.kitOne K (.ref C) (.ref C) = some true := by
  unfold PySem.W.kitOne
  have h : (Value.ref C == Value.ref C) = true := by
    first | exact beq_self_eq_true _ | simp [BEq.beq, instBEqValue.beq] | (unfold BEq.beq instBEqValue; simp)
  rw [if_pos h]
end M

namespace M
open PySem PySem.Spec PyProof.Rows L2

/-! ### loops -/
/-- one turn of a for -/
def turn (g : GM) (body : SM) (d : D) (ρ : MEnv) (S : Sto) : RS := match g d ρ S with
  | .ok ρ1 S1 => body ρ1 S1
  | _ => .bad
/-- the turn goes on (or leaves the loop), with I -/
def wpL (r : RS) (I : MEnv → Sto → Prop) : Prop := match r with
  | .nx ρ S => I ρ S
  | .ct ρ S => I ρ S
  | .bk ρ S => I ρ S
  | _ => False
@[simp] theorem wpL_nx {ρ : MEnv} {S : Sto} {I : MEnv → Sto → Prop} : wpL (.nx ρ S) I ↔ I ρ S := Iff.rfl
@[simp] theorem wpL_ct {ρ : MEnv} {S : Sto} {I : MEnv → Sto → Prop} : wpL (.ct ρ S) I ↔ I ρ S := Iff.rfl
@[simp] theorem wpL_bk {ρ : MEnv} {S : Sto} {I : MEnv → Sto → Prop} : wpL (.bk ρ S) I ↔ I ρ S := Iff.rfl
@[simp] theorem turn_name {i : Nat} {body : SM} {d : D} {ρ : MEnv} {S : Sto} : turn (gN i) body d ρ S = body (ρ.set i (some (.v d))) S := rfl
theorem forL_nx {g : GM} {body : SM} (I : Nat → MEnv → Sto → Prop) : ∀ (ds : List D) (i : Nat) (ρ : MEnv) (S : Sto), I i ρ S →
    (∀ d ∈ ds, ∀ j ρ S, i ≤ j → j < i + ds.length → I j ρ S → wpL (turn g body d ρ S) (I (j + 1))) →
    ∃ j ρ' S', forL g body ds ρ S = .nx ρ' S' ∧ I j ρ' S' ∧ i ≤ j ∧ j ≤ i + ds.length
  | [], i, ρ, S, h, _ => ⟨i, ρ, S, rfl, h, Nat.le_refl _, by simp⟩
  | d :: ds, i, ρ, S, h, hs => by
    have h1 := hs d List.mem_cons_self i ρ S (Nat.le_refl _) (by simp) h
    have go : forL g body (d :: ds) ρ S = onward (turn g body d ρ S) (forL g body ds) := by
      show step g body d ρ S (forL g body ds) = _
      unfold step turn
      cases hg : g d ρ S with
      | ok ρ1 S1 => rfl
      | er e S1 => rfl
      | bad => rfl
    have ih : ∀ ρ2 S2, I (i + 1) ρ2 S2 → ∃ j ρ' S', forL g body ds ρ2 S2 = .nx ρ' S' ∧ I j ρ' S' ∧ i ≤ j ∧ j ≤ i + (d :: ds).length := fun ρ2 S2 h2 => by
      obtain ⟨j, ρ', S', e3, h3, h4, h5⟩ := forL_nx I ds (i + 1) ρ2 S2 h2 fun d' hd j ρ S h1 h3 h4 => hs d' (List.mem_cons_of_mem _ hd) j ρ S (by omega) (by simp; omega) h4
      exact ⟨j, ρ', S', e3, h3, by omega, by simp; omega⟩
    rw [go]
    cases ht : turn g body d ρ S with
    | nx ρ2 S2 => rw [ht] at h1; exact ih _ _ h1
    | ct ρ2 S2 => rw [ht] at h1; exact ih _ _ h1
    | bk ρ2 S2 =>
      rw [ht] at h1
      exact ⟨i + 1, ρ2, S2, rfl, h1, by omega, by simp⟩
    | rt x S2 => rw [ht] at h1; exact h1.elim
    | er e ρ2 S2 => rw [ht] at h1; exact h1.elim
    | bad => rw [ht] at h1; exact h1.elim
/-- a comprehension whose turns each give one thing -/
theorem lcL_ok {ρ : MEnv} {g : GP} {te : VM} (I : Sto → Prop) (P : D → D → Prop) : ∀ (ds acc : List D) (S : Sto), I S → acc.length + ds.length ≤ lim →
    (∀ d ∈ ds, ∀ S, I S → ∃ ρ1 y S', g d ρ = some ρ1 ∧ te ρ1 S = .ok (.v y) S' ∧ I S' ∧ P d y) →
    ∃ ys S', lcL ρ g mYes te ds acc S = .ok (.n (acc ++ ys)) S' ∧ I S' ∧ ys.length = ds.length ∧ (∀ y ∈ ys, ∃ d ∈ ds, P d y)
  | [], acc, S, h, _, _ => ⟨[], S, by simp [lcL], h, rfl, by simp⟩
  | d :: ds, acc, S, h, hl, hs => by
    obtain ⟨ρ1, y, S1, e1, e2, h1, hp⟩ := hs d List.mem_cons_self S h
    simp only [List.length_cons] at hl
    obtain ⟨ys, S2, e3, h2, hl2, hp2⟩ := lcL_ok I P ds (acc ++ [y]) S1 h1 (by simp; omega) fun d' hd => hs d' (List.mem_cons_of_mem _ hd)
    refine ⟨y :: ys, S2, ?_, h2, by simp [hl2], fun z hz => ?_⟩
    · show lcTurn ρ g mYes te d acc S (lcL ρ g mYes te ds) = _
      unfold lcTurn
      rw [e1]
      dsimp only
      rw [mYes_ap]
      dsimp only
      rw [if_pos rfl, e2]
      dsimp only
      rw [if_pos (by omega), e3]
      simp
    · rcases List.mem_cons.mp hz with rfl | hz
      · exact ⟨d, List.mem_cons_self, hp⟩
      · obtain ⟨d', hd, hp'⟩ := hp2 z hz
        exact ⟨d', List.mem_cons_of_mem _ hd, hp'⟩
/-- a comprehension that reads only -/
theorem lcL_map {ρ : MEnv} {g : GP} {te : VM} {S : Sto} {F : D → D} : ∀ (ds acc : List D), acc.length + ds.length ≤ lim → (∀ d ∈ ds, ∃ ρ1, g d ρ = some ρ1 ∧ te ρ1 S = .ok (.v (F d)) S) → lcL ρ g mYes te ds acc S = .ok (.n (acc ++ ds.map F)) S
  | [], acc, _, _ => by simp [lcL]
  | d :: ds, acc, hl, hs => by
    obtain ⟨ρ1, e1, e2⟩ := hs d List.mem_cons_self
    simp only [List.length_cons] at hl
    have ih := lcL_map ds (acc ++ [F d]) (by simp; omega) fun d' hd => hs d' (List.mem_cons_of_mem _ hd)
    show lcTurn ρ g mYes te d acc S (lcL ρ g mYes te ds) = _
    unfold lcTurn
    rw [e1]
    dsimp only
    rw [mYes_ap]
    dsimp only
    rw [if_pos rfl, e2]
    dsimp only
    rw [if_pos (by omega), ih]
    simp
/-- with a test -/
theorem lcL_filter {ρ : MEnv} {g : GP} {tt : TM} {te : VM} {S : Sto} {F : D → D} {p : D → Bool} : ∀ (ds acc : List D), acc.length + ds.length ≤ lim → (∀ d ∈ ds, ∃ ρ1, g d ρ = some ρ1 ∧ tt ρ1 S = .ok (p d) S ∧ (p d = true → te ρ1 S = .ok (.v (F d)) S)) →
    lcL ρ g tt te ds acc S = .ok (.n (acc ++ (ds.filter p).map F)) S
  | [], acc, _, _ => by simp [lcL]
  | d :: ds, acc, hl, hs => by
    obtain ⟨ρ1, e1, e2, e3⟩ := hs d List.mem_cons_self
    simp only [List.length_cons] at hl
    show lcTurn ρ g tt te d acc S (lcL ρ g tt te ds) = _
    unfold lcTurn
    rw [e1]
    dsimp only
    rw [e2]
    dsimp only
    by_cases hp : p d = true
    · have ih := lcL_filter (F := F) (p := p) ds (acc ++ [F d]) (by simp; omega) fun d' hd => hs d' (List.mem_cons_of_mem _ hd)
      rw [if_pos hp, e3 hp]
      dsimp only
      rw [if_pos (by omega), ih]
      simp [hp]
    · have ih := lcL_filter (F := F) (p := p) ds acc (by omega) fun d' hd => hs d' (List.mem_cons_of_mem _ hd)
      rw [if_neg hp, ih]
      simp [hp]

/-! ### the draws: functions that all the laws share -/
namespace PR
def body__law_number : SM :=
      (sSeq (sIf (mTB (mOp gLt (mV 0) (mC (.int 0)))) (sRet (mOp gSub (mC (.int 0)) (mV 0))) sSkip)
      (sRet (mV 0)))
def f__law_number : MFn := mkFn 1 1 body__law_number
def body__law_draws : SM :=
      (sSeq (sSet 1 (mAl (mLst mNil)))
      (sSeq (sFor (mIt (mV 0)) (gN 2) (sSeq (sSet 3 (mCall f__law_number (mCons (mV 2) mNil)))
      (sIf (mTB (mOp gGe (mV 3) (mC (.int 1000000000000000000)))) (sFor (mRng rng1 (mCons (mC (.int 60)) mNil)) (gN 4) (sSeq (sIf (mTB (mOp gEq (mV 3) (mC (.int 0)))) sBrk sSkip)
      (sSeq (sExpr (mMut arK hApp (mV 1) (mCons (mOp gMod (mB (g1 intD) (mCons (mV 3) mNil)) (mC (.int 1000))) mNil)))
      (sSet 3 (mOp gDiv (mV 3) (mC (.int 1000))))))) (sSeq (sSet 5 (mOp gMod (mB (g1 intD) (mCons (mOp gAdd (mOp gMulI (mV 3) (mC (.int 48271))) (mC (.int 11))) mNil)) (mC (.int 2147483647))))
      (sSeq (sSet 6 (mOp gMod (mB (g1 intD) (mCons (mOp gAdd (mOp gMulI (mV 5) (mC (.int 69621))) (mV 3)) mNil)) (mC (.int 2147483629))))
      (sExpr (mMut pks hExt (mV 1) (mCons (mFz (mLst (mCons (mOp gMod (mB (g1 intD) (mCons (mV 3) mNil)) (mC (.int 1000))) (mCons (mOp gMod (mB (g1 intD) (mCons (mV 5) mNil)) (mC (.int 1000))) (mCons (mOp gMod (mB (g1 intD) (mCons (mV 6) mNil)) (mC (.int 1000))) mNil))))) mNil))))))))
      (sSeq (sExpr (mMut arK hRev (mV 1) mNil))
      (sRet (mV 1)))))
def f__law_draws : MFn := mkFn 1 7 body__law_draws
def body__law_next : SM :=
      (sSeq (sIf (mTru (mV 0)) (sRet (mMut arK hPop (mV 0) mNil)) sSkip)
      (sRet (mC (.int 0))))
def f__law_next : MFn := mkFn 1 1 body__law_next
def body__law_more : SM :=
      (sSeq (sSet 2 (mOp gAdd (mOp gAdd (mOp gMulI (mC (.int 1000)) (mCall f__law_next (mCons (mV 0) mNil))) (mCall f__law_next (mCons (mV 0) mNil))) (mC (.int 1))))
      (sSeq (sSet 3 (mAl (mLst mNil)))
      (sSeq (sFor (mRng rng1 (mCons (mV 1) mNil)) (gN 4) (sSeq (sSet 2 (mOp gMod (mB (g1 intD) (mCons (mOp gAdd (mOp gMulI (mV 2) (mC (.int 48271))) (mC (.int 12345))) mNil)) (mC (.int 2147483647))))
      (sExpr (mMut arK hApp (mV 3) (mCons (mOp gMod (mB (g1 intD) (mCons (mOp gDiv (mV 2) (mC (.int 7))) mNil)) (mC (.int 1000))) mNil)))))
      (sRet (mOp gAdd (mV 3) (mV 0))))))
def f__law_more : MFn := mkFn 2 5 body__law_more
def body__law_pick : SM :=
      (sRet (mOp gIx (mV 1) (mOp gMod (mB (g1 intD) (mCons (mCall f__law_next (mCons (mV 0) mNil)) mNil)) (mB (g1 lenD) (mCons (mV 1) mNil)))))
def f__law_pick : MFn := mkFn 2 2 body__law_pick
/-! what is known of a list of draws -/
def Dr (ds : List Int) : Prop := ds.length ≤ 100000 ∧ ∀ d ∈ ds, 0 ≤ d ∧ d < 1000
def AtD (S : Sto) (n : Nat) : Prop := ∃ ds : List Int, S[n]? = some (some (ds.map D.int)) ∧ Dr ds
def Stp (n : Nat) (S S' : Sto) : Prop := ∃ ds : List Int, S' = S.set n (some (ds.map D.int)) ∧ Dr ds
theorem set_same {α : Type} {l : List α} {n : Nat} {x : α} (h : l[n]? = some x) : l.set n x = l := by
  apply List.ext_getElem?
  intro i
  by_cases e : n = i
  · subst e
    rw [List.getElem?_set_self (List.getElem?_eq_some_iff.mp h).1, h]
  · rw [List.getElem?_set_ne e]
theorem AtD.stp {S : Sto} {n : Nat} (h : AtD S n) : Stp n S S := by
  obtain ⟨ds, e, d⟩ := h
  exact ⟨ds, (set_same e).symm, d⟩
theorem AtD.lt {S : Sto} {n : Nat} (h : AtD S n) : n < S.length := by
  obtain ⟨ds, e, d⟩ := h
  exact (List.getElem?_eq_some_iff.mp e).1
theorem Stp.trans {S S' S2 : Sto} {n : Nat} (a : Stp n S S') (b : Stp n S' S2) : Stp n S S2 := by
  obtain ⟨ds, rfl, _⟩ := a
  obtain ⟨es, rfl, d⟩ := b
  exact ⟨es, by rw [List.set_set], d⟩
theorem Stp.length {S S' : Sto} {n : Nat} (a : Stp n S S') : S'.length = S.length := by
  obtain ⟨ds, rfl, _⟩ := a
  simp
theorem Stp.at_ {S S' : Sto} {n : Nat} (a : Stp n S S') (h : AtD S n) : AtD S' n := by
  obtain ⟨ds, rfl, d⟩ := a
  exact ⟨ds, List.getElem?_set_self h.lt, d⟩
theorem Stp.ne {S S' : Sto} {n m : Nat} (a : Stp n S S') (h : n ≠ m) : S'[m]? = S[m]? := by
  obtain ⟨ds, rfl, d⟩ := a
  exact List.getElem?_set_ne h
theorem Dr.nil : Dr [] := ⟨by simp, by simp⟩
theorem Dr.dropLast {ds : List Int} (h : Dr ds) : Dr ds.dropLast := ⟨by have := h.1; simp; omega, fun d hd => h.2 d (List.dropLast_subset _ hd)⟩
@[simp] theorem set_concat_length {α : Type} {l : List α} {x y : α} : (l ++ [x]).set l.length y = l ++ [y] := by
  rw [List.set_append_right _ _ (Nat.le_refl _)]
  simp
theorem next_ok {S : Sto} {n : Nat} (h : AtD S n) : ∃ (i : Int) (S' : Sto), f__law_next [.l n] S = .ok (.v (.int i)) S' ∧ Stp n S S' ∧ 0 ≤ i ∧ i < 1000 := by
  have hl := h.lt
  have hst := h.stp
  obtain ⟨ds, e, d⟩ := h
  rw [show f__law_next [.l n] S = leave S.length (body__law_next [some (.l n)] S) from rfl]
  by_cases h0 : ds = []
  · subst h0
    refine ⟨0, S, ?_, hst, by decide, by decide⟩
    simp [body__law_next, e, truB, List.take_of_length_le]
  · have hlen : 0 < ds.length := List.length_pos_iff.mpr h0
    have e2 : ds[ds.length - 1]? = some ds[ds.length - 1] := List.getElem?_eq_getElem (by omega)
    refine ⟨ds[ds.length - 1], S.set n (some (ds.dropLast.map D.int)), ?_, ⟨_, rfl, d.dropLast⟩, d.2 _ (List.getElem_mem _)⟩
    have hb : (!(ds.map D.int).isEmpty) = true := by
      cases ds with
      | nil => exact absurd rfl h0
      | cons a r => rfl
    have tk : ∀ T : Sto, T.length = S.length → T.take S.length = T := fun T hT => List.take_of_length_le (by omega)
    simp only [body__law_next, sSeq_ap, sIf_ap, mTru_ap, mV_ap, List.map_cons, List.map_nil, List.cons_append, List.getElem?_cons_zero, bind_ok, pk_l, e, truB, hb, ofR_ok, if_true, sRet_ap, mMut_ap, mNil_ap, arK, dats_nil, hPop, List.length_map, List.getElem?_map, e2, Option.map_some, leave_rt, fin_v]
    rw [tk _ (by simp), List.map_dropLast]
theorem fmod_pos {a b : Int} (h : 0 < b) : 0 ≤ a.fmod b ∧ a.fmod b < b := ⟨Int.fmod_nonneg_of_pos a h, Int.fmod_lt_of_pos a h⟩
theorem number_ok {S : Sto} {i : Int} : f__law_number [.v (.int i)] S = .ok (.v (.int (if i < 0 then 0 - i else i))) S := by
  rw [show f__law_number [.v (.int i)] S = leave S.length (body__law_number [some (.v (.int i))] S) from rfl]
  by_cases h : i < 0
  · simp [body__law_number, gLt, gOrd, gSub, h]
  · simp [body__law_number, gLt, gOrd, gSub, h]
theorem lt_lim {n : Nat} (h : n < 200000) : n < lim := by
  unfold lim
  omega
theorem le_lim {n : Nat} (h : n ≤ 200000) : n ≤ lim := by
  unfold lim
  omega
theorem Dr1.app {ds es : List Int} (h : ∀ d ∈ ds, 0 ≤ d ∧ d < 1000) (h2 : ∀ d ∈ es, 0 ≤ d ∧ d < 1000) : ∀ d ∈ ds ++ es, 0 ≤ d ∧ d < 1000 := fun d hd => (List.mem_append.mp hd).elim (h d) (h2 d)
theorem big_48271 {i : Int} : (big i || big 48271) = true := by
  rw [Bool.or_eq_true]
  exact .inr (by decide)
theorem big_69621 {i : Int} : (big i || big 69621) = true := by
  rw [Bool.or_eq_true]
  exact .inr (by decide)
theorem gMulI_r {i j : Int} (h : big j = true) : gMulI (.int i) (.int j) = some (.v (.int (i * j))) := by
  show (if (big i || big j) = true then some (Val.v (D.int (i * j))) else none) = _
  rw [h, Bool.or_true, if_pos rfl]
theorem gMulI_l {i j : Int} (h : big i = true) : gMulI (.int i) (.int j) = some (.v (.int (i * j))) := by
  show (if (big i || big j) = true then some (Val.v (D.int (i * j))) else none) = _
  rw [h, Bool.true_or, if_pos rfl]
theorem gMod_int {i j : Int} (h : j ≠ 0) : gMod (.int i) (.int j) = some (.v (.int (i.fmod j))) := by
  show (if j ≠ 0 then some (Val.v (D.int (i.fmod j))) else none) = _
  rw [if_pos h]
theorem gDiv_int {i j : Int} (h : j ≠ 0) (h2 : j.natAbs < 1073741824) : gDiv (.int i) (.int j) = some (.v (.int (i.fdiv j))) := by
  show (if j ≠ 0 ∧ j.natAbs < 1073741824 then some (Val.v (D.int (i.fdiv j))) else none) = _
  rw [if_pos ⟨h, h2⟩]
@[simp] theorem gAdd_int {i j : Int} : gAdd (.int i) (.int j) = some (.v (.int (i + j))) := rfl
@[simp] theorem gSub_int {i j : Int} : gSub (.int i) (.int j) = some (.v (.int (i - j))) := rfl
@[simp] theorem gLt_int {i j : Int} : gLt (.int i) (.int j) = some (.v (.bl (decide (i < j)))) := rfl
@[simp] theorem gLe_int {i j : Int} : gLe (.int i) (.int j) = some (.v (.bl (decide (i ≤ j)))) := rfl
@[simp] theorem gGt_int {i j : Int} : gGt (.int i) (.int j) = some (.v (.bl (decide (j < i)))) := rfl
@[simp] theorem gGe_int {i j : Int} : gGe (.int i) (.int j) = some (.v (.bl (decide (j ≤ i)))) := rfl
@[simp] theorem gEq_int {i j : Int} : gEq (.int i) (.int j) = some (.v (.bl (decide (i = j)))) := by
  show some (Val.v (D.bl (i == j))) = _
  rfl
@[simp] theorem gNe_int {i j : Int} : gNe (.int i) (.int j) = some (.v (.bl (!decide (i = j)))) := by
  show some (Val.v (D.bl (!(i == j)))) = _
  rfl
@[simp] theorem intD_int {i : Int} : g1 intD [.int i] = some (.v (.int i)) := rfl
theorem gAdd_lst {a b : List D} (h : a.length + b.length ≤ lim) : gAdd (.lst a) (.lst b) = some (.n (a ++ b)) := if_pos h
theorem gAdd_tup {a b : List D} (h : a.length + b.length ≤ lim) : gAdd (.tup a) (.tup b) = some (.v (.tup (a ++ b))) := if_pos h
theorem gAdd_str {a b : PySem.Str} (h : a.length + b.length ≤ lim) : gAdd (.str a) (.str b) = some (.v (.str (a ++ b))) := if_pos h
theorem draws_ok {S : Sto} {ns : List Int} (hn : ns.length ≤ 63) : ∃ ds : List Int, f__law_draws [.v (.kl (ns.map D.int))] S = .ok (.n (ds.map D.int)) S ∧ Dr ds ∧ ds.length ≤ 3780 := by
  rw [show f__law_draws [.v (.kl (ns.map D.int))] S = leave S.length (body__law_draws [some (.v (.kl (ns.map D.int))), none, none, none, none, none, none] S) from rfl]
  let I : Nat → MEnv → Sto → Prop := fun i ρ S' => ∃ (ds : List Int) (o2 o3 o4 o5 o6 : Option Val), ρ = [some (.v (.kl (ns.map D.int))), some (.l S.length), o2, o3, o4, o5, o6] ∧ S' = S ++ [some (ds.map D.int)] ∧ ds.length ≤ 60 * i ∧ ∀ d ∈ ds, 0 ≤ d ∧ d < 1000
  let J : List Int → Nat → MEnv → Sto → Prop := fun d0 i ρ S' => ∃ (ds : List Int) (r : Int) (o2 o4 o5 o6 : Option Val), ρ = [some (.v (.kl (ns.map D.int))), some (.l S.length), o2, some (.v (.int r)), o4, o5, o6] ∧ S' = S ++ [some (ds.map D.int)] ∧ ds.length ≤ d0.length + i ∧ ∀ d ∈ ds, 0 ≤ d ∧ d < 1000
  have main : ∃ j ρ' S', forL (gN 2) (sSeq (sSet 3 (mCall f__law_number (mCons (mV 2) mNil)))
      (sIf (mTB (mOp gGe (mV 3) (mC (.int 1000000000000000000)))) (sFor (mRng rng1 (mCons (mC (.int 60)) mNil)) (gN 4) (sSeq (sIf (mTB (mOp gEq (mV 3) (mC (.int 0)))) sBrk sSkip)
      (sSeq (sExpr (mMut arK hApp (mV 1) (mCons (mOp gMod (mB (g1 intD) (mCons (mV 3) mNil)) (mC (.int 1000))) mNil)))
      (sSet 3 (mOp gDiv (mV 3) (mC (.int 1000))))))) (sSeq (sSet 5 (mOp gMod (mB (g1 intD) (mCons (mOp gAdd (mOp gMulI (mV 3) (mC (.int 48271))) (mC (.int 11))) mNil)) (mC (.int 2147483647))))
      (sSeq (sSet 6 (mOp gMod (mB (g1 intD) (mCons (mOp gAdd (mOp gMulI (mV 5) (mC (.int 69621))) (mV 3)) mNil)) (mC (.int 2147483629))))
      (sExpr (mMut pks hExt (mV 1) (mCons (mFz (mLst (mCons (mOp gMod (mB (g1 intD) (mCons (mV 3) mNil)) (mC (.int 1000))) (mCons (mOp gMod (mB (g1 intD) (mCons (mV 5) mNil)) (mC (.int 1000))) (mCons (mOp gMod (mB (g1 intD) (mCons (mV 6) mNil)) (mC (.int 1000))) mNil))))) mNil)))))))
      (ns.map D.int) [some (.v (.kl (ns.map D.int))), some (.l S.length), none, none, none, none, none] (S ++ [some []]) = .nx ρ' S' ∧ I j ρ' S' ∧ 0 ≤ j ∧ j ≤ 0 + (ns.map D.int).length := by
    refine forL_nx I (ns.map D.int) 0 _ _ ⟨[], none, none, none, none, none, rfl, rfl, by simp, by simp⟩ fun d hd j ρ T hj1 hj2 hI => ?_
    obtain ⟨n, hn', rfl⟩ := List.mem_map.mp hd
    obtain ⟨ds, o2, o3, o4, o5, o6, rfl, rfl, hl, hds⟩ := hI
    have hj : j < 63 := by
      rw [List.length_map] at hj2
      omega
    have hdl : ds.length ≤ 3780 := by omega
    generalize hr : (if n < 0 then 0 - n else n) = r
    have e0 : ∀ T : Sto, f__law_number [.v (.int n)] T = .ok (.v (.int r)) T := fun T => by rw [number_ok, hr]
    by_cases hb : (1000000000000000000 : Int) ≤ r
    · obtain ⟨m, ρ', T', e1, ⟨es, r', p2, p4, p5, p6, rfl, rfl, h3, h4⟩, h5, h6⟩ := forL_nx (g := gN 4) (body := (sSeq (sIf (mTB (mOp gEq (mV 3) (mC (.int 0)))) sBrk sSkip)
          (sSeq (sExpr (mMut arK hApp (mV 1) (mCons (mOp gMod (mB (g1 intD) (mCons (mV 3) mNil)) (mC (.int 1000))) mNil)))
          (sSet 3 (mOp gDiv (mV 3) (mC (.int 1000)))))))
        (J ds) (upto 0 60) 0 [some (.v (.kl (ns.map D.int))), some (.l S.length), some (.v (.int n)), some (.v (.int r)), o4, o5, o6] (S ++ [some (ds.map D.int)])
        ⟨ds, r, _, o4, o5, o6, rfl, rfl, by omega, hds⟩ (by
          intro d hd k ρ T k1 k2 hJ
          obtain ⟨es, q, p2, p4, p5, p6, rfl, rfl, h3, h4⟩ := hJ
          have hk : (upto 0 60).length = 60 := by simp [upto]
          rw [hk] at k2
          by_cases hq : q = 0
          · subst hq
            simp
            exact ⟨es, 0, p2, some (.v d), p5, p6, rfl, rfl, by omega, h4⟩
          · have hz : es.length < lim := lt_lim (by omega)
            simp [hq, gMod_int, gDiv_int, arK, hApp, hz]
            exact ⟨es ++ [q.fmod 1000], q.fdiv 1000, p2, some (.v d), p5, p6, rfl, by simp, by simp; omega, Dr1.app h4 (by
              intro z hz
              rw [List.mem_singleton] at hz
              subst hz
              exact fmod_pos (by decide))⟩)
      have hk : (upto 0 60).length = 60 := by simp [upto]
      rw [hk] at h6
      have hf : fits62 60 = true := by decide
      simp [e0, hb, rng1, hf, e1]
      exact ⟨es, p2, some (.v (.int r')), p4, p5, p6, rfl, rfl, by omega, h4⟩
    · have hz : ds.length + 3 ≤ lim := le_lim (by omega)
      have h3 : (3 : Nat) ≤ lim := le_lim (by omega)
      simp [e0, hb, gMod_int, gMulI_r (show big 48271 = true by decide), gMulI_r (show big 69621 = true by decide), hExt, hz, h3]
      exact ⟨ds ++ [r.fmod 1000, ((r * 48271 + 11).fmod 2147483647).fmod 1000, (((r * 48271 + 11).fmod 2147483647 * 69621 + r).fmod 2147483629).fmod 1000], some (.v (.int n)), some (.v (.int r)), o4, some (.v (.int ((r * 48271 + 11).fmod 2147483647))), some (.v (.int (((r * 48271 + 11).fmod 2147483647 * 69621 + r).fmod 2147483629))), rfl, by simp, by simp; omega, Dr1.app hds (by
        intro z hz
        simp only [List.mem_cons, List.not_mem_nil, or_false] at hz
        rcases hz with rfl | rfl | rfl <;> exact fmod_pos (by decide))⟩
  obtain ⟨j, ρ', S', e1, ⟨ds, o2, o3, o4, o5, o6, rfl, rfl, hl, hds⟩, _, hj⟩ := main
  rw [List.length_map] at hj
  refine ⟨ds.reverse, ?_, ⟨by rw [List.length_reverse]; omega, fun d hd => hds d (List.mem_reverse.mp hd)⟩, by rw [List.length_reverse]; omega⟩
  have h0 : (0 : Nat) ≤ lim := Nat.zero_le _
  simp [body__law_draws, e1, arK, hRev, fin]
theorem more_ok {S : Sto} {n : Nat} {m : Int} (h : AtD S n) (h0 : 0 ≤ m) (hm : m ≤ 40000) (hlen : ∀ ds : List Int, S[n]? = some (some (ds.map D.int)) → ds.length ≤ 50000) :
    ∃ (ds : List Int) (S' : Sto), f__law_more [.l n, .v (.int m)] S = .ok (.n (ds.map D.int)) S' ∧ Stp n S S' ∧ Dr ds ∧ ds.length ≤ 50000 + m.toNat := by
  rw [show f__law_more [.l n, .v (.int m)] S = leave S.length (body__law_more [some (.l n), some (.v (.int m)), none, none, none] S) from rfl]
  obtain ⟨i, S1, e1, s1, i1, i2⟩ := next_ok h
  have a1 := s1.at_ h
  obtain ⟨j, S2, e2, s2, j1, j2⟩ := next_ok a1
  have a2 := s2.at_ a1
  have s12 := s1.trans s2
  have n2 : n < S2.length := a2.lt
  obtain ⟨es, he, hes⟩ := a2
  have hes2 : es.length ≤ 50000 := by
    obtain ⟨ds0, hd0, _⟩ := h
    have l0 := hlen ds0 hd0
    -- what is left is no longer than it was
    have p1 : ∀ (T T' : Sto) (i : Int) (ds : List Int), T[n]? = some (some (ds.map D.int)) → f__law_next [.l n] T = .ok (.v (.int i)) T' → ∃ ds' : List Int, T'[n]? = some (some (ds'.map D.int)) ∧ ds'.length ≤ ds.length := by
      intro T T' i ds hT hf
      have hlt : n < T.length := (List.getElem?_eq_some_iff.mp hT).1
      rw [show f__law_next [.l n] T = leave T.length (body__law_next [some (.l n)] T) from rfl] at hf
      by_cases hz : ds = []
      · subst hz
        simp [body__law_next, hT, truB, List.take_of_length_le] at hf
        obtain ⟨_, rfl⟩ := hf
        exact ⟨[], hT, Nat.le_refl _⟩
      · have hp : 0 < ds.length := List.length_pos_iff.mpr hz
        have e2 : ds[ds.length - 1]? = some ds[ds.length - 1] := List.getElem?_eq_getElem (by omega)
        have hb : (!(ds.map D.int).isEmpty) = true := by
          cases ds with
          | nil => exact absurd rfl hz
          | cons a r => rfl
        simp only [body__law_next, sSeq_ap, sIf_ap, mTru_ap, mV_ap, List.getElem?_cons_zero, bind_ok, pk_l, hT, truB, hb, ofR_ok, if_true, sRet_ap, mMut_ap, mNil_ap, arK, dats_nil, hPop, List.length_map, List.getElem?_map, e2, Option.map_some, leave_rt, fin_v] at hf
        injection hf with _ hT'
        subst hT'
        rw [List.take_of_length_le (by simp), List.getElem?_set_self hlt, ← List.map_dropLast]
        exact ⟨_, rfl, by simp⟩
    obtain ⟨d1, q1, l1⟩ := p1 _ _ _ _ hd0 e1
    obtain ⟨d2, q2, l2⟩ := p1 _ _ _ _ q1 e2
    rw [q2] at he
    injection he with he
    injection he with he
    have := congrArg List.length he
    simp at this
    omega
  let I : Nat → MEnv → Sto → Prop := fun k ρ T => ∃ (r : Int) (o4 : Option Val) (ds : List Int), ρ = [some (.l n), some (.v (.int m)), some (.v (.int r)), some (.l S2.length), o4] ∧ T = S2 ++ [some (ds.map D.int)] ∧ ds.length = k ∧ ∀ d ∈ ds, 0 ≤ d ∧ d < 1000
  obtain ⟨k, ρ', T', e3, ⟨r, o4, ds, rfl, rfl, hk, hds⟩, _, hk2⟩ := forL_nx (g := gN 4) (body := (sSeq (sSet 2 (mOp gMod (mB (g1 intD) (mCons (mOp gAdd (mOp gMulI (mV 2) (mC (.int 48271))) (mC (.int 12345))) mNil)) (mC (.int 2147483647))))
      (sExpr (mMut arK hApp (mV 3) (mCons (mOp gMod (mB (g1 intD) (mCons (mOp gDiv (mV 2) (mC (.int 7))) mNil)) (mC (.int 1000))) mNil))))) I (upto 0 m.toNat) 0
      [some (.l n), some (.v (.int m)), some (.v (.int (1000 * i + j + 1))), some (.l S2.length), none] (S2 ++ [some []]) ⟨_, none, [], rfl, rfl, rfl, by simp⟩ (by
    intro d hd k ρ T k1 k2 hI
    obtain ⟨r, o4, ds, rfl, rfl, hk, hds⟩ := hI
    have hul : (upto 0 m.toNat).length = m.toNat := by simp [upto]
    rw [hul] at k2
    have hz : ds.length < lim := lt_lim (by omega)
    simp [gMod_int, gDiv_int, gMulI_r (show big 48271 = true by decide), arK, hApp, hz]
    exact ⟨(r * 48271 + 12345).fmod 2147483647, some (.v d), ds ++ [(((r * 48271 + 12345).fmod 2147483647).fdiv 7).fmod 1000], rfl, by simp, by simp [hk], Dr1.app hds (by
      intro z hz
      rw [List.mem_singleton] at hz
      subst hz
      exact fmod_pos (by decide))⟩)
  have hul : (upto 0 m.toNat).length = m.toNat := by simp [upto]
  rw [hul] at hk2
  have hf : fits62 m = true := by
    unfold fits62
    rw [Bool.and_eq_true, decide_eq_true_eq, decide_eq_true_eq]
    omega
  have hcat : (ds ++ es).length ≤ lim := le_lim (by rw [List.length_append]; omega)
  have he' : (S2 ++ [some (ds.map D.int)])[n]? = some (some (es.map D.int)) := by rw [List.getElem?_append_left n2]; exact he
  refine ⟨ds ++ es, S2, ?_, s12, ⟨by rw [List.length_append]; omega, Dr1.app hds hes.2⟩, by rw [List.length_append]; omega⟩
  have hl : ds.length + es.length ≤ lim := by rw [← List.length_append]; exact hcat
  have l2 : S2.length = S.length := s12.length
  rw [l2] at e3
  have g3 : (S2 ++ [some (ds.map D.int)])[S.length]? = some (some (ds.map D.int)) := by rw [← l2]; simp
  simp [body__law_more, e1, e2, gMulI_l (show big 1000 = true by decide), rng1, hf, e3, he', g3, gAdd_lst, hl, l2]
theorem fmod_len {i : Int} {n : Nat} (h : 0 < n) : ∃ j : Nat, i.fmod n = j ∧ j < n := by
  obtain ⟨h1, h2⟩ := fmod_pos (a := i) (b := n) (by omega)
  exact ⟨(i.fmod n).toNat, by omega, by omega⟩
theorem atI_ofNat {α : Type} {xs : List α} {j : Nat} (h : j < xs.length) : L2.atI xs (j : Int) = some xs[j] := by
  rw [L2.atI_nat (j := j) (List.getElem?_eq_getElem h)]
theorem pick_ok {S : Sto} {n : Nat} {xs : List D} (h : AtD S n) (hx : xs ≠ []) (hl : xs.length ≤ 100000) : ∃ (x : D) (S' : Sto), f__law_pick [.l n, .v (.lst xs)] S = .ok (.v x) S' ∧ Stp n S S' ∧ x ∈ xs := by
  rw [show f__law_pick [.l n, .v (.lst xs)] S = leave S.length (body__law_pick [some (.l n), some (.v (.lst xs))] S) from rfl]
  obtain ⟨i, S1, e1, s1, i1, i2⟩ := next_ok h
  have h0 : 0 < xs.length := List.length_pos_iff.mpr hx
  obtain ⟨j, ej, hj⟩ := fmod_len (i := i) h0
  refine ⟨xs[j], S1, ?_, s1, List.getElem_mem hj⟩
  have hl2 : xs.length ≤ lim := le_lim (by omega)
  have hne : (xs.length : Int) ≠ 0 := by omega
  have len : g1 lenD [.lst xs] = some (.v (.int xs.length)) := by
    first | rfl | simp [g1, lenD, hl2]
  have l1 : S1.length = S.length := s1.length
  simp [body__law_pick, e1, len, gMod_int hne, ej, gIx, atI_ofNat hj, ← l1]
end PR
end M

namespace M
open PySem PySem.Spec PyProof.Rows L2

/-! ### good data: what ==, !=, repr answer for -/
mutual
def D.ok : D → Bool
  | .non => true
  | .bl _ => true
  | .int i => decide (i.natAbs < 1000000000000)
  | .str x => PyData.strOk x
  | .tup ds => D.oks ds
  | .lst ds => D.oks ds
  | .fn _ => false
  | .kl _ => false
  | .raw _ => false
def D.oks : List D → Bool
  | [] => true
  | d :: ds => D.ok d && D.oks ds
end
mutual
def D.dep : D → Nat
  | .tup ds => D.deps ds + 1
  | .lst ds => D.deps ds + 1
  | _ => 0
def D.deps : List D → Nat
  | [] => 0
  | d :: ds => max (D.dep d) (D.deps ds)
end
mutual
def D.wt : D → Nat
  | .int _ => 41
  | .str x => x.cps.size
  | .tup ds => D.wts ds
  | .lst ds => D.wts ds
  | _ => 0
def D.wts : List D → Nat
  | [] => 0
  | d :: ds => D.wt d + 1 + D.wts ds
end
theorem log_41 {i : Int} (h : i.natAbs < 1000000000000) : (if i == 0 then 0 else i.natAbs.log2 + 1) ≤ 41 := by
  by_cases h0 : i = 0
  · subst h0
    decide
  · have hne : i.natAbs ≠ 0 := by omega
    have : i.natAbs.log2 < 40 := (Nat.log2_lt hne).mpr (Nat.lt_trans h (by decide))
    split <;> omega
/-- good data as PyData -/
structure Py (p : PyData) (d : D) : Prop where
  eq : D.py d = some p
  lay : p.canLay0 = true
  short : p.intsShort 13 = true
  depth : p.depth = d.dep
  wt : p.weight ≤ d.wt
structure Pys (ps : List PyData) (ds : List D) : Prop where
  eq : D.pys ds = some ps
  lay : PyData.canLayAll0 ps = true
  short : PyData.intsShortAll 13 ps = true
  depth : PyData.depthAll ps = D.deps ds
  wt : PyData.weightAll ps ≤ D.wts ds
mutual
theorem D.good : ∀ (d : D), d.ok = true → ∃ p, Py p d
  | .non, _ => ⟨.none, by simp only [D.py], rfl, rfl, rfl, Nat.le_refl _⟩
  | .bl b, _ => ⟨.bool b, by simp only [D.py], rfl, rfl, rfl, Nat.le_refl _⟩
  | .int i, h => by
    have h' : i.natAbs < 1000000000000 := by simpa only [D.ok, decide_eq_true_eq] using h
    refine ⟨.int i, by simp only [D.py], rfl, ?_, rfl, ?_⟩
    · simp only [PyData.intsShort, PyData.shown]
      refine decide_eq_true ?_
      rw [PySem.ofString_length]
      exact int_text_length_le10 (k := 12) (by decide) (Nat.lt_of_lt_of_le h' (by decide))
    · simp only [PyData.weight, D.wt]
      exact log_41 h'
  | .str x, h => ⟨.str x, by simp only [D.py], by simpa only [PyData.canLay0, D.ok] using h, rfl, rfl, by simp only [PyData.weight, D.wt]; exact Nat.le_refl _⟩
  | .tup ds, h => by
    obtain ⟨ps, h1⟩ := D.goods ds (by simpa only [D.ok] using h)
    refine ⟨.tuple ps, by simp only [D.py, h1.eq, Option.map_some], by simpa only [PyData.canLay0] using h1.lay, by simpa only [PyData.intsShort] using h1.short, by simp only [PyData.depth, D.dep, h1.depth], by simp only [PyData.weight, D.wt]; exact h1.wt⟩
  | .lst ds, h => by
    obtain ⟨ps, h1⟩ := D.goods ds (by simpa only [D.ok] using h)
    refine ⟨.list ps, by simp only [D.py, h1.eq, Option.map_some], by simpa only [PyData.canLay0] using h1.lay, by simpa only [PyData.intsShort] using h1.short, by simp only [PyData.depth, D.dep, h1.depth], by simp only [PyData.weight, D.wt]; exact h1.wt⟩
  | .fn _, h => by simp [D.ok] at h
  | .kl _, h => by simp [D.ok] at h
  | .raw _, h => by simp [D.ok] at h
theorem D.goods : ∀ (ds : List D), D.oks ds = true → ∃ ps, Pys ps ds
  | [], _ => ⟨[], by simp only [D.pys], rfl, rfl, rfl, Nat.le_refl _⟩
  | d :: ds, h => by
    simp only [D.oks, Bool.and_eq_true] at h
    obtain ⟨p, h1⟩ := D.good d h.1
    obtain ⟨ps, h2⟩ := D.goods ds h.2
    refine ⟨p :: ps, by simp only [D.pys, h1.eq, h2.eq], by simp only [PyData.canLayAll0, h1.lay, h2.lay, Bool.and_self], by simp only [PyData.intsShortAll, h1.short, h2.short, Bool.and_self], by simp only [PyData.depthAll, D.deps, h1.depth, h2.depth], ?_⟩
    simp only [PyData.weightAll, D.wts]
    have := h1.wt
    have := h2.wt
    omega
end
theorem Py.shaped {p : PyData} {d : D} (h : Py p d) (hd : d.dep ≤ 64) : SeqAt.shaped p = true := by
  unfold SeqAt.shaped
  rw [h.lay, Bool.true_and, decide_eq_true_eq, h.depth]
  exact hd
theorem Py.size {p : PyData} {d : D} (h : Py p d) (hd : d.dep ≤ 64) (hw : d.wt ≤ 1048576) : p.shown.length ≤ 15728653 := by
  have e : (2 : Nat) ^ 20 = 1048576 := by decide
  refine shown_le13 ?_ h.short
  show (PyData.canLay0 p && decide (PyData.depth p ≤ 64) && decide (PyData.weight p ≤ 2 ^ 20)) = true
  rw [h.lay, h.depth, Bool.true_and, Bool.and_eq_true, decide_eq_true_eq, decide_eq_true_eq, e]
  exact ⟨hd, Nat.le_trans h.wt hw⟩
mutual
theorem showable_of : ∀ (d : D) (p : PyData), d.ok = true → D.py d = some p → p.showable = true
  | .non, p, _, h => by simp only [D.py] at h; cases h; rfl
  | .bl b, p, _, h => by simp only [D.py] at h; cases h; rfl
  | .int i, p, ho, h => by
    simp only [D.py] at h
    cases h
    have h' : i.natAbs < 1000000000000 := by simpa only [D.ok, decide_eq_true_eq] using ho
    simp only [PyData.showable, decide_eq_true_eq]
    by_cases h0 : i.natAbs = 0
    · rw [h0]; decide
    · exact (Nat.log2_lt h0).mpr (Nat.lt_trans h' (Nat.lt_of_lt_of_le (by decide : 1000000000000 < 2 ^ 40) (Nat.pow_le_pow_right (by decide : 0 < 2) (by decide : 40 ≤ 1920))))
  | .str x, p, _, h => by simp only [D.py] at h; cases h; rfl
  | .tup ds, p, ho, h => by
    simp only [D.py] at h
    cases hp : D.pys ds with
    | none => rw [hp] at h; cases h
    | some ps =>
      rw [hp] at h
      cases h
      simp only [PyData.showable]
      exact showables_of ds ps (by simpa only [D.ok] using ho) hp
  | .lst ds, p, ho, h => by
    simp only [D.py] at h
    cases hp : D.pys ds with
    | none => rw [hp] at h; cases h
    | some ps =>
      rw [hp] at h
      cases h
      simp only [PyData.showable]
      exact showables_of ds ps (by simpa only [D.ok] using ho) hp
  | .fn _, _, h, _ => by simp [D.ok] at h
  | .kl _, _, h, _ => by simp [D.ok] at h
  | .raw _, _, h, _ => by simp [D.ok] at h
theorem showables_of : ∀ (ds : List D) (ps : List PyData), D.oks ds = true → D.pys ds = some ps → PyData.showableAll ps = true
  | [], ps, _, h => by simp only [D.pys] at h; cases h; rfl
  | d :: ds, ps, ho, h => by
    simp only [D.oks, Bool.and_eq_true] at ho
    simp only [D.pys] at h
    cases h1 : D.py d with
    | none => rw [h1] at h; cases h
    | some q =>
      cases h2 : D.pys ds with
      | none => rw [h1, h2] at h; cases h
      | some qs =>
        rw [h1, h2] at h
        cases h
        simp only [PyData.showableAll, showable_of d q ho.1 h1, showables_of ds qs ho.2 h2, Bool.and_self]
end
/-- what may be shown and compared -/
structure Gd (d : D) : Prop where
  ok : d.ok = true
  dep : d.dep ≤ 64
  wt : d.wt ≤ 1048576
/-- the text that repr gives -/
def shD (d : D) : PySem.Str := match D.py d with
  | some p => p.shown
  | none => ""
theorem Gd.repr {d : D} (h : Gd d) : g1 reprD [d] = some (.v (.str (shD d))) := by
  obtain ⟨p, hp⟩ := D.good d h.ok
  show reprD d = _
  unfold reprD shD
  rw [hp.eq]
  dsimp only
  rw [showable_of d p h.ok hp.eq, if_pos]
  rw [Bool.true_and, Bool.and_eq_true, decide_eq_true_eq, decide_eq_true_eq, hp.depth]
  refine ⟨h.dep, Nat.le_trans (hp.size h.dep h.wt) ?_⟩
  unfold lim
  omega
theorem eqP_self {d : D} (h : d.ok = true) (hd : d.dep ≤ 64) : gPy eqE d d = some (.v (.bl true)) := by
  obtain ⟨p, hp⟩ := D.good d h
  unfold gPy
  rw [hp.eq]
  dsimp only
  rw [hp.shaped hd, if_pos (by rfl)]
  unfold eqE
  rw [SeqAt.eqv_refl p hp.lay]
theorem neP_self {d : D} (h : d.ok = true) (hd : d.dep ≤ 64) : gPy neE d d = some (.v (.bl false)) := by
  obtain ⟨p, hp⟩ := D.good d h
  unfold gPy
  rw [hp.eq]
  dsimp only
  rw [hp.shaped hd, if_pos (by rfl)]
  unfold neE
  rw [SeqAt.eqv_refl p hp.lay]
  rfl
theorem gEq_self {d : D} (h : d.ok = true) (hd : d.dep ≤ 64) : gEq d d = some (.v (.bl true)) := by
  unfold gEq
  split
  · rename_i x y e
    cases e
    rw [decide_eq_true rfl]
  · exact eqP_self h hd
theorem gNe_self {d : D} (h : d.ok = true) (hd : d.dep ≤ 64) : gNe d d = some (.v (.bl false)) := by
  unfold gNe
  split
  · rename_i x y e
    cases e
    rw [decide_eq_true rfl]
    rfl
  · exact neP_self h hd
/-- == of good data answers -/
theorem gEq_any {d e : D} (h : d.ok = true) (hd : d.dep ≤ 64) (h2 : e.ok = true) (hd2 : e.dep ≤ 64) : ∃ b, gEq d e = some (.v (.bl b)) := by
  unfold gEq
  split
  · exact ⟨_, rfl⟩
  · obtain ⟨p, hp⟩ := D.good d h
    obtain ⟨q, hq⟩ := D.good e h2
    unfold gPy
    rw [hp.eq, hq.eq]
    dsimp only
    rw [hp.shaped hd, hq.shaped hd2, if_pos (by rfl)]
    exact ⟨_, rfl⟩
@[simp] theorem gEq_str {x y : PySem.Str} : gEq (.str x) (.str y) = some (.v (.bl (decide (x = y)))) := rfl
@[simp] theorem gNe_str {x y : PySem.Str} : gNe (.str x) (.str y) = some (.v (.bl (!decide (x = y)))) := rfl
theorem oks_iff {ds : List D} : D.oks ds = true ↔ ∀ d ∈ ds, d.ok = true := by
  induction ds with
  | nil => simp [D.oks]
  | cons d ds ih => simp [D.oks, ih]
theorem deps_le {ds : List D} {n : Nat} : D.deps ds ≤ n ↔ ∀ d ∈ ds, d.dep ≤ n := by
  induction ds with
  | nil => simp [D.deps]
  | cons d ds ih => simp [D.deps, ih, Nat.max_le]
theorem wts_le {ds : List D} {n : Nat} (h : ∀ d ∈ ds, d.wt ≤ n) : D.wts ds ≤ ds.length * (n + 1) := by
  induction ds with
  | nil => simp [D.wts]
  | cons d ds ih =>
    have h1 := h d List.mem_cons_self
    have h2 := ih fun d' hd => h d' (List.mem_cons_of_mem _ hd)
    simp only [D.wts, List.length_cons]
    rw [Nat.add_mul, Nat.one_mul]
    omega
end M

namespace M
open PySem PySem.Spec PyProof.Rows L2

theorem wts_mem {ds : List D} {d : D} (h : d ∈ ds) : d.wt + 1 ≤ D.wts ds := by
  induction ds with
  | nil => cases h
  | cons e r ih =>
    simp only [D.wts]
    rcases List.mem_cons.mp h with rfl | h
    · omega
    · have := ih h
      omega
theorem wts_len : ∀ ds : List D, ds.length ≤ D.wts ds
  | [] => Nat.le_refl _
  | d :: ds => by
    have := wts_len ds
    simp only [D.wts, List.length_cons]
    omega
theorem Gd.mem {ds : List D} {d : D} (h : Gd (.tup ds)) (hd : d ∈ ds) : Gd d := by
  have h1 : D.oks ds = true := by simpa only [D.ok] using h.ok
  have h2 : D.deps ds + 1 ≤ 64 := by simpa only [D.dep] using h.dep
  have h3 : D.wts ds ≤ 1048576 := by simpa only [D.wt] using h.wt
  exact ⟨oks_iff.mp h1 d hd, (deps_le (n := 64)).mp (by omega) d hd, by have := wts_mem hd; omega⟩
theorem Gd.len {ds : List D} (h : Gd (.tup ds)) : ds.length ≤ lim := by
  have h3 : D.wts ds ≤ 1048576 := by simpa only [D.wt] using h.wt
  have := wts_len ds
  unfold lim
  omega
/-! isinstance -/
def isIntD : D → Bool
  | .int _ => true
  | .bl _ => true
  | _ => false
def isTupD : D → Bool
  | .tup _ => true
  | _ => false
theorem isi_int {d : D} (h : d.ok = true) : isiD "int" d = some (.v (.bl (isIntD d))) := by
  cases d <;> first | rfl | (simp [D.ok] at h; done)
theorem isi_tup {d : D} (h : d.ok = true) : isiD "tuple" d = some (.v (.bl (isTupD d))) := by
  cases d <;> first | rfl | (simp [D.ok] at h; done)
/-- all([e for x in it]) -/
theorem all_lc {ρ : MEnv} {S : Sto} {it : IM} {te : VM} {i : Nat} {ds : List D} {p : D → Bool} (hi : it ρ S = .ok (.fix ds) S) (hl : ds.length ≤ lim)
    (ht : ∀ d ∈ ds, te ((wipeM ρ [i]).set i (some (.v d))) S = .ok (.v (.bl (p d))) S) : mB (g1 allD) (mCons (mFz (mLC it (pN i) mYes te [i])) mNil) ρ S = .ok (.v (.bl (ds.all p))) S := by
  have h := lcL_map (ρ := wipeM ρ [i]) (g := pN i) (te := te) (S := S) (F := fun d => .bl (p d)) ds [] (by simpa using hl) fun d hd => ⟨_, rfl, ht d hd⟩
  have e : blsOf (ds.map fun d => D.bl (p d)) = some (ds.map p) := by
    rw [← blsOf_map (ds.map p), List.map_map]
    rfl
  have e2 : g1 allD [.lst (ds.map fun d => D.bl (p d))] = some (.v (.bl (ds.all p))) := by
    show (blsOf (ds.map fun d => D.bl (p d))).map _ = _
    rw [e]
    simp only [Option.map_some, List.all_map]
    rfl
  simp [hi, h, e2]
/-- [e for x in it] that reads only -/
theorem lc_val {ρ : MEnv} {S : Sto} {it : IM} {te : VM} {i : Nat} {ds : List D} {F : D → D} (hi : it ρ S = .ok (.fix ds) S) (hl : ds.length ≤ lim)
    (ht : ∀ d ∈ ds, te ((wipeM ρ [i]).set i (some (.v d))) S = .ok (.v (F d)) S) : mLC it (pN i) mYes te [i] ρ S = .ok (.n (ds.map F)) S := by
  have h := lcL_map (ρ := wipeM ρ [i]) (g := pN i) (te := te) (S := S) (F := F) ds [] (by simpa using hl) fun d hd => ⟨_, rfl, ht d hd⟩
  simp [hi, h]
theorem it_tup {ρ : MEnv} {S : Sto} {j : Nat} {ds : List D} (h : ρ[j]? = some (some (.v (.tup ds)))) : mIt (mV j) ρ S = .ok (.fix ds) S := by simp [h]
theorem it_lst {ρ : MEnv} {S : Sto} {j : Nat} {ds : List D} (h : ρ[j]? = some (some (.v (.lst ds)))) : mIt (mV j) ρ S = .ok (.fix ds) S := by simp [h]
theorem it_str {ρ : MEnv} {S : Sto} {j : Nat} {z : PySem.Str} (h : ρ[j]? = some (some (.v (.str z)))) : mIt (mV j) ρ S = .ok (.fix (chars z)) S := by simp [h]
theorem wipe1 {ρ : MEnv} {i : Nat} : wipeM ρ [i] = ρ.set i none := rfl
@[simp] theorem take_self {S : Sto} : S.take S.length = S := List.take_of_length_le (Nat.le_refl _)
end M
namespace M
open PySem PySem.Spec PyProof.Rows L2
theorem wts_append : ∀ (a b : List D), D.wts (a ++ b) = D.wts a + D.wts b
  | [], b => by simp [D.wts]
  | d :: a, b => by
    simp only [List.cons_append, D.wts, wts_append a b]
    omega
theorem wts_sub {a b : List D} (h : a.Sublist b) : D.wts a ≤ D.wts b := by
  induction h with
  | slnil => exact Nat.le_refl _
  | cons d h ih => simp only [D.wts]; omega
  | cons_cons d h ih => simp only [D.wts]; omega
theorem gEq_tup_nil {ds : List D} (h : Gd (.tup ds)) : gEq (.tup ds) (.tup []) = some (.v (.bl ds.isEmpty)) := by
  obtain ⟨p, hp⟩ := D.good _ h.ok
  show gPy eqE (.tup ds) (.tup []) = _
  have e2 : D.py (.tup []) = some (.tuple []) := by simp only [D.py, D.pys, Option.map_some]
  unfold gPy
  rw [hp.eq, e2]
  dsimp only
  rw [hp.shaped h.dep, if_pos (by rfl)]
  have := hp.eq
  simp only [D.py] at this
  cases hq : D.pys ds with
  | none => rw [hq] at this; cases this
  | some ps =>
    rw [hq] at this
    cases this
    cases ds with
    | nil =>
      simp only [D.pys] at hq
      cases hq
      simp [eqE, PyData.eqv, PyData.eqvAll]
    | cons d r =>
      simp only [D.pys] at hq
      split at hq
      · cases hq
        simp [eqE, PyData.eqv, PyData.eqvAll]
      · cases hq
theorem cut_to {α : Type} {xs : List α} {j : Nat} (h : j ≤ xs.length) : cutD xs none (some (j : Int)) = xs.take j := by
  unfold cutD
  rw [HT.sIx_none, HT.sIx_nat, Nat.min_eq_left h]
  simp
theorem cut_from {α : Type} {xs : List α} {j : Nat} (h : j ≤ xs.length) : cutD xs (some (j : Int)) none = xs.drop j := by
  unfold cutD
  rw [HT.sIx_none, HT.sIx_nat, Nat.min_eq_left h, ← List.length_drop, List.take_length]
theorem cut_one {α : Type} {xs : List α} {j : Nat} (h : j < xs.length) : cutD xs (some (j : Int)) (some ((j : Int) + 1)) = [xs[j]] := by
  unfold cutD
  have e : ((j : Int) + 1) = ((j + 1 : Nat) : Int) := by omega
  rw [e, HT.sIx_nat, HT.sIx_nat, Nat.min_eq_left (by omega), Nat.min_eq_left (by omega), Nat.add_sub_cancel_left, List.drop_eq_getElem_cons h]
  rfl
theorem gd_of {d : D} (h1 : d.ok = true) (h2 : d.dep ≤ 64) (h3 : d.wt ≤ 1048576) : Gd d := ⟨h1, h2, h3⟩
end M
namespace M
open PySem PySem.Spec PyProof.Rows L2
/-- the turn goes on with I, or leaves the def with Q -/
def wpQ (r : RS) (I : MEnv → Sto → Prop) (Q : Val → Sto → Prop) : Prop := match r with
  | .nx ρ S => I ρ S
  | .ct ρ S => I ρ S
  | .bk ρ S => I ρ S
  | .rt x S => Q x S
  | _ => False
@[simp] theorem wpQ_nx {ρ : MEnv} {S : Sto} {I : MEnv → Sto → Prop} {Q : Val → Sto → Prop} : wpQ (.nx ρ S) I Q ↔ I ρ S := Iff.rfl
@[simp] theorem wpQ_ct {ρ : MEnv} {S : Sto} {I : MEnv → Sto → Prop} {Q : Val → Sto → Prop} : wpQ (.ct ρ S) I Q ↔ I ρ S := Iff.rfl
@[simp] theorem wpQ_bk {ρ : MEnv} {S : Sto} {I : MEnv → Sto → Prop} {Q : Val → Sto → Prop} : wpQ (.bk ρ S) I Q ↔ I ρ S := Iff.rfl
@[simp] theorem wpQ_rt {x : Val} {S : Sto} {I : MEnv → Sto → Prop} {Q : Val → Sto → Prop} : wpQ (.rt x S) I Q ↔ Q x S := Iff.rfl
theorem forL_or {g : GM} {body : SM} (I : Nat → MEnv → Sto → Prop) (Q : Val → Sto → Prop) : ∀ (ds : List D) (i : Nat) (ρ : MEnv) (S : Sto), I i ρ S →
    (∀ d ∈ ds, ∀ j ρ S, i ≤ j → j < i + ds.length → I j ρ S → wpQ (turn g body d ρ S) (I (j + 1)) Q) →
    (∃ j ρ' S', forL g body ds ρ S = .nx ρ' S' ∧ I j ρ' S' ∧ i ≤ j ∧ j ≤ i + ds.length) ∨ ∃ x S', forL g body ds ρ S = .rt x S' ∧ Q x S'
  | [], i, ρ, S, h, _ => .inl ⟨i, ρ, S, rfl, h, Nat.le_refl _, by simp⟩
  | d :: ds, i, ρ, S, h, hs => by
    have h1 := hs d List.mem_cons_self i ρ S (Nat.le_refl _) (by simp) h
    have go : forL g body (d :: ds) ρ S = onward (turn g body d ρ S) (forL g body ds) := by
      show step g body d ρ S (forL g body ds) = _
      unfold step turn
      cases hg : g d ρ S with
      | ok ρ1 S1 => rfl
      | er e S1 => rfl
      | bad => rfl
    have ih : ∀ ρ2 S2, I (i + 1) ρ2 S2 → (∃ j ρ' S', forL g body ds ρ2 S2 = .nx ρ' S' ∧ I j ρ' S' ∧ i ≤ j ∧ j ≤ i + (d :: ds).length) ∨ ∃ x S', forL g body ds ρ2 S2 = .rt x S' ∧ Q x S' := fun ρ2 S2 h2 => by
      rcases forL_or I Q ds (i + 1) ρ2 S2 h2 fun d' hd j ρ S h1 h3 h4 => hs d' (List.mem_cons_of_mem _ hd) j ρ S (by omega) (by simp; omega) h4 with ⟨j, ρ', S', e3, h3, h4, h5⟩ | h3
      · exact .inl ⟨j, ρ', S', e3, h3, by omega, by simp; omega⟩
      · exact .inr h3
    rw [go]
    cases ht : turn g body d ρ S with
    | nx ρ2 S2 => rw [ht] at h1; exact ih _ _ h1
    | ct ρ2 S2 => rw [ht] at h1; exact ih _ _ h1
    | bk ρ2 S2 =>
      rw [ht] at h1
      exact .inl ⟨i + 1, ρ2, S2, rfl, h1, by omega, by simp⟩
    | rt x S2 => rw [ht] at h1; exact .inr ⟨x, S2, rfl, h1⟩
    | er e ρ2 S2 => rw [ht] at h1; exact h1.elim
    | bad => rw [ht] at h1; exact h1.elim
/-! texts -/
theorem chars_len {z : PySem.Str} : (chars z).length = z.length := by
  unfold chars
  rw [List.length_map, Array.length_toList]
  rfl
/-- a test of a text's signs -/
def onC (p : Nat → Bool) : D → Bool
  | .str x => (match x.cps.toList with
    | [c] => p c
    | _ => false)
  | _ => false
theorem chars_all {z : PySem.Str} {p : Nat → Bool} : (chars z).all (onC p) = z.cps.toList.all p := by
  unfold chars
  rw [List.all_map]
  rfl
theorem chars_mem {z : PySem.Str} {d : D} (h : d ∈ chars z) : ∃ c, c ∈ z.cps.toList ∧ d = .str ⟨#[c]⟩ := by
  unfold chars at h
  obtain ⟨c, hc, rfl⟩ := List.mem_map.mp h
  exact ⟨c, hc, rfl⟩
theorem gIn_c {c : Nat} {z : PySem.Str} : gIn false (.str ⟨#[c]⟩) (.str z) = some (.v (.bl (decide (c ∈ z.cps.toList)))) := rfl
@[simp] theorem gLe_str {x y : PySem.Str} : gLe (.str x) (.str y) = some (.v (.bl (!ltS y x))) := rfl
@[simp] theorem gLt_str {x y : PySem.Str} : gLt (.str x) (.str y) = some (.v (.bl (ltS x y))) := rfl
theorem len_str {z : PySem.Str} (h : z.length ≤ lim) : g1 lenD [.str z] = some (.v (.int z.length)) := if_pos h
theorem strOk_iff {z : PySem.Str} : PyData.strOk z = true ↔ ∀ c ∈ z.cps.toList, c < 0x110000 := by
  unfold PyData.strOk
  rw [Array.all_eq_true']
  simp
end M

namespace G21
open PySem PySem.Spec PyProof.Rows L2 M
def topS (i : Nat) : Stmt := PySem.Challenge.pw_homeandaway_k21_lines_and_forms.main.body.getD i (.Pass ⟨0, 0, 0, 0⟩)
abbrev s_is_integer : Stmt := topS 10
abbrev N_is_integer : List PySem.Str := ["term"]
theorem sc_is_integer : FnScope ["term"] ["term"] (defScope s_is_integer) := ⟨rfl, rfl, rfl, by decide +kernel, rfl, by decide +kernel, by decide +kernel⟩
abbrev s_is_row : Stmt := topS 11
abbrev N_is_row : List PySem.Str := ["term", "entry"]
theorem sc_is_row : FnScope ["term", "entry"] ["term"] (defScope s_is_row) := ⟨rfl, rfl, rfl, by decide +kernel, rfl, by decide +kernel, by decide +kernel⟩
abbrev s_are_pairs : Stmt := topS 12
abbrev N_are_pairs : List PySem.Str := ["term", "entry"]
theorem sc_are_pairs : FnScope ["term", "entry"] ["term"] (defScope s_are_pairs) := ⟨rfl, rfl, rfl, by decide +kernel, rfl, by decide +kernel, by decide +kernel⟩
abbrev s_are_rounds : Stmt := topS 13
abbrev N_are_rounds : List PySem.Str := ["term", "entry"]
theorem sc_are_rounds : FnScope ["term", "entry"] ["term"] (defScope s_are_rounds) := ⟨rfl, rfl, rfl, by decide +kernel, rfl, by decide +kernel, by decide +kernel⟩
abbrev s_are_pots : Stmt := topS 14
abbrev N_are_pots : List PySem.Str := ["term"]
theorem sc_are_pots : FnScope ["term"] ["term"] (defScope s_are_pots) := ⟨rfl, rfl, rfl, by decide +kernel, rfl, by decide +kernel, by decide +kernel⟩
abbrev s_has_form : Stmt := topS 16
abbrev N_has_form : List PySem.Str := ["thing", "term"]
theorem sc_has_form : FnScope ["thing", "term"] ["thing", "term"] (defScope s_has_form) := ⟨rfl, rfl, rfl, by decide +kernel, rfl, by decide +kernel, by decide +kernel⟩
abbrev s_words_of : Stmt := topS 20
abbrev N_words_of : List PySem.Str := ["line", "words", "word", "char"]
theorem sc_words_of : FnScope ["line", "words", "word", "char"] ["line"] (defScope s_words_of) := ⟨rfl, rfl, rfl, by decide +kernel, rfl, by decide +kernel, by decide +kernel⟩
abbrev s_is_name : Stmt := topS 21
abbrev N_is_name : List PySem.Str := ["word", "char"]
theorem sc_is_name : FnScope ["word", "char"] ["word"] (defScope s_is_name) := ⟨rfl, rfl, rfl, by decide +kernel, rfl, by decide +kernel, by decide +kernel⟩
abbrev s_number_in : Stmt := topS 22
abbrev N_number_in : List PySem.Str := ["word", "char"]
theorem sc_number_in : FnScope ["word", "char"] ["word"] (defScope s_number_in) := ⟨rfl, rfl, rfl, by decide +kernel, rfl, by decide +kernel, by decide +kernel⟩
abbrev s__law_number : Stmt := topS 24
abbrev N__law_number : List PySem.Str := ["cell"]
theorem sc__law_number : FnScope ["cell"] ["cell"] (defScope s__law_number) := ⟨rfl, rfl, rfl, by decide +kernel, rfl, by decide +kernel, by decide +kernel⟩
abbrev s__law_draws : Stmt := topS 25
abbrev N__law_draws : List PySem.Str := ["script", "draws", "cell", "rest", "k", "once", "twice"]
theorem sc__law_draws : FnScope ["script", "draws", "cell", "rest", "k", "once", "twice"] ["script"] (defScope s__law_draws) := ⟨rfl, rfl, rfl, by decide +kernel, rfl, by decide +kernel, by decide +kernel⟩
abbrev s__law_next : Stmt := topS 26
abbrev N__law_next : List PySem.Str := ["draws"]
theorem sc__law_next : FnScope ["draws"] ["draws"] (defScope s__law_next) := ⟨rfl, rfl, rfl, by decide +kernel, rfl, by decide +kernel, by decide +kernel⟩
abbrev s__law_more : Stmt := topS 27
abbrev N__law_more : List PySem.Str := ["draws", "many", "seed", "more", "k"]
theorem sc__law_more : FnScope ["draws", "many", "seed", "more", "k"] ["draws", "many"] (defScope s__law_more) := ⟨rfl, rfl, rfl, by decide +kernel, rfl, by decide +kernel, by decide +kernel⟩
abbrev s__law_pick : Stmt := topS 28
abbrev N__law_pick : List PySem.Str := ["draws", "some"]
theorem sc__law_pick : FnScope ["draws", "some"] ["draws", "some"] (defScope s__law_pick) := ⟨rfl, rfl, rfl, by decide +kernel, rfl, by decide +kernel, by decide +kernel⟩
abbrev s__law_kind : Stmt := topS 29
abbrev N__law_kind : List PySem.Str := ["error", "names", "found"]
theorem sc__law_kind : FnScope ["error", "names", "found"] ["error"] (defScope s__law_kind) := ⟨rfl, rfl, rfl, by decide +kernel, rfl, by decide +kernel, by decide +kernel⟩
abbrev s__law_line : Stmt := topS 30
abbrev N__law_line : List PySem.Str := ["line", "words", "word", "sign"]
theorem sc__law_line : FnScope ["line", "words", "word", "sign"] ["line"] (defScope s__law_line) := ⟨rfl, rfl, rfl, by decide +kernel, rfl, by decide +kernel, by decide +kernel⟩
abbrev s__law_number_of : Stmt := topS 31
abbrev N__law_number_of : List PySem.Str := ["word", "k"]
theorem sc__law_number_of : FnScope ["word", "k"] ["word"] (defScope s__law_number_of) := ⟨rfl, rfl, rfl, by decide +kernel, rfl, by decide +kernel, by decide +kernel⟩
abbrev s__law_is_row : Stmt := topS 32
abbrev N__law_is_row : List PySem.Str := ["term", "entry"]
theorem sc__law_is_row : FnScope ["term", "entry"] ["term"] (defScope s__law_is_row) := ⟨rfl, rfl, rfl, by decide +kernel, rfl, by decide +kernel, by decide +kernel⟩
abbrev s__law_due : Stmt := topS 33
abbrev N__law_due : List PySem.Str := ["thing", "term", "part", "entry"]
theorem sc__law_due : FnScope ["thing", "term", "part", "entry"] ["thing", "term"] (defScope s__law_due) := ⟨rfl, rfl, rfl, by decide +kernel, rfl, by decide +kernel, by decide +kernel⟩
abbrev s__law_spoilt : Stmt := topS 34
abbrev N__law_spoilt : List PySem.Str := ["draws", "term", "at", "kind"]
theorem sc__law_spoilt : FnScope ["draws", "term", "at", "kind"] ["draws", "term"] (defScope s__law_spoilt) := ⟨rfl, rfl, rfl, by decide +kernel, rfl, by decide +kernel, by decide +kernel⟩
abbrev s_law : Stmt := topS 35
abbrev N_law : List PySem.Str := ["script", "draws", "turn", "terms", "term", "wrong", "line", "word", "small", "error", "at", "thing", "sign"]
theorem sc_law : FnScope ["script", "draws", "turn", "terms", "term", "wrong", "line", "word", "small", "error", "at", "thing", "sign"] ["script"] (defScope s_law) := ⟨rfl, rfl, rfl, by decide +kernel, rfl, by decide +kernel, by decide +kernel⟩
abbrev tab_FORMS : List (PySem.Str × PySem.Str) := [("plan", "are_rounds"), ("chances", "are_rounds"), ("pairs", "are_pairs"), ("pots", "are_pots"), ("row", "is_row")]
/-- what the top has written -/
structure Fx (K : PySem.W.Frag) (w : World) (mg : PySem.Str → Option Value) where
  a_is_integer : Addr
  d_is_integer : FuncData
  F_is_integer : Fun K "is_integer" "is_integer" s_is_integer a_is_integer d_is_integer
  g_is_integer : mg "is_integer" = some (.ref a_is_integer)
  b_is_integer : Binds K d_is_integer ["term"] []
  a_is_row : Addr
  d_is_row : FuncData
  F_is_row : Fun K "is_row" "is_row" s_is_row a_is_row d_is_row
  g_is_row : mg "is_row" = some (.ref a_is_row)
  b_is_row : Binds K d_is_row ["term"] []
  a_are_pairs : Addr
  d_are_pairs : FuncData
  F_are_pairs : Fun K "are_pairs" "are_pairs" s_are_pairs a_are_pairs d_are_pairs
  g_are_pairs : mg "are_pairs" = some (.ref a_are_pairs)
  b_are_pairs : Binds K d_are_pairs ["term"] []
  a_are_rounds : Addr
  d_are_rounds : FuncData
  F_are_rounds : Fun K "are_rounds" "are_rounds" s_are_rounds a_are_rounds d_are_rounds
  g_are_rounds : mg "are_rounds" = some (.ref a_are_rounds)
  b_are_rounds : Binds K d_are_rounds ["term"] []
  a_are_pots : Addr
  d_are_pots : FuncData
  F_are_pots : Fun K "are_pots" "are_pots" s_are_pots a_are_pots d_are_pots
  g_are_pots : mg "are_pots" = some (.ref a_are_pots)
  b_are_pots : Binds K d_are_pots ["term"] []
  a_has_form : Addr
  d_has_form : FuncData
  F_has_form : Fun K "has_form" "has_form" s_has_form a_has_form d_has_form
  g_has_form : mg "has_form" = some (.ref a_has_form)
  b_has_form : Binds K d_has_form ["thing", "term"] []
  a_words_of : Addr
  d_words_of : FuncData
  F_words_of : Fun K "words_of" "words_of" s_words_of a_words_of d_words_of
  g_words_of : mg "words_of" = some (.ref a_words_of)
  b_words_of : Binds K d_words_of ["line"] []
  a_is_name : Addr
  d_is_name : FuncData
  F_is_name : Fun K "is_name" "is_name" s_is_name a_is_name d_is_name
  g_is_name : mg "is_name" = some (.ref a_is_name)
  b_is_name : Binds K d_is_name ["word"] []
  a_number_in : Addr
  d_number_in : FuncData
  F_number_in : Fun K "number_in" "number_in" s_number_in a_number_in d_number_in
  g_number_in : mg "number_in" = some (.ref a_number_in)
  b_number_in : Binds K d_number_in ["word"] []
  a__law_number : Addr
  d__law_number : FuncData
  F__law_number : Fun K "_law_number" "_law_number" s__law_number a__law_number d__law_number
  g__law_number : mg "_law_number" = some (.ref a__law_number)
  b__law_number : Binds K d__law_number ["cell"] []
  a__law_draws : Addr
  d__law_draws : FuncData
  F__law_draws : Fun K "_law_draws" "_law_draws" s__law_draws a__law_draws d__law_draws
  g__law_draws : mg "_law_draws" = some (.ref a__law_draws)
  b__law_draws : Binds K d__law_draws ["script"] []
  a__law_next : Addr
  d__law_next : FuncData
  F__law_next : Fun K "_law_next" "_law_next" s__law_next a__law_next d__law_next
  g__law_next : mg "_law_next" = some (.ref a__law_next)
  b__law_next : Binds K d__law_next ["draws"] []
  a__law_more : Addr
  d__law_more : FuncData
  F__law_more : Fun K "_law_more" "_law_more" s__law_more a__law_more d__law_more
  g__law_more : mg "_law_more" = some (.ref a__law_more)
  b__law_more : Binds K d__law_more ["draws", "many"] []
  a__law_pick : Addr
  d__law_pick : FuncData
  F__law_pick : Fun K "_law_pick" "_law_pick" s__law_pick a__law_pick d__law_pick
  g__law_pick : mg "_law_pick" = some (.ref a__law_pick)
  b__law_pick : Binds K d__law_pick ["draws", "some"] []
  a__law_kind : Addr
  d__law_kind : FuncData
  F__law_kind : Fun K "_law_kind" "_law_kind" s__law_kind a__law_kind d__law_kind
  g__law_kind : mg "_law_kind" = some (.ref a__law_kind)
  b__law_kind : Binds K d__law_kind ["error"] []
  a__law_line : Addr
  d__law_line : FuncData
  F__law_line : Fun K "_law_line" "_law_line" s__law_line a__law_line d__law_line
  g__law_line : mg "_law_line" = some (.ref a__law_line)
  b__law_line : Binds K d__law_line ["line"] []
  a__law_number_of : Addr
  d__law_number_of : FuncData
  F__law_number_of : Fun K "_law_number_of" "_law_number_of" s__law_number_of a__law_number_of d__law_number_of
  g__law_number_of : mg "_law_number_of" = some (.ref a__law_number_of)
  b__law_number_of : Binds K d__law_number_of ["word"] []
  a__law_is_row : Addr
  d__law_is_row : FuncData
  F__law_is_row : Fun K "_law_is_row" "_law_is_row" s__law_is_row a__law_is_row d__law_is_row
  g__law_is_row : mg "_law_is_row" = some (.ref a__law_is_row)
  b__law_is_row : Binds K d__law_is_row ["term"] []
  a__law_due : Addr
  d__law_due : FuncData
  F__law_due : Fun K "_law_due" "_law_due" s__law_due a__law_due d__law_due
  g__law_due : mg "_law_due" = some (.ref a__law_due)
  b__law_due : Binds K d__law_due ["thing", "term"] []
  a__law_spoilt : Addr
  d__law_spoilt : FuncData
  F__law_spoilt : Fun K "_law_spoilt" "_law_spoilt" s__law_spoilt a__law_spoilt d__law_spoilt
  g__law_spoilt : mg "_law_spoilt" = some (.ref a__law_spoilt)
  b__law_spoilt : Binds K d__law_spoilt ["draws", "term"] []
  a_law : Addr
  d_law : FuncData
  F_law : Fun K "law" "law" s_law a_law d_law
  g_law : mg "law" = some (.ref a_law)
  b_law : Binds K d_law ["script"] []
  z_all : mg "all" = none
  z_int : mg "int" = none
  z_isinstance : mg "isinstance" = none
  z_len : mg "len" = none
  z_range : mg "range" = none
  z_repr : mg "repr" = none
  z_str : mg "str" = none
  z_tuple : mg "tuple" = none
  uc_FIGURES : Value
  gc_FIGURES : mg "FIGURES" = some uc_FIGURES
  rc_FIGURES : RelV (.str "0123456789") uc_FIGURES
  uc_SMALL : Value
  gc_SMALL : mg "SMALL" = some uc_SMALL
  rc_SMALL : RelV (.str "abcdefghijklmnopqrstuvwxyz") uc_SMALL
  ad_FORMS : Addr
  gd_FORMS : mg "FORMS" = some (.ref ad_FORMS)
  dt_FORMS : DTab K w mg ad_FORMS tab_FORMS
  C_PlanError : Addr
  gC_PlanError : mg "PlanError" = some (.ref C_PlanError)
  C_NotPlan : Addr
  gC_NotPlan : mg "NotPlan" = some (.ref C_NotPlan)
  C_NotResults : Addr
  gC_NotResults : mg "NotResults" = some (.ref C_NotResults)
  C_NotPattern : Addr
  gC_NotPattern : mg "NotPattern" = some (.ref C_NotPattern)
  C_NotPaper : Addr
  gC_NotPaper : mg "NotPaper" = some (.ref C_NotPaper)
  C_BadNumber : Addr
  gC_BadNumber : mg "BadNumber" = some (.ref C_BadNumber)
  C_NoAnswer : Addr
  gC_NoAnswer : mg "NoAnswer" = some (.ref C_NoAnswer)
  C_TooLarge : Addr
  gC_TooLarge : mg "TooLarge" = some (.ref C_TooLarge)
  x_BadNumber : PySem.W.excIn K C_BadNumber [.type "ValueError", .type "Exception", .type "BaseException", .type "object"] "ValueError.__new__" = true
  kC_BadNumber : PySem.W.keepIn K (.ref C_BadNumber) = true
  bs_BadNumber : PySem.W.subIn K (.ref C_BadNumber) (.type "BaseException") = some true
  ty_BadNumber : PySem.W.typeIn K (.ref C_BadNumber) = some (.type "type")
  em_BadNumber : PySem.W.exmOne K (.ref C_BadNumber) (.ref C_PlanError) = some true
  ex_BadNumber : ExcC K C_BadNumber
  k_BadNumber_NotPlan : PySem.W.kitOne K (.ref C_BadNumber) (.ref C_NotPlan) = some false
  k_BadNumber_NotResults : PySem.W.kitOne K (.ref C_BadNumber) (.ref C_NotResults) = some false
  k_BadNumber_NotPattern : PySem.W.kitOne K (.ref C_BadNumber) (.ref C_NotPattern) = some false
  k_BadNumber_NotPaper : PySem.W.kitOne K (.ref C_BadNumber) (.ref C_NotPaper) = some false
  k_BadNumber_BadNumber : PySem.W.kitOne K (.ref C_BadNumber) (.ref C_BadNumber) = some true
  k_BadNumber_NoAnswer : PySem.W.kitOne K (.ref C_BadNumber) (.ref C_NoAnswer) = some false
  k_BadNumber_TooLarge : PySem.W.kitOne K (.ref C_BadNumber) (.ref C_TooLarge) = some false
section
variable {P : Program} {w : World} {K : PySem.W.Frag} {mg : PySem.Str → Option Value} {base : Heap}
def body_is_integer : SM :=
      (sRet (mUn (isiD "int") (mV 0)))
def f_is_integer : MFn := mkFn 1 1 body_is_integer
theorem ok_is_integer (Z : Fx K w mg) : FnG P w K mg base 1 Z.a_is_integer Z.d_is_integer ["term"] (spM ⟨K, mg⟩ f_is_integer) := by
  refine def_ok (k := 0) (N := ["term"]) (ps := ["term"]) (st := s_is_integer) body_is_integer Z.F_is_integer sc_is_integer fun cdv A outer s H E hr hgd => ?_
  unfold body_is_integer
  exact (ss_one (ss_ret (sv_isi (pe_callB call_isi rfl Z.z_isinstance bt_isinstance (pa_cons (sv_var (pv 0)) (pa_cons (pe_bltn rfl Z.z_int bt_int rfl) pa_nil))))))
def body_is_row : SM :=
      (sRet (mAndV (mUn (isiD "tuple") (mV 0)) (mB (g1 allD) (mCons (mFz (mLC (mIt (mV 0)) (pN 1) mYes (mCall f_is_integer (mCons (mV 1) mNil)) [1])) mNil))))
def f_is_row : MFn := mkFn 1 2 body_is_row
theorem ok_is_row (Z : Fx K w mg) : FnG P w K mg base 2 Z.a_is_row Z.d_is_row ["term"] (spM ⟨K, mg⟩ f_is_row) := by
  refine def_ok (k := 1) (N := ["term", "entry"]) (ps := ["term"]) (st := s_is_row) body_is_row Z.F_is_row sc_is_row fun cdv A outer s H E hr hgd => ?_
  unfold body_is_row
  exact (ss_one (ss_ret (sv_and (sv_isi (pe_callB call_isi rfl Z.z_isinstance bt_isinstance (pa_cons (sv_var (pv 0)) (pa_cons (pe_bltn rfl Z.z_tuple bt_tuple rfl) pa_nil)))) (sv_one (sv_b cg_all (pe_callB (cr_all rfl) rfl Z.z_all bt_all (sa_cons (sv_fz (sv_lc (own := [("entry", 1)]) rfl sc_is_row.nd (si_any (sv_var (pv 0))) (blkOk_by (N := N_is_row) (sc := (defScope s_is_row)) (by decide +kernel)) (fun _ _ _ _ _ => (sgw_name (by decide) (pg_name (i := 1) sc_is_row.nd rfl (by first | exact .inl rfl | exact .inr rfl)))) (fun _ _ _ _ _ => sts_nil) (fun _ _ _ _ _ => (sv_call (ok_is_integer Z) (hr.mono (by decide)) hgd rfl Z.g_is_integer Z.F_is_integer.kp Z.b_is_integer takes0 (sa_cons (sv_var (pv 1)) sa_nil))))) sa_nil)))))))
def body_are_pairs : SM :=
      (sRet (mAndV (mUn (isiD "tuple") (mV 0)) (mB (g1 allD) (mCons (mFz (mLC (mIt (mV 0)) (pN 1) mYes (mCall f_is_row (mCons (mV 1) mNil)) [1])) mNil))))
def f_are_pairs : MFn := mkFn 1 2 body_are_pairs
theorem ok_are_pairs (Z : Fx K w mg) : FnG P w K mg base 3 Z.a_are_pairs Z.d_are_pairs ["term"] (spM ⟨K, mg⟩ f_are_pairs) := by
  refine def_ok (k := 2) (N := ["term", "entry"]) (ps := ["term"]) (st := s_are_pairs) body_are_pairs Z.F_are_pairs sc_are_pairs fun cdv A outer s H E hr hgd => ?_
  unfold body_are_pairs
  exact (ss_one (ss_ret (sv_and (sv_isi (pe_callB call_isi rfl Z.z_isinstance bt_isinstance (pa_cons (sv_var (pv 0)) (pa_cons (pe_bltn rfl Z.z_tuple bt_tuple rfl) pa_nil)))) (sv_one (sv_b cg_all (pe_callB (cr_all rfl) rfl Z.z_all bt_all (sa_cons (sv_fz (sv_lc (own := [("entry", 1)]) rfl sc_are_pairs.nd (si_any (sv_var (pv 0))) (blkOk_by (N := N_are_pairs) (sc := (defScope s_are_pairs)) (by decide +kernel)) (fun _ _ _ _ _ => (sgw_name (by decide) (pg_name (i := 1) sc_are_pairs.nd rfl (by first | exact .inl rfl | exact .inr rfl)))) (fun _ _ _ _ _ => sts_nil) (fun _ _ _ _ _ => (sv_call (ok_is_row Z) (hr.mono (by decide)) hgd rfl Z.g_is_row Z.F_is_row.kp Z.b_is_row takes0 (sa_cons (sv_var (pv 1)) sa_nil))))) sa_nil)))))))
def body_are_rounds : SM :=
      (sRet (mAndV (mUn (isiD "tuple") (mV 0)) (mB (g1 allD) (mCons (mFz (mLC (mIt (mV 0)) (pN 1) mYes (mCall f_are_pairs (mCons (mV 1) mNil)) [1])) mNil))))
def f_are_rounds : MFn := mkFn 1 2 body_are_rounds
theorem ok_are_rounds (Z : Fx K w mg) : FnG P w K mg base 4 Z.a_are_rounds Z.d_are_rounds ["term"] (spM ⟨K, mg⟩ f_are_rounds) := by
  refine def_ok (k := 3) (N := ["term", "entry"]) (ps := ["term"]) (st := s_are_rounds) body_are_rounds Z.F_are_rounds sc_are_rounds fun cdv A outer s H E hr hgd => ?_
  unfold body_are_rounds
  exact (ss_one (ss_ret (sv_and (sv_isi (pe_callB call_isi rfl Z.z_isinstance bt_isinstance (pa_cons (sv_var (pv 0)) (pa_cons (pe_bltn rfl Z.z_tuple bt_tuple rfl) pa_nil)))) (sv_one (sv_b cg_all (pe_callB (cr_all rfl) rfl Z.z_all bt_all (sa_cons (sv_fz (sv_lc (own := [("entry", 1)]) rfl sc_are_rounds.nd (si_any (sv_var (pv 0))) (blkOk_by (N := N_are_rounds) (sc := (defScope s_are_rounds)) (by decide +kernel)) (fun _ _ _ _ _ => (sgw_name (by decide) (pg_name (i := 1) sc_are_rounds.nd rfl (by first | exact .inl rfl | exact .inr rfl)))) (fun _ _ _ _ _ => sts_nil) (fun _ _ _ _ _ => (sv_call (ok_are_pairs Z) (hr.mono (by decide)) hgd rfl Z.g_are_pairs Z.F_are_pairs.kp Z.b_are_pairs takes0 (sa_cons (sv_var (pv 1)) sa_nil))))) sa_nil)))))))
def body_are_pots : SM :=
      (sRet (mAndV (mUn (isiD "tuple") (mV 0)) (mAndV (mOp gEq (mB (g1 lenD) (mCons (mV 0) mNil)) (mC (.int 2))) (mAndV (mCall f_are_pairs (mCons (mOp gIx (mV 0) (mC (.int 0))) mNil)) (mCall f_are_pairs (mCons (mOp gIx (mV 0) (mC (.int 1))) mNil))))))
def f_are_pots : MFn := mkFn 1 1 body_are_pots
theorem ok_are_pots (Z : Fx K w mg) : FnG P w K mg base 4 Z.a_are_pots Z.d_are_pots ["term"] (spM ⟨K, mg⟩ f_are_pots) := by
  refine def_ok (k := 3) (N := ["term"]) (ps := ["term"]) (st := s_are_pots) body_are_pots Z.F_are_pots sc_are_pots fun cdv A outer s H E hr hgd => ?_
  unfold body_are_pots
  exact (ss_one (ss_ret (sv_and (sv_isi (pe_callB call_isi rfl Z.z_isinstance bt_isinstance (pa_cons (sv_var (pv 0)) (pa_cons (pe_bltn rfl Z.z_tuple bt_tuple rfl) pa_nil)))) (sv_and (sv_cmp (op_eqA (u64 hr)) og_eq (sv_b cg_len (pe_callB call_len rfl Z.z_len bt_len (sa_cons (sv_var (pv 0)) sa_nil))) (sv_int pe_int) (nomark _)) (sv_and (sv_call (ok_are_pairs Z) (hr.mono (by decide)) hgd rfl Z.g_are_pairs Z.F_are_pairs.kp Z.b_are_pairs (takes_of rfl rfl rfl rfl) (sa_cons (sv_ix (sv_var (pv 0)) (sv_int pe_int) (fun _ _ => rfl)) sa_nil)) (sv_one (sv_call (ok_are_pairs Z) (hr.mono (by decide)) hgd rfl Z.g_are_pairs Z.F_are_pairs.kp Z.b_are_pairs (takes_of rfl rfl rfl rfl) (sa_cons (sv_ix (sv_var (pv 0)) (sv_int pe_int) (fun _ _ => rfl)) sa_nil))))))))
def ftab_has_form : FTab := [("are_rounds", f_are_rounds), ("are_pairs", f_are_pairs), ("are_pots", f_are_pots), ("is_row", f_is_row)]
theorem fok_has_form {X : Cx} (Z : Fx X.K X.w X.mg) (hr : Room 4 X.A) : FTabOk X ftab_has_form := ⟨fun n g h => by
  have hm := lookup_mem h
  simp only [ftab_has_form, List.mem_cons, Prod.mk.injEq, List.not_mem_nil, or_false] at hm
  rcases hm with ⟨rfl, rfl⟩ | ⟨rfl, rfl⟩ | ⟨rfl, rfl⟩ | ⟨rfl, rfl⟩
  · exact ⟨Z.a_are_rounds, Z.d_are_rounds, _, _, Z.g_are_rounds, ok_are_rounds Z, hr.mono (by decide), Z.F_are_rounds.kp, Z.b_are_rounds⟩
  · exact ⟨Z.a_are_pairs, Z.d_are_pairs, _, _, Z.g_are_pairs, ok_are_pairs Z, hr.mono (by decide), Z.F_are_pairs.kp, Z.b_are_pairs⟩
  · exact ⟨Z.a_are_pots, Z.d_are_pots, _, _, Z.g_are_pots, ok_are_pots Z, hr.mono (by decide), Z.F_are_pots.kp, Z.b_are_pots⟩
  · exact ⟨Z.a_is_row, Z.d_is_row, _, _, Z.g_is_row, ok_is_row Z, hr.mono (by decide), Z.F_is_row.kp, Z.b_is_row⟩⟩
def body_has_form : SM :=
      (sSeq (sIf (mTB (mDIn true tab_FORMS (mV 0))) (sRaise "BadNumber") sSkip)
      (sRet (mCallV ftab_has_form (mDGet tab_FORMS (mV 0)) (mCons (mV 1) mNil))))
def f_has_form : MFn := mkFn 2 2 body_has_form
theorem ok_has_form (Z : Fx K w mg) : FnG P w K mg base 5 Z.a_has_form Z.d_has_form ["thing", "term"] (spM ⟨K, mg⟩ f_has_form) := by
  refine def_ok (k := 4) (N := ["thing", "term"]) (ps := ["thing", "term"]) (st := s_has_form) body_has_form Z.F_has_form sc_has_form fun cdv A outer s H E hr hgd => ?_
  unfold body_has_form
  exact (ss_cons (ss_if (st_dNotIn Z.dt_FORMS (sv_var (pv 0)) (pe_glob rfl Z.gd_FORMS rfl) rfl) (ss_one (ss_raise Z.gC_BadNumber (ps_raise rfl (takes_of rfl rfl rfl rfl) (pmk_own PySem.F.excBase_ValueError Z.x_BadNumber Z.gC_BadNumber Z.kC_BadNumber (raises_own Z.bs_BadNumber Z.ty_BadNumber) (by rfl))))) ss_nil)
      (ss_one (ss_ret (sv_callV (fok_has_form Z hr) hgd (takes_of rfl rfl rfl rfl) (sv_dGet Z.dt_FORMS (pe_glob rfl Z.gd_FORMS rfl) (sv_var (pv 0)) (fun _ _ => rfl)) (sa_cons (sv_var (pv 1)) sa_nil)))))
def body_words_of : SM :=
      (sSeq (sSet 1 (mFz (mStr gSplit (mV 0) (mCons (mC (.str " ")) mNil))))
      (sSeq (sFor (mIt (mV 1)) (gN 2) (sIf (mOr (mTB (mOp gEq (mV 2) (mC (.str "")))) (mNot (mTru (mB (g1 allD) (mCons (mFz (mLC (mIt (mV 2)) (pN 3) mYes (mChain gLe gLe (mC (.str "!")) (mV 3) (mC (.str "~"))) [3])) mNil))))) (sRet (mC .non)) sSkip))
      (sRet (mV 1))))
def f_words_of : MFn := mkFn 1 4 body_words_of
theorem ok_words_of (Z : Fx K w mg) : FnG P w K mg base 1 Z.a_words_of Z.d_words_of ["line"] (spM ⟨K, mg⟩ f_words_of) := by
  refine def_ok (k := 0) (N := ["line", "words", "word", "char"]) (ps := ["line"]) (st := s_words_of) body_words_of Z.F_words_of sc_words_of fun cdv A outer s H E hr hgd => ?_
  unfold body_words_of
  exact (ss_cons (ss_s (ps_set (i := 1) sc_words_of.nd rfl (by first | exact .inl rfl | exact .inr rfl) (sv_fz (sv_str1 sg_split (pe_bm PySem.F.plainAttrs_str PySem.F.slot_str_split PySem.F.type_str_split mt_split (sv_var (pv 0)) (sa_cons (sv_str pe_str) sa_nil))))))
      (ss_cons (ss_for (passes_of rfl) rfl (si_any (sv_var (pv 1))) (sg_name (pg_name (i := 2) sc_words_of.nd rfl (by first | exact .inl rfl | exact .inr rfl))) (ss_one (ss_if (st_w (sw_or (st_cmp (op_eqA (u64 hr)) og_eq (sv_var (pv 2)) (sv_str pe_str) (nomark _)) (sw_or1 (st_not (st_tru (sv_b cg_all (pe_callB (cr_all rfl) rfl Z.z_all bt_all (sa_cons (sv_fz (sv_lc (own := [("char", 3)]) rfl sc_words_of.nd (si_any (sv_var (pv 2))) (blkOk_by (N := N_words_of) (sc := (defScope s_words_of)) (by decide +kernel)) (fun _ _ _ _ _ => (sgw_name (by decide) (pg_name (i := 3) sc_words_of.nd rfl (by first | exact .inl rfl | exact .inr rfl)))) (fun _ _ _ _ _ => sts_nil) (fun _ _ _ _ _ => (sv_chain op_leA og_le op_leA og_le (sv_str pe_str) (sv_var (pv 3)) (sv_str pe_str))))) sa_nil)))))))) (ss_one (ss_ret (sv_non pe_non))) ss_nil)))
      (ss_one (ss_ret (sv_var (pv 1))))))
def body_is_name : SM :=
      (sRet (mAndV (mChain gLe gLe (mC (.int 1)) (mB (g1 lenD) (mCons (mV 0) mNil)) (mC (.int 12))) (mB (g1 allD) (mCons (mFz (mLC (mIt (mV 0)) (pN 1) mYes (mOp (gIn false) (mV 1) (mC (.str "abcdefghijklmnopqrstuvwxyz"))) [1])) mNil))))
def f_is_name : MFn := mkFn 1 2 body_is_name
theorem ok_is_name (Z : Fx K w mg) : FnG P w K mg base 1 Z.a_is_name Z.d_is_name ["word"] (spM ⟨K, mg⟩ f_is_name) := by
  refine def_ok (k := 0) (N := ["word", "char"]) (ps := ["word"]) (st := s_is_name) body_is_name Z.F_is_name sc_is_name fun cdv A outer s H E hr hgd => ?_
  unfold body_is_name
  exact (ss_one (ss_ret (sv_and (sv_chain op_leA og_le op_leA og_le (sv_int pe_int) (sv_b cg_len (pe_callB call_len rfl Z.z_len bt_len (sa_cons (sv_var (pv 0)) sa_nil))) (sv_int pe_int)) (sv_one (sv_b cg_all (pe_callB (cr_all rfl) rfl Z.z_all bt_all (sa_cons (sv_fz (sv_lc (own := [("char", 1)]) rfl sc_is_name.nd (si_any (sv_var (pv 0))) (blkOk_by (N := N_is_name) (sc := (defScope s_is_name)) (by decide +kernel)) (fun _ _ _ _ _ => (sgw_name (by decide) (pg_name (i := 1) sc_is_name.nd rfl (by first | exact .inl rfl | exact .inr rfl)))) (fun _ _ _ _ _ => sts_nil) (fun _ _ _ _ _ => (sv_cmp (op_inA (u65 hr)) og_in (sv_var (pv 1)) (sv_str (pe_glob rfl Z.gc_SMALL Z.rc_SMALL)) rfl)))) sa_nil)))))))
def body_number_in : SM :=
      (sSeq (sIf (mOr (mNot (mTB (mChain gLe gLe (mC (.int 1)) (mB (g1 lenD) (mCons (mV 0) mNil)) (mC (.int 2))))) (mNot (mTru (mB (g1 allD) (mCons (mFz (mLC (mIt (mV 0)) (pN 1) mYes (mOp (gIn false) (mV 1) (mC (.str "0123456789"))) [1])) mNil))))) (sRet (mC .non)) sSkip)
      (sSeq (sIf (mAnd (mTB (mOp gEq (mB (g1 lenD) (mCons (mV 0) mNil)) (mC (.int 2)))) (mTB (mOp gEq (mOp gIx (mV 0) (mC (.int 0))) (mC (.str "0"))))) (sRet (mC .non)) sSkip)
      (sRet (mB (g1 intD) (mCons (mV 0) mNil)))))
def f_number_in : MFn := mkFn 1 2 body_number_in
theorem ok_number_in (Z : Fx K w mg) : FnG P w K mg base 1 Z.a_number_in Z.d_number_in ["word"] (spM ⟨K, mg⟩ f_number_in) := by
  refine def_ok (k := 0) (N := ["word", "char"]) (ps := ["word"]) (st := s_number_in) body_number_in Z.F_number_in sc_number_in fun cdv A outer s H E hr hgd => ?_
  unfold body_number_in
  exact (ss_cons (ss_if (st_w (sw_or (st_not (st_chain op_leA og_le op_leA og_le (sv_int pe_int) (sv_b cg_len (pe_callB call_len rfl Z.z_len bt_len (sa_cons (sv_var (pv 0)) sa_nil))) (sv_int pe_int))) (sw_or1 (st_not (st_tru (sv_b cg_all (pe_callB (cr_all rfl) rfl Z.z_all bt_all (sa_cons (sv_fz (sv_lc (own := [("char", 1)]) rfl sc_number_in.nd (si_any (sv_var (pv 0))) (blkOk_by (N := N_number_in) (sc := (defScope s_number_in)) (by decide +kernel)) (fun _ _ _ _ _ => (sgw_name (by decide) (pg_name (i := 1) sc_number_in.nd rfl (by first | exact .inl rfl | exact .inr rfl)))) (fun _ _ _ _ _ => sts_nil) (fun _ _ _ _ _ => (sv_cmp (op_inA (u65 hr)) og_in (sv_var (pv 1)) (sv_str (pe_glob rfl Z.gc_FIGURES Z.rc_FIGURES)) rfl)))) sa_nil)))))))) (ss_one (ss_ret (sv_non pe_non))) ss_nil)
      (ss_cons (ss_if (st_w (sw_and (st_cmp (op_eqA (u64 hr)) og_eq (sv_b cg_len (pe_callB call_len rfl Z.z_len bt_len (sa_cons (sv_var (pv 0)) sa_nil))) (sv_int pe_int) (nomark _)) (sw_and1 (st_cmp (op_eqA (u64 hr)) og_eq (sv_ix (sv_var (pv 0)) (sv_int pe_int) (fun _ _ => rfl)) (sv_str pe_str) (nomark _))))) (ss_one (ss_ret (sv_non pe_non))) ss_nil)
      (ss_one (ss_ret (sv_b cg_int (pe_callTy call_intA rfl Z.z_int bt_int (sa_cons (sv_var (pv 0)) sa_nil)))))))
def body__law_number : SM :=
      (sSeq (sIf (mTB (mOp gLt (mV 0) (mC (.int 0)))) (sRet (mOp gSub (mC (.int 0)) (mV 0))) sSkip)
      (sRet (mV 0)))
def f__law_number : MFn := mkFn 1 1 body__law_number
theorem ok__law_number (Z : Fx K w mg) : FnG P w K mg base 1 Z.a__law_number Z.d__law_number ["cell"] (spM ⟨K, mg⟩ f__law_number) := by
  refine def_ok (k := 0) (N := ["cell"]) (ps := ["cell"]) (st := s__law_number) body__law_number Z.F__law_number sc__law_number fun cdv A outer s H E hr hgd => ?_
  unfold body__law_number
  exact (ss_cons (ss_if (st_cmp op_ltA og_lt (sv_var (pv 0)) (sv_int pe_int) (nomark _)) (ss_one (ss_ret (sv_bin op_sub og_sub (sv_int pe_int) (sv_var (pv 0))))) ss_nil)
      (ss_one (ss_ret (sv_var (pv 0)))))
def body__law_draws : SM :=
      (sSeq (sSet 1 (mAl (mLst mNil)))
      (sSeq (sFor (mIt (mV 0)) (gN 2) (sSeq (sSet 3 (mCall f__law_number (mCons (mV 2) mNil)))
      (sIf (mTB (mOp gGe (mV 3) (mC (.int 1000000000000000000)))) (sFor (mRng rng1 (mCons (mC (.int 60)) mNil)) (gN 4) (sSeq (sIf (mTB (mOp gEq (mV 3) (mC (.int 0)))) sBrk sSkip)
      (sSeq (sExpr (mMut arK hApp (mV 1) (mCons (mOp gMod (mB (g1 intD) (mCons (mV 3) mNil)) (mC (.int 1000))) mNil)))
      (sSet 3 (mOp gDiv (mV 3) (mC (.int 1000))))))) (sSeq (sSet 5 (mOp gMod (mB (g1 intD) (mCons (mOp gAdd (mOp gMulI (mV 3) (mC (.int 48271))) (mC (.int 11))) mNil)) (mC (.int 2147483647))))
      (sSeq (sSet 6 (mOp gMod (mB (g1 intD) (mCons (mOp gAdd (mOp gMulI (mV 5) (mC (.int 69621))) (mV 3)) mNil)) (mC (.int 2147483629))))
      (sExpr (mMut pks hExt (mV 1) (mCons (mFz (mLst (mCons (mOp gMod (mB (g1 intD) (mCons (mV 3) mNil)) (mC (.int 1000))) (mCons (mOp gMod (mB (g1 intD) (mCons (mV 5) mNil)) (mC (.int 1000))) (mCons (mOp gMod (mB (g1 intD) (mCons (mV 6) mNil)) (mC (.int 1000))) mNil))))) mNil))))))))
      (sSeq (sExpr (mMut arK hRev (mV 1) mNil))
      (sRet (mV 1)))))
def f__law_draws : MFn := mkFn 1 7 body__law_draws
theorem ok__law_draws (Z : Fx K w mg) : FnG P w K mg base 2 Z.a__law_draws Z.d__law_draws ["script"] (spM ⟨K, mg⟩ f__law_draws) := by
  refine def_ok (k := 1) (N := ["script", "draws", "cell", "rest", "k", "once", "twice"]) (ps := ["script"]) (st := s__law_draws) body__law_draws Z.F__law_draws sc__law_draws fun cdv A outer s H E hr hgd => ?_
  unfold body__law_draws
  exact (ss_cons (ss_s (ps_set (i := 1) sc__law_draws.nd rfl (by first | exact .inl rfl | exact .inr rfl) (sv_al (sv_lst sa_nil))))
      (ss_cons (ss_for (passes_of rfl) rfl (si_any (sv_var (pv 0))) (sg_name (pg_name (i := 2) sc__law_draws.nd rfl (by first | exact .inl rfl | exact .inr rfl))) (ss_cons (ss_s (ps_set (i := 3) sc__law_draws.nd rfl (by first | exact .inl rfl | exact .inr rfl) (sv_call (ok__law_number Z) (hr.mono (by decide)) hgd rfl Z.g__law_number Z.F__law_number.kp Z.b__law_number (takes_of rfl rfl rfl rfl) (sa_cons (sv_var (pv 2)) sa_nil))))
      (ss_one (ss_if (st_cmp op_geA og_ge (sv_var (pv 3)) (sv_int pe_int) (nomark _)) (ss_one (ss_for (passes_of rfl) rfl (si_r1 (pi_range1 rfl Z.z_range (sa_cons (sv_int pe_int) sa_nil))) (sg_name (pg_name (i := 4) sc__law_draws.nd rfl (by first | exact .inl rfl | exact .inr rfl))) (ss_cons (ss_if (st_cmp (op_eqA (u64 hr)) og_eq (sv_var (pv 3)) (sv_int pe_int) (nomark _)) (ss_one ss_break) ss_nil)
      (ss_cons (ss_expr (sv_mut arK_ok mg_app (pe_bm PySem.F.plainAttrs_list PySem.F.slot_list_append PySem.F.type_list_append mt_append (sv_var (pv 1)) (sa_cons (sv_bin op_modN og_mod (sv_b cg_int (pe_callTy call_intA rfl Z.z_int bt_int (sa_cons (sv_var (pv 3)) sa_nil))) (sv_int pe_int)) sa_nil))))
      (ss_one (ss_s (ps_set (i := 3) sc__law_draws.nd rfl (by first | exact .inl rfl | exact .inr rfl) (sv_bin op_fdivN og_div (sv_var (pv 3)) (sv_int pe_int))))))))) (ss_cons (ss_s (ps_set (i := 5) sc__law_draws.nd rfl (by first | exact .inl rfl | exact .inr rfl) (sv_bin op_modN og_mod (sv_b cg_int (pe_callTy call_intA rfl Z.z_int bt_int (sa_cons (sv_bin op_addA og_add (sv_bin op_mul og_mulI (sv_var (pv 3)) (sv_int pe_int)) (sv_int pe_int)) sa_nil))) (sv_int pe_int))))
      (ss_cons (ss_s (ps_set (i := 6) sc__law_draws.nd rfl (by first | exact .inl rfl | exact .inr rfl) (sv_bin op_modN og_mod (sv_b cg_int (pe_callTy call_intA rfl Z.z_int bt_int (sa_cons (sv_bin op_addA og_add (sv_bin op_mul og_mulI (sv_var (pv 5)) (sv_int pe_int)) (sv_var (pv 3))) sa_nil))) (sv_int pe_int))))
      (ss_one (ss_expr (sv_mut arR_ok mg_ext (pe_bm PySem.F.plainAttrs_list PySem.F.slot_list_extend PySem.F.type_list_extend mt_extS (sv_var (pv 1)) (sa_cons (sv_fz (sv_lst (sa_cons (sv_bin op_modN og_mod (sv_b cg_int (pe_callTy call_intA rfl Z.z_int bt_int (sa_cons (sv_var (pv 3)) sa_nil))) (sv_int pe_int)) (sa_cons (sv_bin op_modN og_mod (sv_b cg_int (pe_callTy call_intA rfl Z.z_int bt_int (sa_cons (sv_var (pv 5)) sa_nil))) (sv_int pe_int)) (sa_cons (sv_bin op_modN og_mod (sv_b cg_int (pe_callTy call_intA rfl Z.z_int bt_int (sa_cons (sv_var (pv 6)) sa_nil))) (sv_int pe_int)) sa_nil))))) sa_nil)))))))))))
      (ss_cons (ss_expr (sv_mut0 arK_ok mg_rev (pe_bm0 PySem.F.plainAttrs_list PySem.F.slot_list_reverse PySem.F.type_list_reverse mt_reverse (sv_var (pv 1)))))
      (ss_one (ss_ret (sv_var (pv 1)))))))
def body__law_next : SM :=
      (sSeq (sIf (mTru (mV 0)) (sRet (mMut arK hPop (mV 0) mNil)) sSkip)
      (sRet (mC (.int 0))))
def f__law_next : MFn := mkFn 1 1 body__law_next
theorem ok__law_next (Z : Fx K w mg) : FnG P w K mg base 1 Z.a__law_next Z.d__law_next ["draws"] (spM ⟨K, mg⟩ f__law_next) := by
  refine def_ok (k := 0) (N := ["draws"]) (ps := ["draws"]) (st := s__law_next) body__law_next Z.F__law_next sc__law_next fun cdv A outer s H E hr hgd => ?_
  unfold body__law_next
  exact (ss_cons (ss_if (st_tru (sv_var (pv 0))) (ss_one (ss_ret (sv_mut0 arK_ok mg_pop (pe_bm0 PySem.F.plainAttrs_list PySem.F.slot_list_pop PySem.F.type_list_pop mt_pop (sv_var (pv 0)))))) ss_nil)
      (ss_one (ss_ret (sv_int pe_int))))
def body__law_more : SM :=
      (sSeq (sSet 2 (mOp gAdd (mOp gAdd (mOp gMulI (mC (.int 1000)) (mCall f__law_next (mCons (mV 0) mNil))) (mCall f__law_next (mCons (mV 0) mNil))) (mC (.int 1))))
      (sSeq (sSet 3 (mAl (mLst mNil)))
      (sSeq (sFor (mRng rng1 (mCons (mV 1) mNil)) (gN 4) (sSeq (sSet 2 (mOp gMod (mB (g1 intD) (mCons (mOp gAdd (mOp gMulI (mV 2) (mC (.int 48271))) (mC (.int 12345))) mNil)) (mC (.int 2147483647))))
      (sExpr (mMut arK hApp (mV 3) (mCons (mOp gMod (mB (g1 intD) (mCons (mOp gDiv (mV 2) (mC (.int 7))) mNil)) (mC (.int 1000))) mNil)))))
      (sRet (mOp gAdd (mV 3) (mV 0))))))
def f__law_more : MFn := mkFn 2 5 body__law_more
theorem ok__law_more (Z : Fx K w mg) : FnG P w K mg base 2 Z.a__law_more Z.d__law_more ["draws", "many"] (spM ⟨K, mg⟩ f__law_more) := by
  refine def_ok (k := 1) (N := ["draws", "many", "seed", "more", "k"]) (ps := ["draws", "many"]) (st := s__law_more) body__law_more Z.F__law_more sc__law_more fun cdv A outer s H E hr hgd => ?_
  unfold body__law_more
  exact (ss_cons (ss_s (ps_set (i := 2) sc__law_more.nd rfl (by first | exact .inl rfl | exact .inr rfl) (sv_bin op_addA og_add (sv_bin op_addA og_add (sv_bin op_mul og_mulI (sv_int pe_int) (sv_call (ok__law_next Z) (hr.mono (by decide)) hgd rfl Z.g__law_next Z.F__law_next.kp Z.b__law_next (takes_of rfl rfl rfl rfl) (sa_cons (sv_var (pv 0)) sa_nil))) (sv_call (ok__law_next Z) (hr.mono (by decide)) hgd rfl Z.g__law_next Z.F__law_next.kp Z.b__law_next (takes_of rfl rfl rfl rfl) (sa_cons (sv_var (pv 0)) sa_nil))) (sv_int pe_int))))
      (ss_cons (ss_s (ps_set (i := 3) sc__law_more.nd rfl (by first | exact .inl rfl | exact .inr rfl) (sv_al (sv_lst sa_nil))))
      (ss_cons (ss_for (passes_of rfl) rfl (si_r1 (pi_range1 rfl Z.z_range (sa_cons (sv_var (pv 1)) sa_nil))) (sg_name (pg_name (i := 4) sc__law_more.nd rfl (by first | exact .inl rfl | exact .inr rfl))) (ss_cons (ss_s (ps_set (i := 2) sc__law_more.nd rfl (by first | exact .inl rfl | exact .inr rfl) (sv_bin op_modN og_mod (sv_b cg_int (pe_callTy call_intA rfl Z.z_int bt_int (sa_cons (sv_bin op_addA og_add (sv_bin op_mul og_mulI (sv_var (pv 2)) (sv_int pe_int)) (sv_int pe_int)) sa_nil))) (sv_int pe_int))))
      (ss_one (ss_expr (sv_mut arK_ok mg_app (pe_bm PySem.F.plainAttrs_list PySem.F.slot_list_append PySem.F.type_list_append mt_append (sv_var (pv 3)) (sa_cons (sv_bin op_modN og_mod (sv_b cg_int (pe_callTy call_intA rfl Z.z_int bt_int (sa_cons (sv_bin op_fdivN og_div (sv_var (pv 2)) (sv_int pe_int)) sa_nil))) (sv_int pe_int)) sa_nil)))))))
      (ss_one (ss_ret (sv_bin op_addA og_add (sv_var (pv 3)) (sv_var (pv 0))))))))
def body__law_pick : SM :=
      (sRet (mOp gIx (mV 1) (mOp gMod (mB (g1 intD) (mCons (mCall f__law_next (mCons (mV 0) mNil)) mNil)) (mB (g1 lenD) (mCons (mV 1) mNil)))))
def f__law_pick : MFn := mkFn 2 2 body__law_pick
theorem ok__law_pick (Z : Fx K w mg) : FnG P w K mg base 2 Z.a__law_pick Z.d__law_pick ["draws", "some"] (spM ⟨K, mg⟩ f__law_pick) := by
  refine def_ok (k := 1) (N := ["draws", "some"]) (ps := ["draws", "some"]) (st := s__law_pick) body__law_pick Z.F__law_pick sc__law_pick fun cdv A outer s H E hr hgd => ?_
  unfold body__law_pick
  exact (ss_one (ss_ret (sv_ix (sv_var (pv 1)) (sv_bin op_modN og_mod (sv_b cg_int (pe_callTy call_intA rfl Z.z_int bt_int (sa_cons (sv_call (ok__law_next Z) (hr.mono (by decide)) hgd rfl Z.g__law_next Z.F__law_next.kp Z.b__law_next (takes_of rfl rfl rfl rfl) (sa_cons (sv_var (pv 0)) sa_nil)) sa_nil))) (sv_b cg_len (pe_callB call_len rfl Z.z_len bt_len (sa_cons (sv_var (pv 1)) sa_nil)))) (fun _ _ => rfl))))
/-- what the class C is, by isinstance -/
structure KiY (K : PySem.W.Frag) (w : World) (mg : PySem.Str → Option Value) (Z : Fx K w mg) (C : Addr) (b : PySem.Str → Bool) : Prop where
  exc : ExcC K C
  k_NotPlan : PySem.W.kitOne K (.ref C) (.ref Z.C_NotPlan) = some (b "NotPlan")
  k_NotResults : PySem.W.kitOne K (.ref C) (.ref Z.C_NotResults) = some (b "NotResults")
  k_NotPattern : PySem.W.kitOne K (.ref C) (.ref Z.C_NotPattern) = some (b "NotPattern")
  k_NotPaper : PySem.W.kitOne K (.ref C) (.ref Z.C_NotPaper) = some (b "NotPaper")
  k_BadNumber : PySem.W.kitOne K (.ref C) (.ref Z.C_BadNumber) = some (b "BadNumber")
  k_NoAnswer : PySem.W.kitOne K (.ref C) (.ref Z.C_NoAnswer) = some (b "NoAnswer")
  k_TooLarge : PySem.W.kitOne K (.ref C) (.ref Z.C_TooLarge) = some (b "TooLarge")
def body__law_kind (b : PySem.Str → Bool) (a : Addr) : SM :=
      (sSeq (sSet 1 (mFz (mLst (mCons (mC (.str "plan")) (mCons (mC (.str "results")) (mCons (mC (.str "pattern")) (mCons (mC (.str "paper")) (mCons (mC (.str "number")) (mCons (mC (.str "none")) (mCons (mC (.str "large")) mNil))))))))))
      (sSeq (sSet 2 (mFz (mLst (mCons (mIsP a (b "NotPlan") (mV 0)) (mCons (mIsP a (b "NotResults") (mV 0)) (mCons (mIsP a (b "NotPattern") (mV 0)) (mCons (mIsP a (b "NotPaper") (mV 0)) mNil)))))))
      (sSeq (sSet 2 (mFz (mOp gAdd (mV 2) (mLst (mCons (mIsP a (b "BadNumber") (mV 0)) (mCons (mIsP a (b "NoAnswer") (mV 0)) (mCons (mIsP a (b "TooLarge") (mV 0)) mNil)))))))
      (sRet (mIfE (mTB (mOp gEq (mLm gCnt (mV 2) (mCons (mC (.bl true)) mNil)) (mC (.int 1)))) (mOp gAdd (mC (.str "!")) (mOp gIx (mV 1) (mLm gIdx (mV 2) (mCons (mC (.bl true)) mNil)))) (mC (.str "!other")))))))
theorem ok__law_kind (Z : Fx K w mg) {C : Addr} {b : PySem.Str → Bool} {r : PySem.Str} (Y : KiY K w mg Z C b) (h : ∀ a, ∃ S1, body__law_kind b a ([some (.v (.raw a))] ++ List.replicate 2 none) [] = .rt (.v (.str r)) S1) : FnK P w K mg base 1 Z.a__law_kind Z.d__law_kind ["error"] C r := by
  refine fnK_of (k := 0) (N := ["error", "names", "found"]) (st := s__law_kind) (body__law_kind b) Z.F__law_kind sc__law_kind (fun cdv A outer s H a oe hr hz hf => ?_) h
  unfold body__law_kind
  exact (ss_cons (ss_s (ps_set (i := 1) sc__law_kind.nd rfl (by first | exact .inl rfl | exact .inr rfl) (sv_fz (sv_lst (sa_cons (sv_str pe_str) (sa_cons (sv_str pe_str) (sa_cons (sv_str pe_str) (sa_cons (sv_str pe_str) (sa_cons (sv_str pe_str) (sa_cons (sv_str pe_str) (sa_cons (sv_str pe_str) sa_nil)))))))))))
      (ss_cons (ss_s (ps_set (i := 2) sc__law_kind.nd rfl (by first | exact .inl rfl | exact .inr rfl) (sv_fz (sv_lst (sa_cons (sv_isP (Y.k_NotPlan) (pe_callB (call_isP Y.exc List.mem_cons_self hz hf) rfl Z.z_isinstance bt_isinstance (pa_cons (sv_var (pv 0)) (pa_cons (pe_glob rfl Z.gC_NotPlan rfl) pa_nil)))) (sa_cons (sv_isP (Y.k_NotResults) (pe_callB (call_isP Y.exc List.mem_cons_self hz hf) rfl Z.z_isinstance bt_isinstance (pa_cons (sv_var (pv 0)) (pa_cons (pe_glob rfl Z.gC_NotResults rfl) pa_nil)))) (sa_cons (sv_isP (Y.k_NotPattern) (pe_callB (call_isP Y.exc List.mem_cons_self hz hf) rfl Z.z_isinstance bt_isinstance (pa_cons (sv_var (pv 0)) (pa_cons (pe_glob rfl Z.gC_NotPattern rfl) pa_nil)))) (sa_cons (sv_isP (Y.k_NotPaper) (pe_callB (call_isP Y.exc List.mem_cons_self hz hf) rfl Z.z_isinstance bt_isinstance (pa_cons (sv_var (pv 0)) (pa_cons (pe_glob rfl Z.gC_NotPaper rfl) pa_nil)))) sa_nil))))))))
      (ss_cons (ss_s (ps_set (i := 2) sc__law_kind.nd rfl (by first | exact .inl rfl | exact .inr rfl) (sv_fz (sv_bin op_addA og_add (sv_var (pv 2)) (sv_lst (sa_cons (sv_isP (Y.k_BadNumber) (pe_callB (call_isP Y.exc List.mem_cons_self hz hf) rfl Z.z_isinstance bt_isinstance (pa_cons (sv_var (pv 0)) (pa_cons (pe_glob rfl Z.gC_BadNumber rfl) pa_nil)))) (sa_cons (sv_isP (Y.k_NoAnswer) (pe_callB (call_isP Y.exc List.mem_cons_self hz hf) rfl Z.z_isinstance bt_isinstance (pa_cons (sv_var (pv 0)) (pa_cons (pe_glob rfl Z.gC_NoAnswer rfl) pa_nil)))) (sa_cons (sv_isP (Y.k_TooLarge) (pe_callB (call_isP Y.exc List.mem_cons_self hz hf) rfl Z.z_isinstance bt_isinstance (pa_cons (sv_var (pv 0)) (pa_cons (pe_glob rfl Z.gC_TooLarge rfl) pa_nil)))) sa_nil))))))))
      (ss_one (ss_ret (sv_if (st_cmp (op_eqA (v64 hr)) og_eq (sv_lm lg_cnt (pe_bm PySem.F.plainAttrs_list PySem.F.slot_list_count PySem.F.type_list_count (mt_countD (v65 hr)) (sv_var (pv 2)) (sa_cons (sv_bl pe_bl) sa_nil))) (sv_int pe_int) (nomark _)) (sv_bin op_addA og_add (sv_str pe_str) (sv_ix (sv_var (pv 1)) (sv_lm lg_idx (pe_bm PySem.F.plainAttrs_list PySem.F.slot_list_index PySem.F.type_list_index (mt_indexD (v65 hr)) (sv_var (pv 2)) (sa_cons (sv_bl pe_bl) sa_nil))) (fun _ _ => rfl))) (sv_str pe_str)))))))
theorem kind_BadNumber (a : Addr) : body__law_kind (fun x => decide (x = "BadNumber")) a [some (.v (.raw a)), none, none] [] = .rt (.v (.str "!number")) [] := by
  simp [body__law_kind, gAdd, lim]
  rfl
abbrev tabK : KTab := [("BadNumber", "!number")]
theorem okKind (Z : Fx K w mg) : KindOk P w K mg base 1 Z.a__law_kind Z.d__law_kind ["error"] (.ref Z.C_PlanError) tabK := by
  refine ⟨fun n r h => ?_, fun n r n1 r1 h h1 e => ?_, by decide⟩
  · simp only [tabK, List.mem_cons, Prod.mk.injEq, List.not_mem_nil, or_false] at h
    obtain ⟨rfl, rfl⟩ := h
    exact ⟨_, Z.gC_BadNumber, Z.em_BadNumber, ok__law_kind Z (b := fun x => decide (x = "BadNumber")) ⟨Z.ex_BadNumber, Z.k_BadNumber_NotPlan, Z.k_BadNumber_NotResults, Z.k_BadNumber_NotPattern, Z.k_BadNumber_NotPaper, Z.k_BadNumber_BadNumber, Z.k_BadNumber_NoAnswer, Z.k_BadNumber_TooLarge⟩ fun a => ⟨_, kind_BadNumber a⟩⟩
  · simp only [tabK, List.mem_cons, Prod.mk.injEq, List.not_mem_nil, or_false] at h h1
    rw [h.1, h1.1]
def body__law_line : SM :=
      (sSeq (sSet 1 (mFz (mStr gSplit (mV 0) (mCons (mC (.str " ")) mNil))))
      (sSeq (sFor (mIt (mV 1)) (gN 2) (sIf (mOr (mTB (mOp gEq (mV 2) (mC (.str "")))) (mNot (mTru (mB (g1 allD) (mCons (mFz (mLC (mIt (mV 2)) (pN 3) mYes (mChain gLe gLe (mC (.str "!")) (mV 3) (mC (.str "~"))) [3])) mNil))))) (sRet (mC .non)) sSkip))
      (sRet (mV 1))))
def f__law_line : MFn := mkFn 1 4 body__law_line
theorem ok__law_line (Z : Fx K w mg) : FnG P w K mg base 1 Z.a__law_line Z.d__law_line ["line"] (spM ⟨K, mg⟩ f__law_line) := by
  refine def_ok (k := 0) (N := ["line", "words", "word", "sign"]) (ps := ["line"]) (st := s__law_line) body__law_line Z.F__law_line sc__law_line fun cdv A outer s H E hr hgd => ?_
  unfold body__law_line
  exact (ss_cons (ss_s (ps_set (i := 1) sc__law_line.nd rfl (by first | exact .inl rfl | exact .inr rfl) (sv_fz (sv_str1 sg_split (pe_bm PySem.F.plainAttrs_str PySem.F.slot_str_split PySem.F.type_str_split mt_split (sv_var (pv 0)) (sa_cons (sv_str pe_str) sa_nil))))))
      (ss_cons (ss_for (passes_of rfl) rfl (si_any (sv_var (pv 1))) (sg_name (pg_name (i := 2) sc__law_line.nd rfl (by first | exact .inl rfl | exact .inr rfl))) (ss_one (ss_if (st_w (sw_or (st_cmp (op_eqA (u64 hr)) og_eq (sv_var (pv 2)) (sv_str pe_str) (nomark _)) (sw_or1 (st_not (st_tru (sv_b cg_all (pe_callB (cr_all rfl) rfl Z.z_all bt_all (sa_cons (sv_fz (sv_lc (own := [("sign", 3)]) rfl sc__law_line.nd (si_any (sv_var (pv 2))) (blkOk_by (N := N__law_line) (sc := (defScope s__law_line)) (by decide +kernel)) (fun _ _ _ _ _ => (sgw_name (by decide) (pg_name (i := 3) sc__law_line.nd rfl (by first | exact .inl rfl | exact .inr rfl)))) (fun _ _ _ _ _ => sts_nil) (fun _ _ _ _ _ => (sv_chain op_leA og_le op_leA og_le (sv_str pe_str) (sv_var (pv 3)) (sv_str pe_str))))) sa_nil)))))))) (ss_one (ss_ret (sv_non pe_non))) ss_nil)))
      (ss_one (ss_ret (sv_var (pv 1))))))
def body__law_number_of : SM :=
      (sRet (mIfE (mTB (mOp (gIn false) (mV 0) (mLC (mRng rng1 (mCons (mC (.int 100)) mNil)) (pN 1) mYes (mB (g1 strD) (mCons (mV 1) mNil)) [1]))) (mB (g1 intD) (mCons (mV 0) mNil)) (mC .non)))
def f__law_number_of : MFn := mkFn 1 2 body__law_number_of
theorem ok__law_number_of (Z : Fx K w mg) : FnG P w K mg base 1 Z.a__law_number_of Z.d__law_number_of ["word"] (spM ⟨K, mg⟩ f__law_number_of) := by
  refine def_ok (k := 0) (N := ["word", "k"]) (ps := ["word"]) (st := s__law_number_of) body__law_number_of Z.F__law_number_of sc__law_number_of fun cdv A outer s H E hr hgd => ?_
  unfold body__law_number_of
  exact (ss_one (ss_ret (sv_if (st_cmp (op_inA (u65 hr)) og_in (sv_var (pv 0)) (sv_lc (own := [("k", 1)]) rfl sc__law_number_of.nd (si_r1 (pi_range1 rfl Z.z_range (sa_cons (sv_int pe_int) sa_nil))) (blkOk_by (N := N__law_number_of) (sc := (defScope s__law_number_of)) (by decide +kernel)) (fun _ _ _ _ _ => (sgw_name (by decide) (pg_name (i := 1) sc__law_number_of.nd rfl (by first | exact .inl rfl | exact .inr rfl)))) (fun _ _ _ _ _ => sts_nil) (fun _ _ _ _ _ => (sv_b cg_str (pe_callTy call_strA rfl Z.z_str bt_str (sa_cons (sv_var (pv 1)) sa_nil))))) rfl) (sv_b cg_int (pe_callTy call_intA rfl Z.z_int bt_int (sa_cons (sv_var (pv 0)) sa_nil))) (sv_non pe_non))))
def body__law_is_row : SM :=
      (sRet (mAndV (mUn (isiD "tuple") (mV 0)) (mB (g1 allD) (mCons (mFz (mLC (mIt (mV 0)) (pN 1) mYes (mUn (isiD "int") (mV 1)) [1])) mNil))))
def f__law_is_row : MFn := mkFn 1 2 body__law_is_row
theorem ok__law_is_row (Z : Fx K w mg) : FnG P w K mg base 1 Z.a__law_is_row Z.d__law_is_row ["term"] (spM ⟨K, mg⟩ f__law_is_row) := by
  refine def_ok (k := 0) (N := ["term", "entry"]) (ps := ["term"]) (st := s__law_is_row) body__law_is_row Z.F__law_is_row sc__law_is_row fun cdv A outer s H E hr hgd => ?_
  unfold body__law_is_row
  exact (ss_one (ss_ret (sv_and (sv_isi (pe_callB call_isi rfl Z.z_isinstance bt_isinstance (pa_cons (sv_var (pv 0)) (pa_cons (pe_bltn rfl Z.z_tuple bt_tuple rfl) pa_nil)))) (sv_one (sv_b cg_all (pe_callB (cr_all rfl) rfl Z.z_all bt_all (sa_cons (sv_fz (sv_lc (own := [("entry", 1)]) rfl sc__law_is_row.nd (si_any (sv_var (pv 0))) (blkOk_by (N := N__law_is_row) (sc := (defScope s__law_is_row)) (by decide +kernel)) (fun _ _ _ _ _ => (sgw_name (by decide) (pg_name (i := 1) sc__law_is_row.nd rfl (by first | exact .inl rfl | exact .inr rfl)))) (fun _ _ _ _ _ => sts_nil) (fun _ _ _ _ _ => (sv_isi (pe_callB call_isi rfl Z.z_isinstance bt_isinstance (pa_cons (sv_var (pv 1)) (pa_cons (pe_bltn rfl Z.z_int bt_int rfl) pa_nil))))))) sa_nil)))))))
def body__law_due : SM :=
      (sSeq (sIf (mTB (mOp gEq (mV 0) (mC (.str "row")))) (sRet (mCall f__law_is_row (mCons (mV 1) mNil))) sSkip)
      (sSeq (sIf (mNot (mTru (mUn (isiD "tuple") (mV 1)))) (sRet (mC (.bl false))) sSkip)
      (sSeq (sIf (mTB (mOp gEq (mV 0) (mC (.str "pairs")))) (sRet (mB (g1 allD) (mCons (mFz (mLC (mIt (mV 1)) (pN 3) mYes (mCall f__law_is_row (mCons (mV 3) mNil)) [3])) mNil))) sSkip)
      (sSeq (sIf (mAnd (mTB (mOp gEq (mV 0) (mC (.str "pots")))) (mTB (mOp gNe (mB (g1 lenD) (mCons (mV 1) mNil)) (mC (.int 2))))) (sRet (mC (.bl false))) sSkip)
      (sRet (mB (g1 allD) (mCons (mFz (mLC (mIt (mV 1)) (pN 2) mYes (mAndV (mUn (isiD "tuple") (mV 2)) (mB (g1 allD) (mCons (mFz (mLC (mIt (mV 2)) (pN 3) mYes (mCall f__law_is_row (mCons (mV 3) mNil)) [3])) mNil))) [2])) mNil)))))))
def f__law_due : MFn := mkFn 2 4 body__law_due
theorem ok__law_due (Z : Fx K w mg) : FnG P w K mg base 2 Z.a__law_due Z.d__law_due ["thing", "term"] (spM ⟨K, mg⟩ f__law_due) := by
  refine def_ok (k := 1) (N := ["thing", "term", "part", "entry"]) (ps := ["thing", "term"]) (st := s__law_due) body__law_due Z.F__law_due sc__law_due fun cdv A outer s H E hr hgd => ?_
  unfold body__law_due
  exact (ss_cons (ss_if (st_cmp (op_eqA (u64 hr)) og_eq (sv_var (pv 0)) (sv_str pe_str) (nomark _)) (ss_one (ss_ret (sv_call (ok__law_is_row Z) (hr.mono (by decide)) hgd rfl Z.g__law_is_row Z.F__law_is_row.kp Z.b__law_is_row (takes_of rfl rfl rfl rfl) (sa_cons (sv_var (pv 1)) sa_nil)))) ss_nil)
      (ss_cons (ss_if (st_not (st_tru (sv_isi (pe_callB call_isi rfl Z.z_isinstance bt_isinstance (pa_cons (sv_var (pv 1)) (pa_cons (pe_bltn rfl Z.z_tuple bt_tuple rfl) pa_nil)))))) (ss_one (ss_ret (sv_bl pe_bl))) ss_nil)
      (ss_cons (ss_if (st_cmp (op_eqA (u64 hr)) og_eq (sv_var (pv 0)) (sv_str pe_str) (nomark _)) (ss_one (ss_ret (sv_b cg_all (pe_callB (cr_all rfl) rfl Z.z_all bt_all (sa_cons (sv_fz (sv_lc (own := [("entry", 3)]) rfl sc__law_due.nd (si_any (sv_var (pv 1))) (blkOk_by (N := N__law_due) (sc := (defScope s__law_due)) (by decide +kernel)) (fun _ _ _ _ _ => (sgw_name (by decide) (pg_name (i := 3) sc__law_due.nd rfl (by first | exact .inl rfl | exact .inr rfl)))) (fun _ _ _ _ _ => sts_nil) (fun _ _ _ _ _ => (sv_call (ok__law_is_row Z) (hr.mono (by decide)) hgd rfl Z.g__law_is_row Z.F__law_is_row.kp Z.b__law_is_row takes0 (sa_cons (sv_var (pv 3)) sa_nil))))) sa_nil))))) ss_nil)
      (ss_cons (ss_if (st_w (sw_and (st_cmp (op_eqA (u64 hr)) og_eq (sv_var (pv 0)) (sv_str pe_str) (nomark _)) (sw_and1 (st_cmp (op_neA (u64 hr)) og_ne (sv_b cg_len (pe_callB call_len rfl Z.z_len bt_len (sa_cons (sv_var (pv 1)) sa_nil))) (sv_int pe_int) (nomark _))))) (ss_one (ss_ret (sv_bl pe_bl))) ss_nil)
      (ss_one (ss_ret (sv_b cg_all (pe_callB (cr_all rfl) rfl Z.z_all bt_all (sa_cons (sv_fz (sv_lc (own := [("part", 2)]) rfl sc__law_due.nd (si_any (sv_var (pv 1))) (blkOk_by (N := N__law_due) (sc := (defScope s__law_due)) (by decide +kernel)) (fun _ _ _ _ _ => (sgw_name (by decide) (pg_name (i := 2) sc__law_due.nd rfl (by first | exact .inl rfl | exact .inr rfl)))) (fun _ _ _ _ _ => sts_nil) (fun _ _ _ _ _ => (sv_and (sv_isi (pe_callB call_isi rfl Z.z_isinstance bt_isinstance (pa_cons (sv_var (pv 2)) (pa_cons (pe_bltn rfl Z.z_tuple bt_tuple rfl) pa_nil)))) (sv_one (sv_b cg_all (pe_callB (cr_all rfl) rfl Z.z_all bt_all (sa_cons (sv_fz (sv_lc (own := [("entry", 3)]) rfl sc__law_due.nd (si_any (sv_var (pv 2))) (blkOk_by (by first | decide +kernel | rfl)) (fun _ _ _ _ _ => (sgw_name (by decide) (pg_name (i := 3) sc__law_due.nd rfl (by first | exact .inl rfl | exact .inr rfl)))) (fun _ _ _ _ _ => sts_nil) (fun _ _ _ _ _ => (sv_call (ok__law_is_row Z) (hr.mono (by decide)) hgd rfl Z.g__law_is_row Z.F__law_is_row.kp Z.b__law_is_row takes0 (sa_cons (sv_var (pv 3)) sa_nil))))) sa_nil)))))))) sa_nil)))))))))
def body__law_spoilt (self : MFn) : SM :=
      (sSeq (sIf (mOr (mNot (mTru (mUn (isiD "tuple") (mV 1)))) (mTB (mOp gEq (mOp gMod (mB (g1 intD) (mCons (mCall f__law_next (mCons (mV 0) mNil)) mNil)) (mC (.int 6))) (mC (.int 0))))) (sRet (mCall f__law_pick (mCons (mV 0) (mCons (mFz (mLst (mCons (mC .non) (mCons (mC (.str "ada")) (mCons (mC (.str "")) (mCons (mC (.int 5)) (mCons (mTup mNil) (mCons (mTup (mCons (mC (.int 1)) mNil)) (mCons (mTup (mCons (mTup mNil) mNil)) (mCons (mTup (mCons (mC (.str "a")) mNil)) (mCons (mV 1) mNil))))))))))) mNil)))) sSkip)
      (sSeq (sIf (mTB (mOp gEq (mV 1) (mTup mNil))) (sRet (mCall f__law_pick (mCons (mV 0) (mCons (mFz (mLst (mCons (mTup (mCons (mC (.int 0)) mNil)) (mCons (mTup (mCons (mC (.str "")) mNil)) (mCons (mTup (mCons (mTup mNil) mNil)) (mCons (mC .non) mNil)))))) mNil)))) sSkip)
      (sSeq (sSet 2 (mOp gMod (mB (g1 intD) (mCons (mCall f__law_next (mCons (mV 0) mNil)) mNil)) (mB (g1 lenD) (mCons (mV 1) mNil))))
      (sSeq (sSet 3 (mOp gMod (mB (g1 intD) (mCons (mCall f__law_next (mCons (mV 0) mNil)) mNil)) (mC (.int 5))))
      (sSeq (sIf (mTB (mOp gEq (mV 3) (mC (.int 0)))) (sRet (mOp gAdd (mSl (mV 1) oNo (oAt (mV 2))) (mSl (mV 1) (oAt (mOp gAdd (mV 2) (mC (.int 1)))) oNo))) sSkip)
      (sRet (mIfE (mTB (mOp gEq (mV 3) (mC (.int 1)))) (mOp gAdd (mV 1) (mSl (mV 1) (oAt (mV 2)) (oAt (mOp gAdd (mV 2) (mC (.int 1)))))) (mOp gAdd (mOp gAdd (mSl (mV 1) oNo (oAt (mV 2))) (mTup (mCons (mCall self (mCons (mV 0) (mCons (mOp gIx (mV 1) (mV 2)) mNil))) mNil))) (mSl (mV 1) (oAt (mOp gAdd (mV 2) (mC (.int 1)))) oNo)))))))))
def f__law_spoilt : Nat → MFn
  | 0 => fun _ _ => .bad
  | k + 1 => mkFn 2 4 (body__law_spoilt (f__law_spoilt k))
theorem ok__law_spoilt (Z : Fx K w mg) : ∀ k, FnG P w K mg base (2 + k) Z.a__law_spoilt Z.d__law_spoilt ["draws", "term"] (spM ⟨K, mg⟩ (f__law_spoilt k))
  | 0 => fnG_bad
  | k + 1 => by
    have ih := ok__law_spoilt Z k
    refine def_ok (k := 2 + k) (N := ["draws", "term", "at", "kind"]) (ps := ["draws", "term"]) (st := s__law_spoilt) (body__law_spoilt (f__law_spoilt k)) Z.F__law_spoilt sc__law_spoilt fun cdv A outer s H E hr hgd => ?_
    unfold body__law_spoilt
    exact (ss_cons (ss_if (st_w (sw_or (st_not (st_tru (sv_isi (pe_callB call_isi rfl Z.z_isinstance bt_isinstance (pa_cons (sv_var (pv 1)) (pa_cons (pe_bltn rfl Z.z_tuple bt_tuple rfl) pa_nil)))))) (sw_or1 (st_cmp (op_eqA (u64 hr)) og_eq (sv_bin op_modN og_mod (sv_b cg_int (pe_callTy call_intA rfl Z.z_int bt_int (sa_cons (sv_call (ok__law_next Z) (hr.mono (by omega)) hgd rfl Z.g__law_next Z.F__law_next.kp Z.b__law_next (takes_of rfl rfl rfl rfl) (sa_cons (sv_var (pv 0)) sa_nil)) sa_nil))) (sv_int pe_int)) (sv_int pe_int) (nomark _))))) (ss_one (ss_ret (sv_call (ok__law_pick Z) (hr.mono (by omega)) hgd rfl Z.g__law_pick Z.F__law_pick.kp Z.b__law_pick (takes_of rfl rfl rfl rfl) (sa_cons (sv_var (pv 0)) (sa_cons (sv_fz (sv_lst (sa_cons (sv_non pe_non) (sa_cons (sv_str pe_str) (sa_cons (sv_str pe_str) (sa_cons (sv_int pe_int) (sa_cons (sv_tup sa_nil) (sa_cons (sv_tup (sa_cons (sv_int pe_int) sa_nil)) (sa_cons (sv_tup (sa_cons (sv_tup sa_nil) sa_nil)) (sa_cons (sv_tup (sa_cons (sv_str pe_str) sa_nil)) (sa_cons (sv_var (pv 1)) sa_nil))))))))))) sa_nil))))) ss_nil)
      (ss_cons (ss_if (st_cmp (op_eqA (u64 hr)) og_eq (sv_var (pv 1)) (sv_tup sa_nil) (nomark _)) (ss_one (ss_ret (sv_call (ok__law_pick Z) (hr.mono (by omega)) hgd rfl Z.g__law_pick Z.F__law_pick.kp Z.b__law_pick (takes_of rfl rfl rfl rfl) (sa_cons (sv_var (pv 0)) (sa_cons (sv_fz (sv_lst (sa_cons (sv_tup (sa_cons (sv_int pe_int) sa_nil)) (sa_cons (sv_tup (sa_cons (sv_str pe_str) sa_nil)) (sa_cons (sv_tup (sa_cons (sv_tup sa_nil) sa_nil)) (sa_cons (sv_non pe_non) sa_nil)))))) sa_nil))))) ss_nil)
      (ss_cons (ss_s (ps_set (i := 2) sc__law_spoilt.nd rfl (by first | exact .inl rfl | exact .inr rfl) (sv_bin op_modN og_mod (sv_b cg_int (pe_callTy call_intA rfl Z.z_int bt_int (sa_cons (sv_call (ok__law_next Z) (hr.mono (by omega)) hgd rfl Z.g__law_next Z.F__law_next.kp Z.b__law_next (takes_of rfl rfl rfl rfl) (sa_cons (sv_var (pv 0)) sa_nil)) sa_nil))) (sv_b cg_len (pe_callB call_len rfl Z.z_len bt_len (sa_cons (sv_var (pv 1)) sa_nil))))))
      (ss_cons (ss_s (ps_set (i := 3) sc__law_spoilt.nd rfl (by first | exact .inl rfl | exact .inr rfl) (sv_bin op_modN og_mod (sv_b cg_int (pe_callTy call_intA rfl Z.z_int bt_int (sa_cons (sv_call (ok__law_next Z) (hr.mono (by omega)) hgd rfl Z.g__law_next Z.F__law_next.kp Z.b__law_next (takes_of rfl rfl rfl rfl) (sa_cons (sv_var (pv 0)) sa_nil)) sa_nil))) (sv_int pe_int))))
      (ss_cons (ss_if (st_cmp (op_eqA (u64 hr)) og_eq (sv_var (pv 3)) (sv_int pe_int) (nomark _)) (ss_one (ss_ret (sv_bin op_addA og_add (sv_slice (sv_var (pv 1)) so_none (so_some (sv_var (pv 2)))) (sv_slice (sv_var (pv 1)) (so_some (sv_bin op_addA og_add (sv_var (pv 2)) (sv_int pe_int))) so_none)))) ss_nil)
      (ss_one (ss_ret (sv_if (st_cmp (op_eqA (u64 hr)) og_eq (sv_var (pv 3)) (sv_int pe_int) (nomark _)) (sv_bin op_addA og_add (sv_var (pv 1)) (sv_slice (sv_var (pv 1)) (so_some (sv_var (pv 2))) (so_some (sv_bin op_addA og_add (sv_var (pv 2)) (sv_int pe_int))))) (sv_bin op_addA og_add (sv_bin op_addA og_add (sv_slice (sv_var (pv 1)) so_none (so_some (sv_var (pv 2)))) (sv_tup (sa_cons (sv_call ih (hr.mono (by omega)) hgd rfl Z.g__law_spoilt Z.F__law_spoilt.kp Z.b__law_spoilt (takes_of rfl rfl rfl rfl) (sa_cons (sv_var (pv 0)) (sa_cons (sv_ix (sv_var (pv 1)) (sv_var (pv 2)) (fun _ _ => rfl)) sa_nil))) sa_nil))) (sv_slice (sv_var (pv 1)) (so_some (sv_bin op_addA og_add (sv_var (pv 2)) (sv_int pe_int))) so_none))))))))))
def body_law : SM :=
      (sSeq (sSet 1 (mAl (mCall f__law_draws (mCons (mV 0) mNil))))
      (sSeq (sSet 1 (mAl (mCall f__law_more (mCons (mV 1) (mCons (mC (.int 200)) mNil)))))
      (sSeq (sIf (mTB (mOp gNe (mLst (mCons (mCall f_words_of (mCons (mC (.str "a b")) mNil)) (mCons (mCall f_is_name (mCons (mC (.str "abcdefghijkl")) mNil)) (mCons (mCall f_is_name (mCons (mC (.str "abcdefghijklm")) mNil)) (mCons (mCall f_number_in (mCons (mC (.str "07")) mNil)) (mCons (mCall f_number_in (mCons (mC (.str "99")) mNil)) mNil)))))) (mLst (mCons (mFz (mLst (mCons (mC (.str "a")) (mCons (mC (.str "b")) mNil)))) (mCons (mC (.bl true)) (mCons (mC (.bl false)) (mCons (mC .non) (mCons (mC (.int 99)) mNil)))))))) (sRet (mC (.bl false))) sSkip)
      (sSeq (sFor (mRng rng1 (mCons (mC (.int 6)) mNil)) (gN 2) (sSeq (sSet 6 (mStr gJoin (mC (.str "")) (mCons (mFz (mLC (mRng rng1 (mCons (mOp gMod (mB (g1 intD) (mCons (mCall f__law_next (mCons (mV 1) mNil)) mNil)) (mC (.int 9))) mNil)) (pN 10) mYes (mCall f__law_pick (mCons (mV 1) (mCons (mFz (mLst (mCons (mC (.str "a")) (mCons (mC (.str "b")) (mCons (mC (.str " ")) (mCons (mC (.str "0")) (mCons (mC (.str "7")) (mCons (mC (.str "~")) (mCons (mC (.str "!")) (mCons (mC (.str "(")) (mCons (mC (.str "A")) (mCons (mC (.str "\t")) (mCons (mC (.str "-")) (mCons (mC (.str "z")) (mCons (mC (.str "  ")) mNil))))))))))))))) mNil))) [10])) mNil)))
      (sSeq (sIf (mTB (mOp gNe (mB (g1 reprD) (mCons (mCall f_words_of (mCons (mV 6) mNil)) mNil)) (mB (g1 reprD) (mCons (mCall f__law_line (mCons (mV 6) mNil)) mNil)))) (sRet (mC (.bl false))) sSkip)
      (sSeq (sSet 7 (mStr gJoin (mC (.str "")) (mCons (mFz (mLC (mRng rng1 (mCons (mOp gMod (mB (g1 intD) (mCons (mCall f__law_next (mCons (mV 1) mNil)) mNil)) (mC (.int 15))) mNil)) (pN 10) mYes (mCall f__law_pick (mCons (mV 1) (mCons (mFz (mLst (mCons (mC (.str "a")) (mCons (mC (.str "k")) (mCons (mC (.str "z")) (mCons (mC (.str "9")) (mCons (mC (.str "0")) (mCons (mC (.str "1")) (mCons (mC (.str "")) (mCons (mC (.str "")) (mCons (mC (.str "B")) mNil))))))))))) mNil))) [10])) mNil)))
      (sSeq (sSet 8 (mAndV (mChain gLe gLe (mC (.int 1)) (mB (g1 lenD) (mCons (mV 7) mNil)) (mC (.int 12))) (mB (g1 allD) (mCons (mFz (mLC (mIt (mV 7)) (pN 12) mYes (mOp (gIn false) (mV 12) (mC (.str "abcdefghijklmnopqrstuvwxyz"))) [12])) mNil))))
      (sIf (mTB (mOp gNe (mB (g1 reprD) (mCons (mFz (mLst (mCons (mCall f_is_name (mCons (mV 7) mNil)) (mCons (mCall f_number_in (mCons (mV 7) mNil)) mNil)))) mNil)) (mB (g1 reprD) (mCons (mFz (mLst (mCons (mV 8) (mCons (mCall f__law_number_of (mCons (mV 7) mNil)) mNil)))) mNil)))) (sRet (mC (.bl false))) sSkip))))))
      (sSeq (sIf (mTB (mOp gNe (mLC (mIt (mLst (mCons (mC (.str "")) (mCons (mC (.str "0")) (mCons (mC (.str "00")) (mCons (mC (.str "100")) (mCons (mC (.str "-1")) (mCons (mC (.str "5")) (mCons (mC (.str "+5")) (mCons (mC (.str " 5")) (mCons (mC (.str "5 ")) mNil))))))))))) (pN 7) mYes (mB (g1 reprD) (mCons (mCall f_number_in (mCons (mV 7) mNil)) mNil)) [7]) (mLst (mCons (mC (.str "None")) (mCons (mC (.str "0")) (mCons (mC (.str "None")) (mCons (mC (.str "None")) (mCons (mC (.str "None")) (mCons (mC (.str "5")) (mCons (mC (.str "None")) (mCons (mC (.str "None")) (mCons (mC (.str "None")) mNil)))))))))))) (sRet (mC (.bl false))) sSkip)
      (sSeq (sSet 3 (mFz (mLst (mCons (mTup (mCons (mTup (mCons (mTup (mCons (mC (.int 0)) (mCons (mC (.int 1)) mNil))) mNil)) (mCons (mTup (mCons (mTup (mCons (mC (.int 1)) (mCons (mC (.int 2)) mNil))) mNil)) mNil))) (mCons (mTup (mCons (mTup (mCons (mTup (mCons (mC (.int 0)) (mCons (mC (.int 1)) mNil))) (mCons (mTup (mCons (mC (.int 2)) (mCons (mC (.int 3)) mNil))) mNil))) (mCons (mTup mNil) mNil))) (mCons (mTup (mCons (mTup (mCons (mC (.int 0)) (mCons (mC (.int 1)) mNil))) (mCons (mTup (mCons (mC (.int 2)) (mCons (mC (.int 0)) mNil))) mNil))) (mCons (mTup (mCons (mC (.int 0)) (mCons (mC (.int 1)) (mCons (mC (.int 1)) mNil)))) (mCons (mTup (mCons (mTup (mCons (mTup (mCons (mC (.int 0)) (mCons (mC (.int 1)) mNil))) (mCons (mC (.int 1)) mNil))) mNil)) mNil))))))))
      (sSeq (sFor (mIt (mOp gAdd (mOp gAdd (mV 3) (mLC (mRng rng1 (mCons (mC (.int 12)) mNil)) (pN 2) mYes (mCall (f__law_spoilt 8) (mCons (mV 1) (mCons (mCall f__law_pick (mCons (mV 1) (mCons (mV 3) mNil))) mNil))) [2])) (mLst (mCons (mTup mNil) (mCons (mC .non) (mCons (mC (.str "")) (mCons (mC (.int 0)) mNil))))))) (gN 4) (sIf (mTB (mOp gNe (mLC (mIt (mLst (mCons (mC (.str "plan")) (mCons (mC (.str "chances")) (mCons (mC (.str "pairs")) (mCons (mC (.str "pots")) (mCons (mC (.str "row")) mNil))))))) (pN 11) mYes (mCall f_has_form (mCons (mV 11) (mCons (mV 4) mNil))) [11]) (mLC (mIt (mLst (mCons (mC (.str "plan")) (mCons (mC (.str "chances")) (mCons (mC (.str "pairs")) (mCons (mC (.str "pots")) (mCons (mC (.str "row")) mNil))))))) (pN 11) mYes (mCall f__law_due (mCons (mV 11) (mCons (mV 4) mNil))) [11]))) (sRet (mC (.bl false))) sSkip))
      (sSeq (sFor (mIt (mLst (mCons (mC (.str "")) (mCons (mC (.str "Form")) (mCons (mC (.str "term")) mNil))))) (gN 5) (sTryK2 tabK 9 "!number" (sSeq (sExpr (mCall f_has_form (mCons (mV 5) (mCons (mTup mNil) mNil))))
      (sRet (mC (.bl false))))))
      (sRet (mC (.bl true)))))))))))
def f_law : MFn := mkFn 1 13 body_law
theorem ok_law (Z : Fx K w mg) : FnG P w K mg base 11 Z.a_law Z.d_law ["script"] (spM ⟨K, mg⟩ f_law) := by
  refine def_ok (k := 10) (N := ["script", "draws", "turn", "terms", "term", "wrong", "line", "word", "small", "error", "at", "thing", "sign"]) (ps := ["script"]) (st := s_law) body_law Z.F_law sc_law fun cdv A outer s H E hr hgd => ?_
  unfold body_law
  exact (ss_cons (ss_s (ps_set (i := 1) sc_law.nd rfl (by first | exact .inl rfl | exact .inr rfl) (sv_al (sv_call (ok__law_draws Z) (hr.mono (by decide)) hgd rfl Z.g__law_draws Z.F__law_draws.kp Z.b__law_draws (takes_of rfl rfl rfl rfl) (sa_cons (sv_var (pv 0)) sa_nil)))))
      (ss_cons (ss_s (ps_set (i := 1) sc_law.nd rfl (by first | exact .inl rfl | exact .inr rfl) (sv_al (sv_call (ok__law_more Z) (hr.mono (by decide)) hgd rfl Z.g__law_more Z.F__law_more.kp Z.b__law_more (takes_of rfl rfl rfl rfl) (sa_cons (sv_var (pv 1)) (sa_cons (sv_int pe_int) sa_nil))))))
      (ss_cons (ss_if (st_cmp (op_neA (u64 hr)) og_ne (sv_lst (sa_cons (sv_call (ok_words_of Z) (hr.mono (by decide)) hgd rfl Z.g_words_of Z.F_words_of.kp Z.b_words_of (takes_of rfl rfl rfl rfl) (sa_cons (sv_str pe_str) sa_nil)) (sa_cons (sv_call (ok_is_name Z) (hr.mono (by decide)) hgd rfl Z.g_is_name Z.F_is_name.kp Z.b_is_name (takes_of rfl rfl rfl rfl) (sa_cons (sv_str pe_str) sa_nil)) (sa_cons (sv_call (ok_is_name Z) (hr.mono (by decide)) hgd rfl Z.g_is_name Z.F_is_name.kp Z.b_is_name (takes_of rfl rfl rfl rfl) (sa_cons (sv_str pe_str) sa_nil)) (sa_cons (sv_call (ok_number_in Z) (hr.mono (by decide)) hgd rfl Z.g_number_in Z.F_number_in.kp Z.b_number_in (takes_of rfl rfl rfl rfl) (sa_cons (sv_str pe_str) sa_nil)) (sa_cons (sv_call (ok_number_in Z) (hr.mono (by decide)) hgd rfl Z.g_number_in Z.F_number_in.kp Z.b_number_in (takes_of rfl rfl rfl rfl) (sa_cons (sv_str pe_str) sa_nil)) sa_nil)))))) (sv_lst (sa_cons (sv_fz (sv_lst (sa_cons (sv_str pe_str) (sa_cons (sv_str pe_str) sa_nil)))) (sa_cons (sv_bl pe_bl) (sa_cons (sv_bl pe_bl) (sa_cons (sv_non pe_non) (sa_cons (sv_int pe_int) sa_nil)))))) (nomark _)) (ss_one (ss_ret (sv_bl pe_bl))) ss_nil)
      (ss_cons (ss_for (passes_of rfl) rfl (si_r1 (pi_range1 rfl Z.z_range (sa_cons (sv_int pe_int) sa_nil))) (sg_name (pg_name (i := 2) sc_law.nd rfl (by first | exact .inl rfl | exact .inr rfl))) (ss_cons (ss_s (ps_set (i := 6) sc_law.nd rfl (by first | exact .inl rfl | exact .inr rfl) (sv_str1 sg_join (pe_bm PySem.F.plainAttrs_str PySem.F.slot_str_join PySem.F.type_str_join mt_join (sv_str pe_str) (sa_cons (sv_fz (sv_lc (own := [("at", 10)]) rfl sc_law.nd (si_r1 (pi_range1 rfl Z.z_range (sa_cons (sv_bin op_modN og_mod (sv_b cg_int (pe_callTy call_intA rfl Z.z_int bt_int (sa_cons (sv_call (ok__law_next Z) (hr.mono (by decide)) hgd rfl Z.g__law_next Z.F__law_next.kp Z.b__law_next (takes_of rfl rfl rfl rfl) (sa_cons (sv_var (pv 1)) sa_nil)) sa_nil))) (sv_int pe_int)) sa_nil))) (blkOk_by (N := N_law) (sc := (defScope s_law)) (by decide +kernel)) (fun _ _ _ _ _ => (sgw_name (by decide) (pg_name (i := 10) sc_law.nd rfl (by first | exact .inl rfl | exact .inr rfl)))) (fun _ _ _ _ _ => sts_nil) (fun _ _ _ _ _ => (sv_call (ok__law_pick Z) (hr.mono (by decide)) hgd rfl Z.g__law_pick Z.F__law_pick.kp Z.b__law_pick takes0 (sa_cons (sv_var (pv 1)) (sa_cons (sv_fz (sv_lst (sa_cons (sv_str pe_str) (sa_cons (sv_str pe_str) (sa_cons (sv_str pe_str) (sa_cons (sv_str pe_str) (sa_cons (sv_str pe_str) (sa_cons (sv_str pe_str) (sa_cons (sv_str pe_str) (sa_cons (sv_str pe_str) (sa_cons (sv_str pe_str) (sa_cons (sv_str pe_str) (sa_cons (sv_str pe_str) (sa_cons (sv_str pe_str) (sa_cons (sv_str pe_str) sa_nil))))))))))))))) sa_nil)))))) sa_nil)))))
      (ss_cons (ss_if (st_cmp (op_neA (u64 hr)) og_ne (sv_b cg_repr (pe_callB (call_reprA hgd (u65 hr)) rfl Z.z_repr bt_repr (sa_cons (sv_call (ok_words_of Z) (hr.mono (by decide)) hgd rfl Z.g_words_of Z.F_words_of.kp Z.b_words_of (takes_of rfl rfl rfl rfl) (sa_cons (sv_var (pv 6)) sa_nil)) sa_nil))) (sv_b cg_repr (pe_callB (call_reprA hgd (u65 hr)) rfl Z.z_repr bt_repr (sa_cons (sv_call (ok__law_line Z) (hr.mono (by decide)) hgd rfl Z.g__law_line Z.F__law_line.kp Z.b__law_line (takes_of rfl rfl rfl rfl) (sa_cons (sv_var (pv 6)) sa_nil)) sa_nil))) (nomark _)) (ss_one (ss_ret (sv_bl pe_bl))) ss_nil)
      (ss_cons (ss_s (ps_set (i := 7) sc_law.nd rfl (by first | exact .inl rfl | exact .inr rfl) (sv_str1 sg_join (pe_bm PySem.F.plainAttrs_str PySem.F.slot_str_join PySem.F.type_str_join mt_join (sv_str pe_str) (sa_cons (sv_fz (sv_lc (own := [("at", 10)]) rfl sc_law.nd (si_r1 (pi_range1 rfl Z.z_range (sa_cons (sv_bin op_modN og_mod (sv_b cg_int (pe_callTy call_intA rfl Z.z_int bt_int (sa_cons (sv_call (ok__law_next Z) (hr.mono (by decide)) hgd rfl Z.g__law_next Z.F__law_next.kp Z.b__law_next (takes_of rfl rfl rfl rfl) (sa_cons (sv_var (pv 1)) sa_nil)) sa_nil))) (sv_int pe_int)) sa_nil))) (blkOk_by (N := N_law) (sc := (defScope s_law)) (by decide +kernel)) (fun _ _ _ _ _ => (sgw_name (by decide) (pg_name (i := 10) sc_law.nd rfl (by first | exact .inl rfl | exact .inr rfl)))) (fun _ _ _ _ _ => sts_nil) (fun _ _ _ _ _ => (sv_call (ok__law_pick Z) (hr.mono (by decide)) hgd rfl Z.g__law_pick Z.F__law_pick.kp Z.b__law_pick takes0 (sa_cons (sv_var (pv 1)) (sa_cons (sv_fz (sv_lst (sa_cons (sv_str pe_str) (sa_cons (sv_str pe_str) (sa_cons (sv_str pe_str) (sa_cons (sv_str pe_str) (sa_cons (sv_str pe_str) (sa_cons (sv_str pe_str) (sa_cons (sv_str pe_str) (sa_cons (sv_str pe_str) (sa_cons (sv_str pe_str) sa_nil))))))))))) sa_nil)))))) sa_nil)))))
      (ss_cons (ss_s (ps_set (i := 8) sc_law.nd rfl (by first | exact .inl rfl | exact .inr rfl) (sv_and (sv_chain op_leA og_le op_leA og_le (sv_int pe_int) (sv_b cg_len (pe_callB call_len rfl Z.z_len bt_len (sa_cons (sv_var (pv 7)) sa_nil))) (sv_int pe_int)) (sv_one (sv_b cg_all (pe_callB (cr_all rfl) rfl Z.z_all bt_all (sa_cons (sv_fz (sv_lc (own := [("sign", 12)]) rfl sc_law.nd (si_any (sv_var (pv 7))) (blkOk_by (N := N_law) (sc := (defScope s_law)) (by decide +kernel)) (fun _ _ _ _ _ => (sgw_name (by decide) (pg_name (i := 12) sc_law.nd rfl (by first | exact .inl rfl | exact .inr rfl)))) (fun _ _ _ _ _ => sts_nil) (fun _ _ _ _ _ => (sv_cmp (op_inA (u65 hr)) og_in (sv_var (pv 12)) (sv_str pe_str) rfl)))) sa_nil)))))))
      (ss_one (ss_if (st_cmp (op_neA (u64 hr)) og_ne (sv_b cg_repr (pe_callB (call_reprA hgd (u65 hr)) rfl Z.z_repr bt_repr (sa_cons (sv_fz (sv_lst (sa_cons (sv_call (ok_is_name Z) (hr.mono (by decide)) hgd rfl Z.g_is_name Z.F_is_name.kp Z.b_is_name (takes_of rfl rfl rfl rfl) (sa_cons (sv_var (pv 7)) sa_nil)) (sa_cons (sv_call (ok_number_in Z) (hr.mono (by decide)) hgd rfl Z.g_number_in Z.F_number_in.kp Z.b_number_in (takes_of rfl rfl rfl rfl) (sa_cons (sv_var (pv 7)) sa_nil)) sa_nil)))) sa_nil))) (sv_b cg_repr (pe_callB (call_reprA hgd (u65 hr)) rfl Z.z_repr bt_repr (sa_cons (sv_fz (sv_lst (sa_cons (sv_var (pv 8)) (sa_cons (sv_call (ok__law_number_of Z) (hr.mono (by decide)) hgd rfl Z.g__law_number_of Z.F__law_number_of.kp Z.b__law_number_of (takes_of rfl rfl rfl rfl) (sa_cons (sv_var (pv 7)) sa_nil)) sa_nil)))) sa_nil))) (nomark _)) (ss_one (ss_ret (sv_bl pe_bl))) ss_nil)))))))
      (ss_cons (ss_if (st_cmp (op_neA (u64 hr)) og_ne (sv_lc (own := [("word", 7)]) rfl sc_law.nd (si_any (sv_lst (sa_cons (sv_str pe_str) (sa_cons (sv_str pe_str) (sa_cons (sv_str pe_str) (sa_cons (sv_str pe_str) (sa_cons (sv_str pe_str) (sa_cons (sv_str pe_str) (sa_cons (sv_str pe_str) (sa_cons (sv_str pe_str) (sa_cons (sv_str pe_str) sa_nil))))))))))) (blkOk_by (N := N_law) (sc := (defScope s_law)) (by decide +kernel)) (fun _ _ _ _ _ => (sgw_name (by decide) (pg_name (i := 7) sc_law.nd rfl (by first | exact .inl rfl | exact .inr rfl)))) (fun _ _ _ _ _ => sts_nil) (fun _ _ _ _ _ => (sv_b cg_repr (pe_callB (call_reprA hgd (u65 hr)) rfl Z.z_repr bt_repr (sa_cons (sv_call (ok_number_in Z) (hr.mono (by decide)) hgd rfl Z.g_number_in Z.F_number_in.kp Z.b_number_in takes0 (sa_cons (sv_var (pv 7)) sa_nil)) sa_nil))))) (sv_lst (sa_cons (sv_str pe_str) (sa_cons (sv_str pe_str) (sa_cons (sv_str pe_str) (sa_cons (sv_str pe_str) (sa_cons (sv_str pe_str) (sa_cons (sv_str pe_str) (sa_cons (sv_str pe_str) (sa_cons (sv_str pe_str) (sa_cons (sv_str pe_str) sa_nil)))))))))) (nomark _)) (ss_one (ss_ret (sv_bl pe_bl))) ss_nil)
      (ss_cons (ss_s (ps_set (i := 3) sc_law.nd rfl (by first | exact .inl rfl | exact .inr rfl) (sv_fz (sv_lst (sa_cons (sv_tup (sa_cons (sv_tup (sa_cons (sv_tup (sa_cons (sv_int pe_int) (sa_cons (sv_int pe_int) sa_nil))) sa_nil)) (sa_cons (sv_tup (sa_cons (sv_tup (sa_cons (sv_int pe_int) (sa_cons (sv_int pe_int) sa_nil))) sa_nil)) sa_nil))) (sa_cons (sv_tup (sa_cons (sv_tup (sa_cons (sv_tup (sa_cons (sv_int pe_int) (sa_cons (sv_int pe_int) sa_nil))) (sa_cons (sv_tup (sa_cons (sv_int pe_int) (sa_cons (sv_int pe_int) sa_nil))) sa_nil))) (sa_cons (sv_tup sa_nil) sa_nil))) (sa_cons (sv_tup (sa_cons (sv_tup (sa_cons (sv_int pe_int) (sa_cons (sv_int pe_int) sa_nil))) (sa_cons (sv_tup (sa_cons (sv_int pe_int) (sa_cons (sv_int pe_int) sa_nil))) sa_nil))) (sa_cons (sv_tup (sa_cons (sv_int pe_int) (sa_cons (sv_int pe_int) (sa_cons (sv_int pe_int) sa_nil)))) (sa_cons (sv_tup (sa_cons (sv_tup (sa_cons (sv_tup (sa_cons (sv_int pe_int) (sa_cons (sv_int pe_int) sa_nil))) (sa_cons (sv_int pe_int) sa_nil))) sa_nil)) sa_nil)))))))))
      (ss_cons (ss_for (passes_of rfl) rfl (si_any (sv_bin op_addA og_add (sv_bin op_addA og_add (sv_var (pv 3)) (sv_lc (own := [("turn", 2)]) rfl sc_law.nd (si_r1 (pi_range1 rfl Z.z_range (sa_cons (sv_int pe_int) sa_nil))) (blkOk_by (N := N_law) (sc := (defScope s_law)) (by decide +kernel)) (fun _ _ _ _ _ => (sgw_name (by decide) (pg_name (i := 2) sc_law.nd rfl (by first | exact .inl rfl | exact .inr rfl)))) (fun _ _ _ _ _ => sts_nil) (fun _ _ _ _ _ => (sv_call (ok__law_spoilt Z 8) (hr.mono (by decide)) hgd rfl Z.g__law_spoilt Z.F__law_spoilt.kp Z.b__law_spoilt takes0 (sa_cons (sv_var (pv 1)) (sa_cons (sv_call (ok__law_pick Z) (hr.mono (by decide)) hgd rfl Z.g__law_pick Z.F__law_pick.kp Z.b__law_pick takes0 (sa_cons (sv_var (pv 1)) (sa_cons (sv_var (pv 3)) sa_nil))) sa_nil)))))) (sv_lst (sa_cons (sv_tup sa_nil) (sa_cons (sv_non pe_non) (sa_cons (sv_str pe_str) (sa_cons (sv_int pe_int) sa_nil))))))) (sg_name (pg_name (i := 4) sc_law.nd rfl (by first | exact .inl rfl | exact .inr rfl))) (ss_one (ss_if (st_cmp (op_neA (u64 hr)) og_ne (sv_lc (own := [("thing", 11)]) rfl sc_law.nd (si_any (sv_lst (sa_cons (sv_str pe_str) (sa_cons (sv_str pe_str) (sa_cons (sv_str pe_str) (sa_cons (sv_str pe_str) (sa_cons (sv_str pe_str) sa_nil))))))) (blkOk_by (N := N_law) (sc := (defScope s_law)) (by decide +kernel)) (fun _ _ _ _ _ => (sgw_name (by decide) (pg_name (i := 11) sc_law.nd rfl (by first | exact .inl rfl | exact .inr rfl)))) (fun _ _ _ _ _ => sts_nil) (fun _ _ _ _ _ => (sv_call (ok_has_form Z) (hr.mono (by decide)) hgd rfl Z.g_has_form Z.F_has_form.kp Z.b_has_form takes0 (sa_cons (sv_var (pv 11)) (sa_cons (sv_var (pv 4)) sa_nil))))) (sv_lc (own := [("thing", 11)]) rfl sc_law.nd (si_any (sv_lst (sa_cons (sv_str pe_str) (sa_cons (sv_str pe_str) (sa_cons (sv_str pe_str) (sa_cons (sv_str pe_str) (sa_cons (sv_str pe_str) sa_nil))))))) (blkOk_by (N := N_law) (sc := (defScope s_law)) (by decide +kernel)) (fun _ _ _ _ _ => (sgw_name (by decide) (pg_name (i := 11) sc_law.nd rfl (by first | exact .inl rfl | exact .inr rfl)))) (fun _ _ _ _ _ => sts_nil) (fun _ _ _ _ _ => (sv_call (ok__law_due Z) (hr.mono (by decide)) hgd rfl Z.g__law_due Z.F__law_due.kp Z.b__law_due takes0 (sa_cons (sv_var (pv 11)) (sa_cons (sv_var (pv 4)) sa_nil))))) (nomark _)) (ss_one (ss_ret (sv_bl pe_bl))) ss_nil)))
      (ss_cons (ss_for (passes_of rfl) rfl (si_any (sv_lst (sa_cons (sv_str pe_str) (sa_cons (sv_str pe_str) (sa_cons (sv_str pe_str) sa_nil))))) (sg_name (pg_name (i := 5) sc_law.nd rfl (by first | exact .inl rfl | exact .inr rfl))) (ss_one (ss_tryR2 (i := 9) rfl rfl sc_law.nd rfl rfl ⟨rfl, by decide, .inl Z.gC_PlanError⟩ (takes_of rfl rfl rfl rfl) (okKind Z) (L2H_room hr (by decide)) Z.g__law_kind Z.F__law_kind.kp Z.b__law_kind rfl (fun _ _ _ => pv 9) (fun _ _ _ => rfl) (fun W pn xe tk pw => (ss_cons (ss_expr (sv_call (ok_has_form Z) (hr.mono (by decide)) hgd rfl Z.g_has_form Z.F_has_form.kp Z.b_has_form tk (sa_cons (sv_var (pv 5)) (sa_cons (sv_tup sa_nil) sa_nil))))
      (ss_one (ss_ret (sv_bl pe_bl))))))))
      (ss_one (ss_ret (sv_bl pe_bl)))))))))))
end
end G21

namespace G21
open PySem PySem.Spec PyProof.Rows L2 M M.PR

/-! ### the forms -/
def isRow : D → Bool
  | .tup ds => ds.all isIntD
  | _ => false
def arePairs : D → Bool
  | .tup ds => ds.all isRow
  | _ => false
def areRounds : D → Bool
  | .tup ds => ds.all arePairs
  | _ => false
def arePots : D → Bool
  | .tup [a, b] => arePairs a && arePairs b
  | _ => false
theorem run_is_integer {S : Sto} {d : D} (h : Gd d) : f_is_integer [.v d] S = .ok (.v (.bl (isIntD d))) S := by
  rw [show f_is_integer [.v d] S = leave S.length (body_is_integer [some (.v d)] S) from rfl]
  simp [body_is_integer, isi_int h.ok]
theorem all_tup {S : Sto} {ρ : MEnv} {i : Nat} {te : VM} {d : D} {p q : D → Bool} (h : Gd d) (h0 : ρ[0]? = some (some (.v d))) (hq : ∀ ds, q (.tup ds) = ds.all p) (hn : isTupD d = false → q d = false)
    (ht : ∀ ds, d = .tup ds → ∀ x ∈ ds, te ((wipeM ρ [i]).set i (some (.v x))) S = .ok (.v (.bl (p x))) S) :
    mAndV (mUn (isiD "tuple") (mV 0)) (mB (g1 allD) (mCons (mFz (mLC (mIt (mV 0)) (pN i) mYes te [i])) mNil)) ρ S = .ok (.v (.bl (q d))) S := by
  by_cases ht2 : isTupD d = true
  · obtain ⟨ds, rfl⟩ : ∃ ds, d = .tup ds := by
      cases d <;> first | (cases ht2; done) | exact ⟨_, rfl⟩
    have := all_lc (p := p) (it_tup h0) h.len (ht ds rfl)
    rw [mAndV_ap, mVB_ap, mUn_ap, mV_ap, h0]
    simp only [bind_ok, ap1_ap, pk_v, isi_tup h.ok, ht2, if_true]
    rw [this, hq]
  · have hf : isTupD d = false := by simpa using ht2
    rw [mAndV_ap, mVB_ap, mUn_ap, mV_ap, h0]
    simp [isi_tup h.ok, hf, hn hf]
theorem run_is_row {S : Sto} {d : D} (h : Gd d) : f_is_row [.v d] S = .ok (.v (.bl (isRow d))) S := by
  rw [show f_is_row [.v d] S = leave S.length (body_is_row [some (.v d), none] S) from rfl]
  have := all_tup (S := S) (ρ := [some (.v d), none]) (i := 1) (te := mCall f_is_integer (mCons (mV 1) mNil)) (p := isIntD) (q := isRow) h rfl (fun _ => rfl) (fun hf => by cases d <;> first | rfl | (cases hf; done)) fun ds e x hx => by
    subst e
    simp [wipe1, run_is_integer (h.mem hx)]
  rw [body_is_row, sRet_ap, this]
  simp
theorem run_are_pairs {S : Sto} {d : D} (h : Gd d) : f_are_pairs [.v d] S = .ok (.v (.bl (arePairs d))) S := by
  rw [show f_are_pairs [.v d] S = leave S.length (body_are_pairs [some (.v d), none] S) from rfl]
  have := all_tup (S := S) (ρ := [some (.v d), none]) (i := 1) (te := mCall f_is_row (mCons (mV 1) mNil)) (p := isRow) (q := arePairs) h rfl (fun _ => rfl) (fun hf => by cases d <;> first | rfl | (cases hf; done)) fun ds e x hx => by
    subst e
    simp [wipe1, run_is_row (h.mem hx)]
  rw [body_are_pairs, sRet_ap, this]
  simp
theorem run_are_rounds {S : Sto} {d : D} (h : Gd d) : f_are_rounds [.v d] S = .ok (.v (.bl (areRounds d))) S := by
  rw [show f_are_rounds [.v d] S = leave S.length (body_are_rounds [some (.v d), none] S) from rfl]
  have := all_tup (S := S) (ρ := [some (.v d), none]) (i := 1) (te := mCall f_are_pairs (mCons (mV 1) mNil)) (p := arePairs) (q := areRounds) h rfl (fun _ => rfl) (fun hf => by cases d <;> first | rfl | (cases hf; done)) fun ds e x hx => by
    subst e
    simp [wipe1, run_are_pairs (h.mem hx)]
  rw [body_are_rounds, sRet_ap, this]
  simp
theorem run_are_pots {S : Sto} {d : D} (h : Gd d) : f_are_pots [.v d] S = .ok (.v (.bl (arePots d))) S := by
  rw [show f_are_pots [.v d] S = leave S.length (body_are_pots [some (.v d)] S) from rfl]
  by_cases ht2 : isTupD d = true
  · obtain ⟨ds, rfl⟩ : ∃ ds, d = .tup ds := by
      cases d <;> first | (cases ht2; done) | exact ⟨_, rfl⟩
    have hlen : g1 lenD [.tup ds] = some (.v (.int ds.length)) := rfl
    by_cases h2 : ds.length = 2
    · obtain ⟨a, b, rfl⟩ : ∃ a b, ds = [a, b] := by
        match ds, h2 with
        | [a, b], _ => exact ⟨a, b, rfl⟩
      have ga := h.mem (d := a) (by simp)
      have gb := h.mem (d := b) (by simp)
      have i0 : gIx (.tup [a, b]) (.int 0) = some (.v a) := rfl
      have i1 : gIx (.tup [a, b]) (.int 1) = some (.v b) := rfl
      cases hp : arePairs a <;> simp [body_are_pots, isi_tup h.ok, isTupD, hlen, i0, i1, run_are_pairs ga, run_are_pairs gb, arePots, hp]
    · have hp : arePots (.tup ds) = false := by
        match ds, h2 with
        | [], _ => rfl
        | [_], _ => rfl
        | [_, _], h => exact absurd rfl h
        | _ :: _ :: _ :: _, _ => rfl
      have h3 : ¬ ((ds.length : Int) = 2) := by omega
      simp [body_are_pots, isi_tup h.ok, isTupD, hlen, h3, hp]
  · have hf : isTupD d = false := by simpa using ht2
    have hp : arePots d = false := by cases d <;> first | rfl | (cases hf; done)
    simp [body_are_pots, isi_tup h.ok, hf, hp]
/-- what the form asks -/
def form (thing : PySem.Str) (d : D) : Bool := if thing = "row" then isRow d else if thing = "pairs" then arePairs d else if thing = "pots" then arePots d else areRounds d
def things : List PySem.Str := ["plan", "chances", "pairs", "pots", "row"]
theorem run_has_form {S : Sto} {t : PySem.Str} {d : D} (ht : t ∈ things) (h : Gd d) : f_has_form [.v (.str t), .v d] S = .ok (.v (.bl (form t d))) S := by
  rw [show f_has_form [.v (.str t), .v d] S = leave S.length (body_has_form [some (.v (.str t)), some (.v d)] S) from rfl]
  simp only [things, List.mem_cons, List.not_mem_nil, or_false] at ht
  have l1 : ftab_has_form.lookup ("are_rounds" : PySem.Str) = some f_are_rounds := rfl
  have l2 : ftab_has_form.lookup ("are_pairs" : PySem.Str) = some f_are_pairs := rfl
  have l3 : ftab_has_form.lookup ("are_pots" : PySem.Str) = some f_are_pots := rfl
  have l4 : ftab_has_form.lookup ("is_row" : PySem.Str) = some f_is_row := rfl
  rcases ht with rfl | rfl | rfl | rfl | rfl
  · have t1 : tab_FORMS.lookup ("plan" : PySem.Str) = some "are_rounds" := rfl
    have e : form "plan" d = areRounds d := rfl
    simp [body_has_form, t1, l1, run_are_rounds h, e]
  · have t1 : tab_FORMS.lookup ("chances" : PySem.Str) = some "are_rounds" := rfl
    have e : form "chances" d = areRounds d := rfl
    simp [body_has_form, t1, l1, run_are_rounds h, e]
  · have t1 : tab_FORMS.lookup ("pairs" : PySem.Str) = some "are_pairs" := rfl
    have e : form "pairs" d = arePairs d := rfl
    simp [body_has_form, t1, l2, run_are_pairs h, e]
  · have t1 : tab_FORMS.lookup ("pots" : PySem.Str) = some "are_pots" := rfl
    have e : form "pots" d = arePots d := rfl
    simp [body_has_form, t1, l3, run_are_pots h, e]
  · have t1 : tab_FORMS.lookup ("row" : PySem.Str) = some "is_row" := rfl
    have e : form "row" d = isRow d := rfl
    simp [body_has_form, t1, l4, run_is_row h, e]
theorem run_is_row2 {S : Sto} {d : D} (h : Gd d) : f__law_is_row [.v d] S = .ok (.v (.bl (isRow d))) S := by
  rw [show f__law_is_row [.v d] S = leave S.length (body__law_is_row [some (.v d), none] S) from rfl]
  have := all_tup (S := S) (ρ := [some (.v d), none]) (i := 1) (te := mUn (isiD "int") (mV 1)) (p := isIntD) (q := isRow) h rfl (fun _ => rfl) (fun hf => by cases d <;> first | rfl | (cases hf; done)) fun ds e x hx => by
    subst e
    simp [wipe1, isi_int (h.mem hx).ok]
  rw [body__law_is_row, sRet_ap, this]
  simp
theorem and_tup {S : Sto} {ρ : MEnv} {i j : Nat} {te : VM} {d : D} {p q : D → Bool} (h : Gd d) (h0 : ρ[j]? = some (some (.v d))) (hq : ∀ ds, q (.tup ds) = ds.all p) (hn : isTupD d = false → q d = false)
    (ht : ∀ ds, d = .tup ds → ∀ x ∈ ds, te ((wipeM ρ [i]).set i (some (.v x))) S = .ok (.v (.bl (p x))) S) :
    mAndV (mUn (isiD "tuple") (mV j)) (mB (g1 allD) (mCons (mFz (mLC (mIt (mV j)) (pN i) mYes te [i])) mNil)) ρ S = .ok (.v (.bl (q d))) S := by
  by_cases ht2 : isTupD d = true
  · obtain ⟨ds, rfl⟩ : ∃ ds, d = .tup ds := by
      cases d <;> first | (cases ht2; done) | exact ⟨_, rfl⟩
    have := all_lc (p := p) (it_tup h0) h.len (ht ds rfl)
    rw [mAndV_ap, mVB_ap, mUn_ap, mV_ap, h0]
    simp only [bind_ok, ap1_ap, pk_v, isi_tup h.ok, ht2, if_true]
    rw [this, hq]
  · have hf : isTupD d = false := by simpa using ht2
    rw [mAndV_ap, mVB_ap, mUn_ap, mV_ap, h0]
    simp [isi_tup h.ok, hf, hn hf]
theorem run_due {S : Sto} {t : PySem.Str} {d : D} (ht : t ∈ things) (h : Gd d) : f__law_due [.v (.str t), .v d] S = .ok (.v (.bl (form t d))) S := by
  rw [show f__law_due [.v (.str t), .v d] S = leave S.length (body__law_due [some (.v (.str t)), some (.v d), none, none] S) from rfl]
  by_cases hr : t = "row"
  · subst hr
    have e : form "row" d = isRow d := rfl
    simp [body__law_due, run_is_row2 h, e]
  by_cases ht2 : isTupD d = true
  · obtain ⟨ds, rfl⟩ : ∃ ds, d = .tup ds := by
      cases d <;> first | (cases ht2; done) | exact ⟨_, rfl⟩
    by_cases hp : t = "pairs"
    · subst hp
      have e : form "pairs" (.tup ds) = ds.all isRow := rfl
      have e1 : (("pairs" : PySem.Str) = "row") = False := by simp; decide
      have := all_lc (S := S) (ρ := [some (.v (.str "pairs")), some (.v (.tup ds)), none, none]) (i := 3) (te := mCall f__law_is_row (mCons (mV 3) mNil)) (p := isRow) (it_tup (j := 1) rfl) h.len fun x hx => by
        simp [wipe1, run_is_row2 (h.mem hx)]
      rw [body__law_due]
      simp only [sSeq_ap, sIf_ap, mTB_ap, mOp_ap, mV_ap, mC_ap, List.getElem?_cons_zero, bind_ok, ap2_ap, pk_v, gEq_str, e1, decide_false, asB_ok1, ofR_ok, Bool.false_eq_true, if_false, sSkip_ap, mNot_ap, mTru_ap, mUn_ap, ap1_ap, List.getElem?_cons_succ, isi_tup h.ok, ht2, truB, Bool.not_true, decide_true, if_true, sRet_ap, this, e]
      simp
    · have e : form t (.tup ds) = if t = "pots" then arePots (.tup ds) else ds.all arePairs := by
        unfold form
        rw [if_neg hr, if_neg hp]
        rfl
      have fin : mB (g1 allD) (mCons (mFz (mLC (mIt (mV 1)) (pN 2) mYes (mAndV (mUn (isiD "tuple") (mV 2)) (mB (g1 allD) (mCons (mFz (mLC (mIt (mV 2)) (pN 3) mYes (mCall f__law_is_row (mCons (mV 3) mNil)) [3])) mNil))) [2])) mNil) [some (.v (.str t)), some (.v (.tup ds)), none, none] S = .ok (.v (.bl (ds.all arePairs))) S :=
        all_lc (p := arePairs) (it_tup (j := 1) rfl) h.len fun x hx => and_tup (p := isRow) (q := arePairs) (d := x) (h.mem hx) (by simp [wipe1]) (fun _ => rfl) (fun hf => by cases x <;> first | rfl | (cases hf; done)) fun es he y hy => by
          subst he
          simp [wipe1, run_is_row2 ((h.mem hx).mem hy)]
      have hlen : g1 lenD [.tup ds] = some (.v (.int ds.length)) := rfl
      by_cases hpo : t = "pots"
      · subst hpo
        rw [if_pos rfl] at e
        by_cases h2 : ds.length = 2
        · obtain ⟨a, b, rfl⟩ : ∃ a b, ds = [a, b] := by
            match ds, h2 with
            | [a, b], _ => exact ⟨a, b, rfl⟩
          have e5 : arePots (.tup [a, b]) = [a, b].all arePairs := by simp [arePots]
          have el : mB (g1 lenD) (mCons (mV 1) mNil) [some (.v (.str "pots")), some (.v (.tup [a, b])), none, none] S = .ok (.v (.int 2)) S := rfl
          rw [body__law_due]
          simp only [sSeq_ap, sIf_ap, mTB_ap, mOp_ap, mV_ap, mC_ap, List.getElem?_cons_zero, bind_ok, ap2_ap, pk_v, gEq_str, gNe_int, hr, hp, decide_false, asB_ok1, ofR_ok, Bool.false_eq_true, if_false, sSkip_ap, mNot_ap, mTru_ap, mUn_ap, ap1_ap, List.getElem?_cons_succ, isi_tup h.ok, ht2, truB, Bool.not_true, decide_true, if_true, sRet_ap, mAnd_ap, el, fin, e, e5]
          simp
        · have h3 : ¬ ((ds.length : Int) = 2) := by omega
          have e5 : arePots (.tup ds) = false := by
            match ds, h2 with
            | [], _ => rfl
            | [_], _ => rfl
            | [_, _], h => exact absurd rfl h
            | _ :: _ :: _ :: _, _ => rfl
          simp [body__law_due, hr, hp, isi_tup h.ok, ht2, truB, hlen, h3, e, e5]
      · rw [if_neg hpo] at e
        rw [body__law_due]
        simp only [sSeq_ap, sIf_ap, mTB_ap, mOp_ap, mV_ap, mC_ap, List.getElem?_cons_zero, bind_ok, ap2_ap, pk_v, gEq_str, hr, hp, hpo, decide_false, asB_ok1, ofR_ok, Bool.false_eq_true, if_false, sSkip_ap, mNot_ap, mTru_ap, mUn_ap, ap1_ap, List.getElem?_cons_succ, isi_tup h.ok, ht2, truB, Bool.not_true, sRet_ap, mAnd_ap, fin, e]
        simp
  · have hf : isTupD d = false := by simpa using ht2
    have e : form t d = false := by
      unfold form
      rw [if_neg hr]
      cases d <;> first | (simp [arePairs, arePots, areRounds]; done) | (cases hf; done)
    simp [body__law_due, hr, isi_tup h.ok, hf, truB, e]
end G21

namespace G21
open PySem PySem.Spec PyProof.Rows L2 M M.PR

theorem nx {n : Nat} {T : Sto} (h : AtD T n) : ∃ (i : Int) (T' : Sto), f__law_next [.l n] T = .ok (.v (.int i)) T' ∧ Stp n T T' ∧ 0 ≤ i ∧ i < 1000 := PR.next_ok h
theorem pk1 {n : Nat} {T : Sto} {xs : List D} (h : AtD T n) (hx : xs ≠ []) (hl : xs.length ≤ 100000) : ∃ (x : D) (S' : Sto), f__law_pick [.l n, .v (.lst xs)] T = .ok (.v x) S' ∧ Stp n T S' ∧ x ∈ xs := PR.pick_ok h hx hl
/-- what spoilt makes of d -/
structure Sp (d x : D) : Prop where
  ok : x.ok = true
  dep : x.dep ≤ d.dep + 2
  wt : x.wt ≤ 2 * d.wt + 50
theorem oks_mem {ds es : List D} (h : ∀ x ∈ es, x ∈ ds) (ho : D.oks ds = true) : D.oks es = true := oks_iff.mpr fun x hx => oks_iff.mp ho x (h x hx)
theorem run_spoilt {n : Nat} : ∀ (k : Nat) (d : D) (S : Sto), AtD S n → d.ok = true → d.dep < k → d.dep ≤ 20 → d.wt ≤ 10000 → ∃ (x : D) (S' : Sto), f__law_spoilt k [.l n, .v d] S = .ok (.v x) S' ∧ Stp n S S' ∧ Sp d x
  | 0, d, S, _, _, h, _, _ => by omega
  | k + 1, d, S, hA, ho, hk, hd, hw => by
    rw [show f__law_spoilt (k + 1) [.l n, .v d] S = leave S.length (body__law_spoilt (f__law_spoilt k) [some (.l n), some (.v d), none, none] S) from rfl]
    have gd : Gd d := ⟨ho, by omega, by omega⟩
    have l9 : (9 : Nat) ≤ lim := le_lim (by omega)
    have l4 : (4 : Nat) ≤ lim := le_lim (by omega)
    have l1 : (1 : Nat) ≤ lim := le_lim (by omega)
    -- the first list
    have pick9 : ∀ T, AtD T n → ∃ (x : D) (S' : Sto), f__law_pick [.l n, .v (.lst [.non, .str "ada", .str "", .int 5, .tup [], .tup [.int 1], .tup [.tup []], .tup [.str "a"], d])] T = .ok (.v x) S' ∧ Stp n T S' ∧ Sp d x := by
      intro T hT
      obtain ⟨x, S', e, s, hx⟩ := pk1 (xs := [.non, .str "ada", .str "", .int 5, .tup [], .tup [.int 1], .tup [.tup []], .tup [.str "a"], d]) hT (by simp) (by simp)
      refine ⟨x, S', e, s, ?_⟩
      simp only [List.mem_cons, List.not_mem_nil, or_false] at hx
      rcases hx with rfl | rfl | rfl | rfl | rfl | rfl | rfl | rfl | rfl
      · exact ⟨rfl, by simp [D.dep], by simp [D.wt]⟩
      · exact ⟨by decide +kernel, by simp [D.dep], Nat.le_trans (by decide +kernel : D.wt (.str "ada") ≤ 50) (by omega)⟩
      · exact ⟨by decide +kernel, by simp [D.dep], Nat.le_trans (by decide +kernel : D.wt (.str "") ≤ 50) (by omega)⟩
      · exact ⟨by decide +kernel, by simp [D.dep], by simp [D.wt]⟩
      · exact ⟨rfl, by simp [D.dep, D.deps], by simp [D.wt, D.wts]⟩
      · exact ⟨by decide +kernel, by simp [D.dep, D.deps], by simp [D.wt, D.wts]⟩
      · exact ⟨rfl, by simp [D.dep, D.deps], by simp [D.wt, D.wts]⟩
      · exact ⟨by decide +kernel, by simp [D.dep, D.deps], Nat.le_trans (by decide +kernel : D.wt (.tup [.str "a"]) ≤ 50) (by omega)⟩
      · exact ⟨ho, by omega, by omega⟩
    have pick4 : ∀ T, AtD T n → ∃ (x : D) (S' : Sto), f__law_pick [.l n, .v (.lst [.tup [.int 0], .tup [.str ""], .tup [.tup []], .non])] T = .ok (.v x) S' ∧ Stp n T S' ∧ Sp d x := by
      intro T hT
      obtain ⟨x, S', e, s, hx⟩ := pk1 (xs := [.tup [.int 0], .tup [.str ""], .tup [.tup []], .non]) hT (by simp) (by simp)
      refine ⟨x, S', e, s, ?_⟩
      simp only [List.mem_cons, List.not_mem_nil, or_false] at hx
      rcases hx with rfl | rfl | rfl | rfl
      · exact ⟨by decide +kernel, by simp [D.dep, D.deps], by simp [D.wt, D.wts]⟩
      · exact ⟨by decide +kernel, by simp [D.dep, D.deps], Nat.le_trans (by decide +kernel : D.wt (.tup [.str ""]) ≤ 50) (by omega)⟩
      · exact ⟨rfl, by simp [D.dep, D.deps], by simp [D.wt, D.wts]⟩
      · exact ⟨rfl, by simp [D.dep], by simp [D.wt]⟩
    by_cases ht2 : isTupD d = true
    · obtain ⟨ds, rfl⟩ : ∃ ds, d = .tup ds := by
        cases d <;> first | (cases ht2; done) | exact ⟨_, rfl⟩
      have hoks : D.oks ds = true := by simpa only [D.ok] using ho
      have hdep : D.deps ds + 1 = (D.tup ds).dep := by simp only [D.dep]
      have hwt : D.wts ds = (D.tup ds).wt := by simp only [D.wt]
      have hlen := wts_len ds
      obtain ⟨i1, S1, e1, s1, _, _⟩ := nx hA
      have a1 := s1.at_ hA
      by_cases h6 : i1.fmod 6 = 0
      · obtain ⟨x, S', e, s, hx⟩ := pick9 S1 a1
        refine ⟨x, S', ?_, s1.trans s, hx⟩
        have hl : S'.length = S.length := (s1.trans s).length
        simp [body__law_spoilt, isi_tup ho, isTupD, truB, e1, gMod_int, h6, l9, l1, e, ← hl]
      · by_cases he : ds = []
        · subst he
          obtain ⟨x, S', e, s, hx⟩ := pick4 S1 a1
          refine ⟨x, S', ?_, s1.trans s, hx⟩
          have hl : S'.length = S.length := (s1.trans s).length
          have eq0 : gEq (.tup []) (.tup []) = some (.v (.bl true)) := by rw [gEq_tup_nil gd]; rfl
          simp [body__law_spoilt, isi_tup ho, isTupD, truB, e1, gMod_int, h6, l4, l1, eq0, e, ← hl]
        · have hb : ds.isEmpty = false := by
            cases ds with
            | nil => exact absurd rfl he
            | cons a r => rfl
          have eq0 : gEq (.tup ds) (.tup []) = some (.v (.bl false)) := by rw [gEq_tup_nil gd, hb]
          have hp : 0 < ds.length := List.length_pos_iff.mpr he
          obtain ⟨i2, S2, e2, s2, _, _⟩ := nx a1
          have a2 := s2.at_ a1
          obtain ⟨j, ej, hj⟩ := fmod_len (i := i2) hp
          obtain ⟨i3, S3, e3, s3, _, _⟩ := nx a2
          have a3 := s3.at_ a2
          have s13 := s1.trans (s2.trans s3)
          have hl3 : S3.length = S.length := s13.length
          have hne : (ds.length : Int) ≠ 0 := by omega
          have len : g1 lenD [.tup ds] = some (.v (.int ds.length)) := rfl
          have gm : gMod (.int i2) (.int ds.length) = some (.v (.int j)) := by rw [gMod_int hne, ej]
          have c1 : gSl none (some (j : Int)) (.tup ds) = some (.v (.tup (ds.take j))) := by
            show some (Val.v (.tup (cutD ds none (some (j : Int))))) = _
            rw [cut_to (by omega)]
          have c2 : gSl (some ((j : Int) + 1)) none (.tup ds) = some (.v (.tup (ds.drop (j + 1)))) := by
            show some (Val.v (.tup (cutD ds (some ((j : Int) + 1)) none))) = _
            rw [show ((j : Int) + 1) = ((j + 1 : Nat) : Int) by omega, cut_from (by omega)]
          have c3 : gSl (some (j : Int)) (some ((j : Int) + 1)) (.tup ds) = some (.v (.tup [ds[j]])) := by
            show some (Val.v (.tup (cutD ds (some (j : Int)) (some ((j : Int) + 1))))) = _
            rw [cut_one hj]
          have c4 : gIx (.tup ds) (.int j) = some (.v ds[j]) := by
            show (L2.atI ds (j : Int)).map _ = _
            rw [atI_ofNat hj]
            rfl
          have mj : ds[j] ∈ ds := List.getElem_mem hj
          have okj : ds[j].ok = true := oks_iff.mp hoks _ mj
          have depj : ds[j].dep ≤ D.deps ds := (deps_le (ds := ds)).mp (Nat.le_refl _) _ mj
          have wtj := wts_mem mj
          have l5 : (ds.take j).length + (ds.drop (j + 1)).length ≤ lim := le_lim (by simp; omega)
          have l6 : ds.length + [ds[j]].length ≤ lim := le_lim (by simp; omega)
          have l7 : (ds.take j).length + [ds[j]].length ≤ lim := le_lim (by simp; omega)
          have sub1 : (ds.take j ++ ds.drop (j + 1)).Sublist ds := by
            have := List.Sublist.append (List.Sublist.refl (ds.take j)) ((List.drop_sublist_drop_left ds (show j ≤ j + 1 by omega)))
            rwa [List.take_append_drop] at this
          by_cases k0 : i3.fmod 5 = 0
          · refine ⟨.tup (ds.take j ++ ds.drop (j + 1)), S3, ?_, s13, ?_, ?_, ?_⟩
            · simp [body__law_spoilt, isi_tup ho, isTupD, truB, e1, e2, e3, gMod_int, h6, l4, l1, eq0, len, gm, k0, c1, c2, gAdd_tup l5, ← hl3]
            · simp only [D.ok]
              exact oks_mem (fun x hx => sub1.subset hx) hoks
            · rw [← hdep]
              simp only [D.dep]
              have : D.deps (ds.take j ++ ds.drop (j + 1)) ≤ D.deps ds := deps_le.mpr fun x hx => (deps_le (ds := ds)).mp (Nat.le_refl _) x (sub1.subset hx)
              omega
            · rw [← hwt]
              simp only [D.wt]
              have := wts_sub sub1
              omega
          · by_cases k1 : i3.fmod 5 = 1
            · refine ⟨.tup (ds ++ [ds[j]]), S3, ?_, s13, ?_, ?_, ?_⟩
              · simp [body__law_spoilt, isi_tup ho, isTupD, truB, e1, e2, e3, gMod_int, h6, l4, l1, eq0, len, gm, k0, k1, c3, gAdd_tup l6, ← hl3]
              · simp only [D.ok]
                exact oks_mem (ds := ds) (fun x hx => by
                  rcases List.mem_append.mp hx with hx | hx
                  · exact hx
                  · rw [List.mem_singleton] at hx
                    rw [hx]; exact mj) hoks
              · rw [← hdep]
                simp only [D.dep]
                have : D.deps (ds ++ [ds[j]]) ≤ D.deps ds := deps_le.mpr fun x hx => (deps_le (ds := ds)).mp (Nat.le_refl _) x (by
                  rcases List.mem_append.mp hx with hx | hx
                  · exact hx
                  · rw [List.mem_singleton] at hx
                    rw [hx]; exact mj)
                omega
              · rw [← hwt]
                simp only [D.wt, wts_append, D.wts]
                omega
            · obtain ⟨x, S4, e4, s4, hx⟩ := run_spoilt k ds[j] S3 a3 okj (by omega) (by omega) (by omega)
              have s14 := s13.trans s4
              have hl4 : S4.length = S.length := s14.length
              have l8 : (ds.take j).length + [x].length ≤ lim := le_lim (by simp; omega)
              have l10 : (ds.take j ++ [x]).length + (ds.drop (j + 1)).length ≤ lim := le_lim (by simp; omega)
              refine ⟨.tup (ds.take j ++ [x] ++ ds.drop (j + 1)), S4, ?_, s14, ?_, ?_, ?_⟩
              · simp [body__law_spoilt, isi_tup ho, isTupD, truB, e1, e2, e3, gMod_int, h6, l4, l1, eq0, len, gm, k0, k1, c1, c2, c4, e4, gAdd_tup l8, gAdd_tup l10, ← hl4]
              · simp only [D.ok]
                refine oks_iff.mpr fun y hy => ?_
                rcases List.mem_append.mp hy with hy | hy
                · rcases List.mem_append.mp hy with hy | hy
                  · exact oks_iff.mp hoks y (List.mem_of_mem_take hy)
                  · rw [List.mem_singleton] at hy
                    rw [hy]; exact hx.ok
                · exact oks_iff.mp hoks y (List.mem_of_mem_drop hy)
              · rw [← hdep]
                simp only [D.dep]
                have hb := hx.dep
                have : D.deps (ds.take j ++ [x] ++ ds.drop (j + 1)) ≤ D.deps ds + 2 := deps_le.mpr fun y hy => by
                  have all := (deps_le (ds := ds)).mp (Nat.le_refl _)
                  rcases List.mem_append.mp hy with hy | hy
                  · rcases List.mem_append.mp hy with hy | hy
                    · have := all y (List.mem_of_mem_take hy)
                      omega
                    · rw [List.mem_singleton] at hy
                      rw [hy]
                      omega
                  · have := all y (List.mem_of_mem_drop hy)
                    omega
                omega
              · rw [← hwt]
                have hb := hx.wt
                have w1 : D.wts ds = D.wts (ds.take j) + (ds[j].wt + 1) + D.wts (ds.drop (j + 1)) := by
                  have := congrArg D.wts (List.take_append_drop j ds)
                  rw [wts_append, List.drop_eq_getElem_cons hj] at this
                  simp only [D.wts] at this
                  omega
                simp only [D.wt, wts_append, D.wts]
                omega
    · have hf : isTupD d = false := by simpa using ht2
      obtain ⟨x, S', e, s, hx⟩ := pick9 S hA
      refine ⟨x, S', ?_, s, hx⟩
      have hl : S'.length = S.length := s.length
      simp [body__law_spoilt, isi_tup ho, hf, truB, l9, l1, e, ← hl]
end G21

namespace G21
open PySem PySem.Spec PyProof.Rows L2 M M.PR

/-! ### names -/
abbrev SM_ : PySem.Str := "abcdefghijklmnopqrstuvwxyz"
abbrev FG_ : PySem.Str := "0123456789"
def allIn (w z : PySem.Str) : Bool := z.cps.toList.all fun c => decide (c ∈ w.cps.toList)
theorem all_in {w z : PySem.Str} {ρ : MEnv} {S : Sto} {i j : Nat} (hz : z.length ≤ lim) (hj : ρ[j]? = some (some (.v (.str z)))) (hi : i < ρ.length) :
    mB (g1 allD) (mCons (mFz (mLC (mIt (mV j)) (pN i) mYes (mOp (gIn false) (mV i) (mC (.str w))) [i])) mNil) ρ S = .ok (.v (.bl (allIn w z))) S := by
  unfold allIn
  rw [← chars_all]
  refine all_lc (it_str hj) (by rw [chars_len]; exact hz) fun d hd => ?_
  obtain ⟨c, hc, rfl⟩ := chars_mem hd
  simp [wipe1, hi, gIn_c]
  rfl
theorem le_chain {z : PySem.Str} {ρ : MEnv} {S : Sto} {j : Nat} {k : Int} (hz : z.length ≤ lim) (hj : ρ[j]? = some (some (.v (.str z)))) :
    mChain gLe gLe (mC (.int 1)) (mB (g1 lenD) (mCons (mV j) mNil)) (mC (.int k)) ρ S = .ok (.v (.bl (decide (1 ≤ (z.length : Int)) && decide ((z.length : Int) ≤ k)))) S := by
  by_cases h1 : (1 : Int) ≤ z.length
  · simp [hj, len_str hz, h1]
  · simp [hj, len_str hz, h1]
def nameB (z : PySem.Str) : Bool := (decide (1 ≤ (z.length : Int)) && decide ((z.length : Int) ≤ 12)) && allIn SM_ z
theorem name_val {z : PySem.Str} {ρ : MEnv} {S : Sto} {i j : Nat} (hz : z.length ≤ lim) (hj : ρ[j]? = some (some (.v (.str z)))) (hi : i < ρ.length) :
    mAndV (mChain gLe gLe (mC (.int 1)) (mB (g1 lenD) (mCons (mV j) mNil)) (mC (.int 12))) (mB (g1 allD) (mCons (mFz (mLC (mIt (mV j)) (pN i) mYes (mOp (gIn false) (mV i) (mC (.str SM_))) [i])) mNil)) ρ S = .ok (.v (.bl (nameB z))) S := by
  rw [mAndV_ap, mVB_ap, le_chain hz hj]
  dsimp only [bind_ok]
  by_cases h : (decide (1 ≤ (z.length : Int)) && decide ((z.length : Int) ≤ 12)) = true
  · rw [if_pos h, all_in hz hj hi]
    unfold nameB
    rw [h, Bool.true_and]
  · rw [if_neg h]
    unfold nameB
    have : (decide (1 ≤ (z.length : Int)) && decide ((z.length : Int) ≤ 12)) = false := by simpa using h
    rw [this, Bool.false_and]
theorem run_is_name {z : PySem.Str} {S : Sto} (hz : z.length ≤ lim) : f_is_name [.v (.str z)] S = .ok (.v (.bl (nameB z))) S := by
  rw [show f_is_name [.v (.str z)] S = leave S.length (body_is_name [some (.v (.str z)), none] S) from rfl]
  rw [body_is_name, sRet_ap, name_val hz rfl (by simp)]
  simp
/-! ### numbers -/
def condIn (z : PySem.Str) : Bool := ((decide (1 ≤ (z.length : Int)) && decide ((z.length : Int) ≤ 2)) && allIn FG_ z) && !(decide ((z.length : Int) = 2) && (match z.cps.toList with
  | c :: _ => decide ((⟨#[c]⟩ : PySem.Str) = "0")
  | [] => false))
def numD (z : PySem.Str) : D := match PySem.intText? z with
  | some n => .int n
  | none => .non
def st (k : Nat) : PySem.Str := toString ((0 : Int) + (k : Nat))
def hasB (z : PySem.Str) : Bool := (List.range 100).any fun k => decide (st k = z)
theorem st_len : ∀ k < 100, 1 ≤ (st k).length ∧ (st k).length ≤ 2 := by decide +kernel
theorem st_cond : ∀ k < 100, condIn (st k) = true := by decide +kernel
theorem st_int : ∀ k < 100, (PySem.intText? (st k)).isSome = true ∧ PySem.intText? (st k) = some (k : Int) := by decide +kernel
theorem dig1 : ∀ a < 10, hasB ⟨#[48 + a]⟩ = true := by decide +kernel
theorem dig2 : ∀ a < 10, ∀ b < 10, a ≠ 0 → hasB ⟨#[48 + a, 48 + b]⟩ = true := by decide +kernel
theorem fig_mem {c : Nat} (h : decide (c ∈ FG_.cps.toList) = true) : ∃ a, a < 10 ∧ c = 48 + a := by
  have : c ∈ ([48, 49, 50, 51, 52, 53, 54, 55, 56, 57] : List Nat) := of_decide_eq_true h
  simp only [List.mem_cons, List.not_mem_nil, or_false] at this
  exact ⟨c - 48, by omega, by omega⟩
theorem hasB_iff {z : PySem.Str} : hasB z = true ↔ ∃ k, k < 100 ∧ st k = z := by
  unfold hasB
  simp
theorem cond_has (z : PySem.Str) : condIn z = hasB z := by
  rw [Bool.eq_iff_iff]
  refine ⟨fun h => ?_, fun h => ?_⟩
  · obtain ⟨cs⟩ := z
    unfold condIn at h
    simp only [Bool.and_eq_true, decide_eq_true_eq] at h
    obtain ⟨⟨⟨h1, h2⟩, h3⟩, h4⟩ := h
    have hl : (⟨cs⟩ : PySem.Str).length = cs.toList.length := rfl
    have e : cs = ⟨cs.toList⟩ := rfl
    generalize hcs : cs.toList = l at *
    subst e
    rw [hl] at h1 h2 h4
    unfold allIn at h3
    rw [List.all_eq_true] at h3
    match l, h1, h2 with
    | [], h1, _ => simp at h1
    | [c], _, _ =>
      obtain ⟨a, ha, rfl⟩ := fig_mem (h3 c (by simp [hcs]))
      exact dig1 a ha
    | [c, d], _, _ =>
      obtain ⟨a, ha, rfl⟩ := fig_mem (h3 c (by simp [hcs]))
      obtain ⟨b, hb, rfl⟩ := fig_mem (h3 d (by simp [hcs]))
      refine dig2 a ha b hb fun h0 => ?_
      subst h0
      simp at h4
      exact h4 (by decide)
    | _ :: _ :: _ :: r, _, h2 =>
      simp at h2
      omega
  · obtain ⟨k, hk, rfl⟩ := hasB_iff.mp h
    exact st_cond k hk
theorem run_number_in {z : PySem.Str} {S : Sto} (hz : z.length ≤ lim) : f_number_in [.v (.str z)] S = .ok (.v (if hasB z then numD z else .non)) S := by
  rw [show f_number_in [.v (.str z)] S = leave S.length (body_number_in [some (.v (.str z)), none] S) from rfl]
  have t1 := le_chain (ρ := [some (.v (.str z)), none]) (S := S) (j := 0) (k := 2) hz rfl
  have t2 := all_in (w := FG_) (ρ := [some (.v (.str z)), none]) (S := S) (j := 0) (i := 1) hz rfl (by simp)
  have main : body_number_in [some (.v (.str z)), none] S = .rt (.v (if condIn z then numD z else .non)) S := by
    rw [body_number_in]
    simp only [sSeq_ap, sIf_ap, mOr_ap, mNot_ap, mTB_ap, t1, asB_ok1, bind_ok, mTru_ap, t2, pk_v, truB]
    by_cases hl : (decide (1 ≤ (z.length : Int)) && decide ((z.length : Int) ≤ 2)) = true
    · by_cases ha : allIn FG_ z = true
      · simp only [hl, ha, Bool.not_true, Bool.false_eq_true, if_false, ofR_ok, sSkip_ap, mAnd_ap, mTB_ap, mOp_ap, mB_ap, mCons_ap, mV_ap, List.getElem?_cons_zero, bind_ok, mNil_ap, apN_ap, pks_cons, pks_nil, pk_v, len_str hz, ap2_ap, gEq_int, asB_ok1, mC_ap]
        have cc : ∀ b, condIn z = b → (if condIn z = true then numD z else D.non) = if b = true then numD z else D.non := fun b h => by rw [h]
        by_cases h2 : (z.length : Int) = 2
        · obtain ⟨c, r, hcr⟩ : ∃ c r, z.cps.toList = c :: r := by
            cases hq : z.cps.toList with
            | nil =>
              have : z.length = z.cps.toList.length := rfl
              rw [hq] at this
              simp at this
              omega
            | cons c r => exact ⟨c, r, rfl⟩
          have hix : gIx (.str z) (.int 0) = some (.v (.str ⟨#[c]⟩)) := by
            show (if z.length ≤ lim then (L2.atI z.cps.toList 0).map _ else none) = _
            rw [if_pos hz, hcr, show L2.atI (c :: r) (0 : Int) = some c from by rw [show (0 : Int) = ((0 : Nat) : Int) from rfl, atI_ofNat (by simp)]; rfl]
            rfl
          simp only [h2, decide_true, if_true, hix, gEq_str, asB_ok1, ofR_ok]
          by_cases h0 : (⟨#[c]⟩ : PySem.Str) = "0"
          · have : condIn z = false := by
              unfold condIn
              rw [hl, ha, hcr]
              simp [h2, h0]
            simp [h0, this]
          · have hc : condIn z = true := by
              unfold condIn
              rw [hl, ha, hcr]
              simp [h2, h0]
            obtain ⟨k, hk, rfl⟩ := hasB_iff.mp ((cond_has z).symm.trans hc)
            have hi := (st_int k hk).2
            have hlen := (st_len k hk).2
            have gi : g1 intD [.str (st k)] = some (.v (.int k)) := by
              show (match PySem.intText? (st k) with
                | some n => if (st k).length ≤ 640 then some (Val.v (.int n)) else none
                | none => none) = _
              rw [hi]
              dsimp only
              rw [if_pos (by omega)]
            simp [h0, hc, numD, hi, gi]
        · have hc : condIn z = true := by
            unfold condIn
            rw [hl, ha]
            simp [h2]
          obtain ⟨k, hk, rfl⟩ := hasB_iff.mp ((cond_has z).symm.trans hc)
          have hi := (st_int k hk).2
          have hlen := (st_len k hk).2
          have gi : g1 intD [.str (st k)] = some (.v (.int k)) := by
            show (match PySem.intText? (st k) with
              | some n => if (st k).length ≤ 640 then some (Val.v (.int n)) else none
              | none => none) = _
            rw [hi]
            dsimp only
            rw [if_pos (by omega)]
          simp [h2, hc, numD, hi, gi]
      · have ha' : allIn FG_ z = false := by simpa using ha
        have : condIn z = false := by
          unfold condIn
          rw [ha']
          simp
        simp [hl, ha', this]
    · have hl' : (decide (1 ≤ (z.length : Int)) && decide ((z.length : Int) ≤ 2)) = false := by simpa using hl
      have : condIn z = false := by
        unfold condIn
        rw [hl']
        simp
      simp only [hl', this]
      simp
  rw [main, cond_has]
  simp
end G21

namespace G21
open PySem PySem.Spec PyProof.Rows L2 M M.PR

theorem d_st (k : Nat) (hk : k < 100) : g1 strD [.int (0 + (k : Int))] = some (.v (.str (st k))) := by
  show (if ((0 : Int) + (k : Nat)).natAbs.log2 < 1920 then some (Val.v (.str (toString ((0 : Int) + (k : Nat))))) else none) = _
  rw [if_pos]
  · rfl
  · by_cases h0 : ((0 : Int) + (k : Nat)).natAbs = 0
    · rw [h0]; decide
    · exact (Nat.log2_lt h0).mpr (Nat.lt_of_lt_of_le (show ((0 : Int) + (k : Nat)).natAbs < 2 ^ 7 by omega) (Nat.pow_le_pow_right (by decide : 0 < 2) (by decide : 7 ≤ 1920)))
theorem pys_strs : ∀ ys : List PySem.Str, D.pys (ys.map D.str) = some (ys.map PyData.str)
  | [] => by simp only [List.map_nil, D.pys]
  | y :: ys => by simp only [List.map_cons, D.pys, D.py, pys_strs ys]
theorem st_shaped : SeqAt.shaped (.list (((List.range 100).map st).map PyData.str)) = true := by decide +kernel
theorem in_strs {z : PySem.Str} (hz : PyData.strOk z = true) : gIn false (.str z) (.lst (((List.range 100).map st).map D.str)) = some (.v (.bl (hasB z))) := by
  show (match D.py (.str z), D.pys (((List.range 100).map st).map D.str) with
    | some d, some ds => if SeqAt.shaped d && SeqAt.shaped (.list ds) then some (Val.v (.bl (if false then !ds.any fun z => PyData.eqv z d else ds.any fun z => PyData.eqv z d))) else none
    | _, _ => none) = _
  rw [pys_strs]
  simp only [D.py]
  have e1 : SeqAt.shaped (.str z) = true := by
    unfold SeqAt.shaped
    simp only [PyData.canLay0, PyData.depth, hz]
    rfl
  rw [e1, st_shaped, if_pos (by rfl)]
  simp only [Bool.false_eq_true, if_false, hasB, List.any_map]
  congr 3
theorem run_number_of {z : PySem.Str} {S : Sto} (hz : PyData.strOk z = true) (hl : z.length ≤ lim) : f__law_number_of [.v (.str z)] S = .ok (.v (if hasB z then numD z else .non)) S := by
  rw [show f__law_number_of [.v (.str z)] S = leave S.length (body__law_number_of [some (.v (.str z)), none] S) from rfl]
  have hf : fits62 100 = true := by decide
  have ht : (100 : Nat) ≤ lim := le_lim (by omega)
  have hc : mLC (mRng rng1 (mCons (mC (.int 100)) mNil)) (pN 1) mYes (mB (g1 strD) (mCons (mV 1) mNil)) [1] [some (.v (.str z)), none] S = .ok (.n ((upto 0 100).map fun d => match d with
      | .int i => .str (toString i)
      | d => d)) S := by
    refine lc_val (ds := upto 0 100) ?_ (by simp [upto]; exact ht) fun d hd => ?_
    · simp [rng1, hf]
    · unfold upto at hd
      obtain ⟨k, hk, rfl⟩ := List.mem_map.mp hd
      rw [List.mem_range] at hk
      simp [wipe1]
      have := d_st k hk
      rw [Int.zero_add] at this
      rw [this]
      simp [st]
  have e : ((upto 0 100).map fun d => match d with
      | .int i => D.str (toString i)
      | d => d) = ((List.range 100).map st).map D.str := by
    unfold upto
    rw [List.map_map, List.map_map]
    rfl
  rw [e] at hc
  have main : body__law_number_of [some (.v (.str z)), none] S = .rt (.v (if hasB z then numD z else .non)) S := by
    rw [body__law_number_of, sRet_ap, mIfE_ap, mTB_ap, mOp_ap]
    simp only [mV_ap, List.getElem?_cons_zero, bind_ok, hc, ap2_ap, pk_v, pk_n, in_strs hz, asB_ok1]
    by_cases hb : hasB z = true
    · obtain ⟨k, hk, rfl⟩ := hasB_iff.mp hb
      have hi := (st_int k hk).2
      have hlen := (st_len k hk).2
      have gi : g1 intD [.str (st k)] = some (.v (.int k)) := by
        show (match PySem.intText? (st k) with
          | some n => if (st k).length ≤ 640 then some (Val.v (.int n)) else none
          | none => none) = _
        rw [hi]
        dsimp only
        rw [if_pos (by omega)]
      simp [hb, numD, hi, gi]
    · have hb' : hasB z = false := by simpa using hb
      simp [hb']
  rw [main]
  simp
theorem num_good {z : PySem.Str} : (if hasB z then numD z else D.non).ok = true ∧ (if hasB z then numD z else D.non).dep = 0 ∧ (if hasB z then numD z else D.non).wt ≤ 41 := by
  by_cases hb : hasB z = true
  · obtain ⟨k, hk, rfl⟩ := hasB_iff.mp hb
    rw [if_pos hb]
    unfold numD
    rw [(st_int k hk).2]
    refine ⟨?_, rfl, by simp [D.wt]⟩
    simp only [D.ok, decide_eq_true_eq]
    omega
  · rw [if_neg hb]
    exact ⟨rfl, rfl, by simp [D.wt]⟩
/-! ### words -/
theorem same_line : f__law_line = f_words_of := rfl
def graph (c : Nat) : Bool := if !ltS ⟨#[c]⟩ "!" then !ltS "~" ⟨#[c]⟩ else false
theorem run_words {z : PySem.Str} {S : Sto} (hz : PyData.strOk z = true) (hl : z.length ≤ 1000) : ∃ x, f_words_of [.v (.str z)] S = .ok (.v x) S ∧ Gd x := by
  rw [show f_words_of [.v (.str z)] S = leave S.length (body_words_of [some (.v (.str z)), none, none, none] S) from rfl]
  have sp : gSplit z [.str " "] = some (.n ((Txt.split z " ").map D.str)) := by
    show (if (((" " : PySem.Str).length == 0) = false ∧ z.length + 2 ≤ lim) then some (Val.n ((Txt.split z " ").map D.str)) else none) = _
    rw [if_pos ⟨rfl, le_lim (by omega)⟩]
  have wt := split_weight z " " (by decide)
  have part : ∀ w ∈ Txt.split z " ", PyData.strOk w = true ∧ w.length ≤ 1000 := fun w hw => by
    refine ⟨strOk_iff.mpr fun c hc => strOk_iff.mp hz c ?_, Nat.le_trans (part_short hw) hl⟩
    have := (mem_join " " c (Txt.split z " ")).mpr (.inl ⟨w, hw, hc⟩)
    rwa [StrLaws.join_split] at this
  have loop := forL_or (g := gN 2) (body := (sIf (mOr (mTB (mOp gEq (mV 2) (mC (.str "")))) (mNot (mTru (mB (g1 allD) (mCons (mFz (mLC (mIt (mV 2)) (pN 3) mYes (mChain gLe gLe (mC (.str "!")) (mV 3) (mC (.str "~"))) [3])) mNil))))) (sRet (mC .non)) sSkip))
    (fun _ ρ T => T = S ∧ ∃ o2 o3, ρ = [some (.v (.str z)), some (.v (.lst ((Txt.split z " ").map D.str))), o2, o3]) (fun x T => x = .v .non ∧ T = S) ((Txt.split z " ").map D.str) 0
    [some (.v (.str z)), some (.v (.lst ((Txt.split z " ").map D.str))), none, none] S ⟨rfl, _, _, rfl⟩ (by
    rintro d hd j ρ T _ _ ⟨rfl, o2, o3, rfl⟩
    obtain ⟨w, hw, rfl⟩ := List.mem_map.mp hd
    obtain ⟨w1, w2⟩ := part w hw
    have hall : mB (g1 allD) (mCons (mFz (mLC (mIt (mV 2)) (pN 3) mYes (mChain gLe gLe (mC (.str "!")) (mV 3) (mC (.str "~"))) [3])) mNil) [some (.v (.str z)), some (.v (.lst ((Txt.split z " ").map D.str))), some (.v (.str w)), o3] T = .ok (.v (.bl (w.cps.toList.all graph))) T := by
      rw [← chars_all]
      refine all_lc (it_str rfl) (by rw [chars_len]; exact le_lim (by omega)) fun d hd => ?_
      obtain ⟨c, hc, rfl⟩ := chars_mem hd
      by_cases h1 : ltS ⟨#[c]⟩ "!" = true
      · simp [wipe1, h1, onC, graph]
      · have h1' : ltS ⟨#[c]⟩ "!" = false := by simpa using h1
        simp [wipe1, h1', onC, graph]
    by_cases h0 : w = ""
    · subst h0
      simp
    · simp only [turn_name, List.set_cons_succ, List.set_cons_zero, sIf_ap, mOr_ap, mTB_ap, mOp_ap, mV_ap, List.getElem?_cons_succ, List.getElem?_cons_zero, bind_ok, mC_ap, ap2_ap, pk_v, gEq_str, h0, decide_false, asB_ok1, Bool.false_eq_true, if_false, mNot_ap, mTru_ap, hall, truB]
      cases w.cps.toList.all graph <;> simp)
  have lg : Gd (.lst ((Txt.split z " ").map D.str)) := by
    refine ⟨?_, ?_, ?_⟩
    · simp only [D.ok]
      refine oks_iff.mpr fun d hd => ?_
      obtain ⟨w, hw, rfl⟩ := List.mem_map.mp hd
      simp only [D.ok]
      exact (part w hw).1
    · simp only [D.dep]
      have : D.deps ((Txt.split z " ").map D.str) ≤ 0 := deps_le.mpr fun d hd => by
        obtain ⟨w, hw, rfl⟩ := List.mem_map.mp hd
        simp [D.dep]
      omega
    · simp only [D.wt]
      have h1 := wts_le (ds := (Txt.split z " ").map D.str) (n := 1000) fun d hd => by
        obtain ⟨w, hw, rfl⟩ := List.mem_map.mp hd
        simp only [D.wt]
        exact (part w hw).2
      rw [List.length_map] at h1
      have h2 : (Txt.split z " ").length ≤ 1001 := by omega
      have h3 : (Txt.split z " ").length * (1000 + 1) ≤ 1001 * 1001 := Nat.mul_le_mul h2 (Nat.le_refl _)
      omega
  rcases loop with ⟨j, ρ', S', e, ⟨rfl, o2, o3, rfl⟩, _, _⟩ | ⟨x, S', e, rfl, rfl⟩
  · exact ⟨_, by simp [body_words_of, sp, e], lg⟩
  · exact ⟨.non, by simp [body_words_of, sp, e], ⟨rfl, by simp [D.dep], by simp [D.wt]⟩⟩
end G21

namespace G21
open PySem PySem.Spec PyProof.Rows L2 M M.PR

def T1 : VM := (mStr gJoin (mC (.str "")) (mCons (mFz (mLC (mRng rng1 (mCons (mOp gMod (mB (g1 intD) (mCons (mCall f__law_next (mCons (mV 1) mNil)) mNil)) (mC (.int 9))) mNil)) (pN 10) mYes (mCall f__law_pick (mCons (mV 1) (mCons (mFz (mLst (mCons (mC (.str "a")) (mCons (mC (.str "b")) (mCons (mC (.str " ")) (mCons (mC (.str "0")) (mCons (mC (.str "7")) (mCons (mC (.str "~")) (mCons (mC (.str "!")) (mCons (mC (.str "(")) (mCons (mC (.str "A")) (mCons (mC (.str "\t")) (mCons (mC (.str "-")) (mCons (mC (.str "z")) (mCons (mC (.str "  ")) mNil))))))))))))))) mNil))) [10])) mNil))
def T2 : VM := (mStr gJoin (mC (.str "")) (mCons (mFz (mLC (mRng rng1 (mCons (mOp gMod (mB (g1 intD) (mCons (mCall f__law_next (mCons (mV 1) mNil)) mNil)) (mC (.int 15))) mNil)) (pN 10) mYes (mCall f__law_pick (mCons (mV 1) (mCons (mFz (mLst (mCons (mC (.str "a")) (mCons (mC (.str "k")) (mCons (mC (.str "z")) (mCons (mC (.str "9")) (mCons (mC (.str "0")) (mCons (mC (.str "1")) (mCons (mC (.str "")) (mCons (mC (.str "")) (mCons (mC (.str "B")) mNil))))))))))) mNil))) [10])) mNil))
def C1 : TM := (mTB (mOp gNe (mLst (mCons (mCall f_words_of (mCons (mC (.str "a b")) mNil)) (mCons (mCall f_is_name (mCons (mC (.str "abcdefghijkl")) mNil)) (mCons (mCall f_is_name (mCons (mC (.str "abcdefghijklm")) mNil)) (mCons (mCall f_number_in (mCons (mC (.str "07")) mNil)) (mCons (mCall f_number_in (mCons (mC (.str "99")) mNil)) mNil)))))) (mLst (mCons (mFz (mLst (mCons (mC (.str "a")) (mCons (mC (.str "b")) mNil)))) (mCons (mC (.bl true)) (mCons (mC (.bl false)) (mCons (mC .non) (mCons (mC (.int 99)) mNil))))))))
def R1 : TM := (mTB (mOp gNe (mB (g1 reprD) (mCons (mCall f_words_of (mCons (mV 6) mNil)) mNil)) (mB (g1 reprD) (mCons (mCall f__law_line (mCons (mV 6) mNil)) mNil))))
def E8 : VM := (mAndV (mChain gLe gLe (mC (.int 1)) (mB (g1 lenD) (mCons (mV 7) mNil)) (mC (.int 12))) (mB (g1 allD) (mCons (mFz (mLC (mIt (mV 7)) (pN 12) mYes (mOp (gIn false) (mV 12) (mC (.str "abcdefghijklmnopqrstuvwxyz"))) [12])) mNil)))
def R2 : TM := (mTB (mOp gNe (mB (g1 reprD) (mCons (mFz (mLst (mCons (mCall f_is_name (mCons (mV 7) mNil)) (mCons (mCall f_number_in (mCons (mV 7) mNil)) mNil)))) mNil)) (mB (g1 reprD) (mCons (mFz (mLst (mCons (mV 8) (mCons (mCall f__law_number_of (mCons (mV 7) mNil)) mNil)))) mNil))))
def C2 : TM := (mTB (mOp gNe (mLC (mIt (mLst (mCons (mC (.str "")) (mCons (mC (.str "0")) (mCons (mC (.str "00")) (mCons (mC (.str "100")) (mCons (mC (.str "-1")) (mCons (mC (.str "5")) (mCons (mC (.str "+5")) (mCons (mC (.str " 5")) (mCons (mC (.str "5 ")) mNil))))))))))) (pN 7) mYes (mB (g1 reprD) (mCons (mCall f_number_in (mCons (mV 7) mNil)) mNil)) [7]) (mLst (mCons (mC (.str "None")) (mCons (mC (.str "0")) (mCons (mC (.str "None")) (mCons (mC (.str "None")) (mCons (mC (.str "None")) (mCons (mC (.str "5")) (mCons (mC (.str "None")) (mCons (mC (.str "None")) (mCons (mC (.str "None")) mNil))))))))))))
def W3 : VM := (mFz (mLst (mCons (mTup (mCons (mTup (mCons (mTup (mCons (mC (.int 0)) (mCons (mC (.int 1)) mNil))) mNil)) (mCons (mTup (mCons (mTup (mCons (mC (.int 1)) (mCons (mC (.int 2)) mNil))) mNil)) mNil))) (mCons (mTup (mCons (mTup (mCons (mTup (mCons (mC (.int 0)) (mCons (mC (.int 1)) mNil))) (mCons (mTup (mCons (mC (.int 2)) (mCons (mC (.int 3)) mNil))) mNil))) (mCons (mTup mNil) mNil))) (mCons (mTup (mCons (mTup (mCons (mC (.int 0)) (mCons (mC (.int 1)) mNil))) (mCons (mTup (mCons (mC (.int 2)) (mCons (mC (.int 0)) mNil))) mNil))) (mCons (mTup (mCons (mC (.int 0)) (mCons (mC (.int 1)) (mCons (mC (.int 1)) mNil)))) (mCons (mTup (mCons (mTup (mCons (mTup (mCons (mC (.int 0)) (mCons (mC (.int 1)) mNil))) (mCons (mC (.int 1)) mNil))) mNil)) mNil)))))))
def F1 : TM := (mTB (mOp gNe (mLC (mIt (mLst (mCons (mC (.str "plan")) (mCons (mC (.str "chances")) (mCons (mC (.str "pairs")) (mCons (mC (.str "pots")) (mCons (mC (.str "row")) mNil))))))) (pN 11) mYes (mCall f_has_form (mCons (mV 11) (mCons (mV 4) mNil))) [11]) (mLC (mIt (mLst (mCons (mC (.str "plan")) (mCons (mC (.str "chances")) (mCons (mC (.str "pairs")) (mCons (mC (.str "pots")) (mCons (mC (.str "row")) mNil))))))) (pN 11) mYes (mCall f__law_due (mCons (mV 11) (mCons (mV 4) mNil))) [11])))
def IT4 : IM := (mIt (mOp gAdd (mOp gAdd (mV 3) (mLC (mRng rng1 (mCons (mC (.int 12)) mNil)) (pN 2) mYes (mCall (f__law_spoilt 8) (mCons (mV 1) (mCons (mCall f__law_pick (mCons (mV 1) (mCons (mV 3) mNil))) mNil))) [2])) (mLst (mCons (mTup mNil) (mCons (mC .non) (mCons (mC (.str "")) (mCons (mC (.int 0)) mNil)))))))
def TRY : SM := (sTryK2 tabK 9 "!number" (sSeq (sExpr (mCall f_has_form (mCons (mV 5) (mCons (mTup mNil) mNil))))
      (sRet (mC (.bl false)))))
theorem body_eq : body_law =
      (sSeq (sSet 1 (mAl (mCall f__law_draws (mCons (mV 0) mNil))))
      (sSeq (sSet 1 (mAl (mCall f__law_more (mCons (mV 1) (mCons (mC (.int 200)) mNil)))))
      (sSeq (sIf C1 (sRet (mC (.bl false))) sSkip)
      (sSeq (sFor (mRng rng1 (mCons (mC (.int 6)) mNil)) (gN 2) (sSeq (sSet 6 T1)
      (sSeq (sIf R1 (sRet (mC (.bl false))) sSkip)
      (sSeq (sSet 7 T2)
      (sSeq (sSet 8 E8)
      (sIf R2 (sRet (mC (.bl false))) sSkip))))))
      (sSeq (sIf C2 (sRet (mC (.bl false))) sSkip)
      (sSeq (sSet 3 W3)
      (sSeq (sFor IT4 (gN 4) (sIf F1 (sRet (mC (.bl false))) sSkip))
      (sSeq (sFor (mIt (mLst (mCons (mC (.str "")) (mCons (mC (.str "Form")) (mCons (mC (.str "term")) mNil))))) (gN 5) TRY)
      (sRet (mC (.bl true))))))))))) := rfl
/-! ### the law's steps -/
theorem strs_of : ∀ {ys : List D} {ts : List PySem.Str}, (∀ y ∈ ys, ∃ t ∈ ts, y = D.str t) → ∃ zs : List PySem.Str, ys = zs.map D.str ∧ ∀ z ∈ zs, z ∈ ts
  | [], _, _ => ⟨[], rfl, by simp⟩
  | y :: ys, ts, h => by
    obtain ⟨t, ht, rfl⟩ := h y List.mem_cons_self
    obtain ⟨zs, rfl, hz⟩ := strs_of (ys := ys) fun y hy => h y (List.mem_cons_of_mem _ hy)
    exact ⟨t :: zs, rfl, fun z hzm => (List.mem_cons.mp hzm).elim (fun e => e ▸ ht) (hz z)⟩
theorem sum_le {zs : List PySem.Str} {k : Nat} (h : ∀ z ∈ zs, z.length ≤ k) : (zs.map (·.length)).sum ≤ zs.length * k := by
  induction zs with
  | nil => simp
  | cons z zs ih =>
    have h1 := h z List.mem_cons_self
    have h2 := ih fun z hz => h z (List.mem_cons_of_mem _ hz)
    simp only [List.map_cons, List.sum_cons, List.length_cons, Nat.add_mul, Nat.one_mul]
    omega
/-- ''.join([pick(draws, texts) for at in range(next(draws) % K)]) -/
theorem texts_ok {LST : VM} {ts : List PySem.Str} {K : Int} {ρ : MEnv} {S : Sto} (hK : 0 < K) (hK2 : K ≤ 20) (hL : ∀ ρ S, LST ρ S = .ok (.n (ts.map D.str)) S) (hne : ts ≠ []) (hts : ts.length ≤ 100) (h : AtD S 1) (hρ : ρ[1]? = some (some (.l 1))) (hlen : 10 < ρ.length)
    (ht : ∀ t ∈ ts, t.length ≤ 2 ∧ PyData.strOk t = true) : ∃ (z : PySem.Str) (S' : Sto),
      mStr gJoin (mC (.str "")) (mCons (mFz (mLC (mRng rng1 (mCons (mOp gMod (mB (g1 intD) (mCons (mCall f__law_next (mCons (mV 1) mNil)) mNil)) (mC (.int K))) mNil)) (pN 10) mYes (mCall f__law_pick (mCons (mV 1) (mCons (mFz LST) mNil))) [10])) mNil) ρ S = .ok (.v (.str z)) S' ∧ Stp 1 S S' ∧ z.length ≤ 40 ∧ PyData.strOk z = true := by
  obtain ⟨i, S1, e1, s1, _, _⟩ := nx h
  have a1 := s1.at_ h
  obtain ⟨m1, m2⟩ := fmod_pos (a := i) hK
  have hf : fits62 (i.fmod K) = true := by
    unfold fits62
    rw [Bool.and_eq_true, decide_eq_true_eq, decide_eq_true_eq]
    omega
  have hul : (upto 0 (i.fmod K).toNat).length = (i.fmod K).toNat := by simp [upto]
  obtain ⟨ys, S2, e2, ⟨a2, s2⟩, hl2, hp⟩ := lcL_ok (ρ := wipeM ρ [10]) (g := pN 10) (te := mCall f__law_pick (mCons (mV 1) (mCons (mFz LST) mNil))) (fun T => AtD T 1 ∧ Stp 1 S1 T) (fun _ y => ∃ t ∈ ts, y = .str t) (upto 0 (i.fmod K).toNat) [] S1 ⟨a1, a1.stp⟩ (by
      rw [hul]
      exact le_lim (by simp; omega)) (by
    intro d hd T ⟨hT, hs⟩
    obtain ⟨x, T', e, s, hx⟩ := pk1 (xs := ts.map D.str) hT (by simpa using hne) (by simp; omega)
    obtain ⟨t, ht1, rfl⟩ := List.mem_map.mp hx
    refine ⟨_, .str t, T', rfl, ?_, ⟨s.at_ hT, hs.trans s⟩, t, ht1, rfl⟩
    have h1 : ((wipeM ρ [10]).set 10 (some (.v d)))[1]? = some (some (.l 1)) := by
      rw [wipe1, List.set_set, List.getElem?_set_ne (by decide), hρ]
    simp only [mCall_ap, mCons_ap, mV_ap, h1, bind_ok, mFz_ap, hL, mNil_ap, e])
  rw [List.nil_append] at e2
  obtain ⟨zs, rfl, hz⟩ := strs_of (ys := ys) (ts := ts) fun y hy => by
    obtain ⟨_, _, h⟩ := hp y hy
    exact h
  rw [hul, List.length_map] at hl2
  have hsum := sum_le (zs := zs) (k := 2) fun z hzm => (ht z (hz z hzm)).1
  have el : ("" : PySem.Str).length = 0 := rfl
  have hj : gJoin "" [.lst (zs.map D.str)] = some (.v (.str (Txt.join "" zs))) := by
    show (match strsOf (zs.map D.str) with
      | some ys => if (ys.map fun y : PySem.Str => y.length).sum + ys.length * ("" : PySem.Str).length ≤ lim then some (Val.v (.str (Txt.join "" ys))) else none
      | none => none) = _
    rw [strsOf_map]
    dsimp only
    rw [if_pos (by rw [el]; exact le_lim (by omega))]
  refine ⟨Txt.join "" zs, S2, ?_, s1.trans s2, ?_, ?_⟩
  · simp [hρ, e1, gMod_int (show K ≠ 0 by omega), rng1, hf, e2, hj]
  · show (Builtin.Str.glued "" zs).length ≤ 40
    rw [StrLaws.glued_eq_join]
    have := StrLaws.join_length_le "" zs
    rw [el] at this
    omega
  · show PyData.strOk (Builtin.Str.glued "" zs) = true
    rw [StrLaws.glued_eq_join]
    refine strOk_iff.mpr fun c hc => ?_
    rcases (mem_join "" c zs).mp hc with ⟨t, ht1, hc⟩ | ⟨_, hc⟩
    · exact strOk_iff.mp (ht t (hz t ht1)).2 c hc
    · exact absurd hc (show ¬ c ∈ ([] : List Nat) by simp)
abbrev ts1 : List PySem.Str := ["a", "b", " ", "0", "7", "~", "!", "(", "A", "\t", "-", "z", "  "]
abbrev ts2 : List PySem.Str := ["a", "k", "z", "9", "0", "1", "", "", "B"]
theorem ts1_ok : ∀ t ∈ ts1, t.length ≤ 2 ∧ PyData.strOk t = true := by decide +kernel
theorem ts2_ok : ∀ t ∈ ts2, t.length ≤ 2 ∧ PyData.strOk t = true := by decide +kernel
theorem T1_ok {ρ : MEnv} {S : Sto} (h : AtD S 1) (hρ : ρ[1]? = some (some (.l 1))) (hlen : 10 < ρ.length) : ∃ (z : PySem.Str) (S' : Sto), T1 ρ S = .ok (.v (.str z)) S' ∧ Stp 1 S S' ∧ z.length ≤ 40 ∧ PyData.strOk z = true :=
  texts_ok (ts := ts1) (K := 9) (by decide) (by decide) (fun ρ S => by simp [lim]) (by simp) (by simp) h hρ hlen ts1_ok
theorem T2_ok {ρ : MEnv} {S : Sto} (h : AtD S 1) (hρ : ρ[1]? = some (some (.l 1))) (hlen : 10 < ρ.length) : ∃ (z : PySem.Str) (S' : Sto), T2 ρ S = .ok (.v (.str z)) S' ∧ Stp 1 S S' ∧ z.length ≤ 40 ∧ PyData.strOk z = true :=
  texts_ok (ts := ts2) (K := 15) (by decide) (by decide) (fun ρ S => by simp [lim]) (by simp) (by simp) h hρ hlen ts2_ok
theorem R1_ok {ρ : MEnv} {S : Sto} {z : PySem.Str} (hρ : ρ[6]? = some (some (.v (.str z)))) (hz : PyData.strOk z = true) (hl : z.length ≤ 1000) : R1 ρ S = .ok false S := by
  obtain ⟨x, e, g⟩ := run_words (S := S) hz hl
  unfold R1
  rw [same_line]
  simp [hρ, e, g.repr]
theorem E8_ok {ρ : MEnv} {S : Sto} {z : PySem.Str} (hρ : ρ[7]? = some (some (.v (.str z)))) (hl : z.length ≤ lim) (hlen : 12 < ρ.length) : E8 ρ S = .ok (.v (.bl (nameB z))) S := name_val hl hρ hlen
theorem two_good {z : PySem.Str} : Gd (.lst [.bl (nameB z), if hasB z then numD z else .non]) := by
  obtain ⟨h1, h2, h3⟩ := num_good (z := z)
  refine ⟨?_, ?_, ?_⟩
  · simp only [D.ok, D.oks, h1, Bool.and_self]
  · simp only [D.dep, D.deps, h2]
    omega
  · simp only [D.wt, D.wts]
    omega
theorem R2_ok {ρ : MEnv} {S : Sto} {z : PySem.Str} (hρ : ρ[7]? = some (some (.v (.str z)))) (hρ2 : ρ[8]? = some (some (.v (.bl (nameB z))))) (hz : PyData.strOk z = true) (hl : z.length ≤ 1000) : R2 ρ S = .ok false S := by
  have hl' : z.length ≤ lim := le_lim (by omega)
  have l2 : (2 : Nat) ≤ lim := le_lim (by omega)
  unfold R2
  simp only [mTB_ap, mOp_ap, mB_ap, mCons_ap, mFz_ap, mLst_ap, mCall_ap, mV_ap, hρ, hρ2, bind_ok, mNil_ap, run_is_name hl', run_number_in hl', run_number_of hz hl', dats_cons, dats_nil, Option.map_some, List.length_cons, List.length_nil, Nat.zero_add, Nat.reduceAdd, l2, if_true, apN_ap, pks_cons, pks_nil, pk_v, two_good.repr, ap2_ap, gNe_str, decide_true, Bool.not_true, asB_ok1]
def lst1 : List D := [.str "plan", .str "chances", .str "pairs", .str "pots", .str "row"]
theorem F1_ok {ρ : MEnv} {S : Sto} {d : D} (hρ : ρ[4]? = some (some (.v d))) (hlen : 11 < ρ.length) (g : Gd d) : F1 ρ S = .ok false S := by
  have hth : ∀ x ∈ lst1, ∃ t, t ∈ things ∧ x = .str t := by
    intro x hx
    simp only [lst1, List.mem_cons, List.not_mem_nil, or_false] at hx
    rcases hx with rfl | rfl | rfl | rfl | rfl <;> exact ⟨_, by simp [things], rfl⟩
  have hit : ∀ ρ S, mIt (mLst (mCons (mC (.str "plan")) (mCons (mC (.str "chances")) (mCons (mC (.str "pairs")) (mCons (mC (.str "pots")) (mCons (mC (.str "row")) mNil)))))) ρ S = .ok (.fix lst1) S := fun ρ S => by
    have l5 : (5 : Nat) ≤ lim := le_lim (by omega)
    simp [l5, lst1]
  let F : D → D := fun x => match x with
    | .str t => .bl (form t d)
    | x => x
  have l5 : lst1.length ≤ lim := le_lim (by simp [lst1])
  have slots : ∀ x : D, ((wipeM ρ [11]).set 11 (some (.v x)))[11]? = some (some (.v x)) ∧ ((wipeM ρ [11]).set 11 (some (.v x)))[4]? = some (some (.v d)) := fun x => by
    rw [wipe1, List.set_set]
    exact ⟨List.getElem?_set_self hlen, by rw [List.getElem?_set_ne (by decide), hρ]⟩
  have e1 := lc_val (ρ := ρ) (S := S) (it := mIt (mLst (mCons (mC (.str "plan")) (mCons (mC (.str "chances")) (mCons (mC (.str "pairs")) (mCons (mC (.str "pots")) (mCons (mC (.str "row")) mNil))))))) (te := mCall f_has_form (mCons (mV 11) (mCons (mV 4) mNil))) (i := 11) (F := F) (hit ρ S) l5 fun x hx => by
    obtain ⟨t, ht, rfl⟩ := hth x hx
    simp only [mCall_ap, mCons_ap, mV_ap, (slots (.str t)).1, (slots (.str t)).2, bind_ok, mNil_ap, run_has_form ht g]
    rfl
  have e2 := lc_val (ρ := ρ) (S := S) (it := mIt (mLst (mCons (mC (.str "plan")) (mCons (mC (.str "chances")) (mCons (mC (.str "pairs")) (mCons (mC (.str "pots")) (mCons (mC (.str "row")) mNil))))))) (te := mCall f__law_due (mCons (mV 11) (mCons (mV 4) mNil))) (i := 11) (F := F) (hit ρ S) l5 fun x hx => by
    obtain ⟨t, ht, rfl⟩ := hth x hx
    simp only [mCall_ap, mCons_ap, mV_ap, (slots (.str t)).1, (slots (.str t)).2, bind_ok, mNil_ap, run_due ht g]
    rfl
  have eq : gNe (.lst (lst1.map F)) (.lst (lst1.map F)) = some (.v (.bl false)) := gNe_self (by simp [lst1, F, D.ok, D.oks]) (by simp [lst1, F, D.dep, D.deps])
  unfold F1
  rw [mTB_ap, mOp_ap, e1]
  dsimp only [bind_ok]
  rw [e2]
  dsimp only [bind_ok]
  simp only [ap2_ap, pk_n, eq, asB_ok1]
def terms : List D := [.tup [.tup [.tup [.int 0, .int 1]], .tup [.tup [.int 1, .int 2]]], .tup [.tup [.tup [.int 0, .int 1], .tup [.int 2, .int 3]], .tup []], .tup [.tup [.int 0, .int 1], .tup [.int 2, .int 0]], .tup [.int 0, .int 1, .int 1], .tup [.tup [.tup [.int 0, .int 1], .int 1]]]
theorem W3_ok {ρ : MEnv} {S : Sto} : W3 ρ S = .ok (.v (.lst terms)) S := by
  have l1 : (1 : Nat) ≤ lim := le_lim (by omega)
  have l2 : (2 : Nat) ≤ lim := le_lim (by omega)
  have l3 : (3 : Nat) ≤ lim := le_lim (by omega)
  have l5 : (5 : Nat) ≤ lim := le_lim (by omega)
  simp [W3, terms, l1, l2, l3, l5]
theorem terms_ok : ∀ d ∈ terms, d.ok = true ∧ d.dep ≤ 3 ∧ d.wt ≤ 10000 := by
  have h : (terms.all fun d => d.ok && decide (d.dep ≤ 3) && decide (d.wt ≤ 10000)) = true := by decide +kernel
  intro d hd
  have := List.all_eq_true.mp h d hd
  simp only [Bool.and_eq_true, decide_eq_true_eq] at this
  exact ⟨this.1.1, this.1.2, this.2⟩
theorem IT4_ok {ρ : MEnv} {S : Sto} (h : AtD S 1) (hρ : ρ[1]? = some (some (.l 1))) (hρ3 : ρ[3]? = some (some (.v (.lst terms)))) (hlen : 2 < ρ.length) : ∃ (ds : List D) (S' : Sto), IT4 ρ S = .ok (.fix ds) S' ∧ Stp 1 S S' ∧ ∀ d ∈ ds, Gd d := by
  have hf : fits62 12 = true := by decide
  have l4 : (4 : Nat) ≤ lim := le_lim (by omega)
  have lt : terms.length = 5 := rfl
  have hul : (upto 0 12).length = 12 := by simp [upto]
  obtain ⟨ys, S2, e2, ⟨a2, s2⟩, hl2, hp⟩ := lcL_ok (ρ := wipeM ρ [2]) (g := pN 2) (te := mCall (f__law_spoilt 8) (mCons (mV 1) (mCons (mCall f__law_pick (mCons (mV 1) (mCons (mV 3) mNil))) mNil))) (fun T => AtD T 1 ∧ Stp 1 S T) (fun _ y => Gd y) (upto 0 12) [] S ⟨h, h.stp⟩ (by
      rw [hul]
      exact le_lim (by simp)) (by
    intro d hd T ⟨hT, hs⟩
    obtain ⟨x, T1, e, s, hx⟩ := pk1 (xs := terms) hT (by simp [terms]) (by simp [terms])
    obtain ⟨x1, x2, x3⟩ := terms_ok x hx
    obtain ⟨y, T2, e', s', hy⟩ := run_spoilt 8 x T1 (s.at_ hT) x1 (by omega) (by omega) x3
    have h1 : ((wipeM ρ [2]).set 2 (some (.v d)))[1]? = some (some (.l 1)) := by rw [wipe1, List.set_set, List.getElem?_set_ne (by decide), hρ]
    have h3 : ((wipeM ρ [2]).set 2 (some (.v d)))[3]? = some (some (.v (.lst terms))) := by rw [wipe1, List.set_set, List.getElem?_set_ne (by decide), hρ3]
    have y2 := hy.dep
    have y3 := hy.wt
    refine ⟨_, y, T2, rfl, ?_, ⟨s'.at_ (s.at_ hT), hs.trans (s.trans s')⟩, ⟨hy.ok, by omega, by omega⟩⟩
    simp only [mCall_ap, mCons_ap, mV_ap, h1, h3, bind_ok, mNil_ap, e, e'])
  rw [List.nil_append] at e2
  rw [hul] at hl2
  have c1 : gAdd (.lst terms) (.lst ys) = some (.n (terms ++ ys)) := gAdd_lst (le_lim (by omega))
  have c2 : gAdd (.lst (terms ++ ys)) (.lst [.tup [], .non, .str "", .int 0]) = some (.n (terms ++ ys ++ [.tup [], .non, .str "", .int 0])) := gAdd_lst (le_lim (by simp; omega))
  refine ⟨terms ++ ys ++ [.tup [], .non, .str "", .int 0], S2, ?_, s2, fun d hd => ?_⟩
  · unfold IT4
    simp [hρ3, rng1, hf, e2, c1, l4]
    rw [List.append_assoc] at c2
    rw [c2]
    rfl
  · rcases List.mem_append.mp hd with hd | hd
    · rcases List.mem_append.mp hd with hd | hd
      · obtain ⟨x1, x2, x3⟩ := terms_ok d hd
        exact ⟨x1, by omega, by omega⟩
      · obtain ⟨_, _, hg⟩ := hp d hd
        exact hg
    · simp only [List.mem_cons, List.not_mem_nil, or_false] at hd
      rcases hd with rfl | rfl | rfl | rfl
      · exact ⟨rfl, by simp [D.dep, D.deps], by simp [D.wt, D.wts]⟩
      · exact ⟨rfl, by simp [D.dep], by simp [D.wt]⟩
      · exact ⟨by decide +kernel, by simp [D.dep], by decide +kernel⟩
      · exact ⟨by decide +kernel, by simp [D.dep], by simp [D.wt]⟩
theorem TRY_ok {ρ : MEnv} {S : Sto} {t : PySem.Str} (hρ : ρ[5]? = some (some (.v (.str t)))) (hlen : 9 < ρ.length) (ht : tab_FORMS.lookup t = none) : TRY ρ S = .nx (ρ.set 9 none) S := by
  have e : ∀ x : Val, f_has_form [.v (.str t), x] S = .er ⟨"BadNumber", none⟩ S := fun x => by
    rw [show f_has_form [.v (.str t), x] S = leave S.length (body_has_form [some (.v (.str t)), some x] S) from rfl]
    simp [body_has_form, ht]
  have hk : tabK.lookup ("BadNumber" : PySem.Str) = some "!number" := rfl
  have l0 : (0 : Nat) ≤ lim := Nat.zero_le _
  unfold TRY sTryK2
  simp [hρ, e, hk, hlen]
end G21

namespace G21
open PySem PySem.Spec PyProof.Rows L2 M M.PR
theorem C1_ok {ρ : MEnv} {a b : Option (List D)} : C1 ρ [a, b] = .ok false [a, b] := by kernel_rfl
theorem C2_ok {o0 o1 o2 o3 o4 o5 o6 o7 o8 o9 o10 o11 o12 : Option Val} {a b : Option (List D)} : C2 [o0, o1, o2, o3, o4, o5, o6, o7, o8, o9, o10, o11, o12] [a, b] = .ok false [a, b] := by kernel_rfl
/-- the store: the old draws, the draws -/
def IS (a : Option (List D)) (S : Sto) : Prop := ∃ es : List Int, S = [a, some (es.map D.int)] ∧ Dr es
theorem IS.at_ {a : Option (List D)} {S : Sto} (h : IS a S) : AtD S 1 := by
  obtain ⟨es, rfl, d⟩ := h
  exact ⟨es, rfl, d⟩
theorem IS.stp {a : Option (List D)} {S S' : Sto} (h : IS a S) (s : Stp 1 S S') : IS a S' := by
  obtain ⟨es, rfl, d⟩ := h
  obtain ⟨fs, rfl, d2⟩ := s
  exact ⟨fs, rfl, d2⟩
theorem law_holds : LawOk f_law := by
  intro ns hn
  rw [show f_law [.v (.kl (ns.map D.int))] [] = leave 0 (body_law [some (.v (.kl (ns.map D.int))), none, none, none, none, none, none, none, none, none, none, none, none] []) from rfl]
  generalize ex : D.kl (ns.map D.int) = x
  obtain ⟨ds, e1, d1, l1⟩ := PR.draws_ok (S := []) hn
  have e1' : f__law_draws [.v x] [] = .ok (.n (ds.map D.int)) [] := by rw [← ex]; exact e1
  obtain ⟨es, S2, e2, s2, d2, _⟩ := PR.more_ok (S := [some (ds.map D.int)]) (n := 0) (m := 200) ⟨ds, rfl, d1⟩ (by decide) (by decide) (fun ds' h => by
    have h' : ds.map D.int = ds'.map D.int := Option.some.inj (Option.some.inj h)
    have := congrArg List.length h'
    simp only [List.length_map] at this
    omega)
  have e2' : f__law_more [.l 0, .v (.int 200)] [some (ds.map D.int)] = .ok (.n (es.map D.int)) S2 := e2
  obtain ⟨fs, rfl, _⟩ := s2
  generalize ea : some (fs.map D.int) = a at e2'
  have e2'' : f__law_more [.l 0, .v (.int 200)] [some (ds.map D.int)] = .ok (.n (es.map D.int)) [a] := by rw [e2', ← ea]; rfl
  -- the first loop
  have hf6 : fits62 6 = true := by decide
  obtain ⟨j, ρ1, S3, e3, ⟨i3, o2, o3, o4, o5, o6, o7, o8, o9, o10, o11, o12, rfl⟩, _, _⟩ := forL_nx (g := gN 2) (body := (sSeq (sSet 6 T1)
      (sSeq (sIf R1 (sRet (mC (.bl false))) sSkip)
      (sSeq (sSet 7 T2)
      (sSeq (sSet 8 E8)
      (sIf R2 (sRet (mC (.bl false))) sSkip)))))) (fun _ ρ S => IS a S ∧ ∃ o2 o3 o4 o5 o6 o7 o8 o9 o10 o11 o12 : Option Val, ρ = [some (.v x), some (.l 1), o2, o3, o4, o5, o6, o7, o8, o9, o10, o11, o12]) (upto 0 6) 0
      [some (.v x), some (.l 1), none, none, none, none, none, none, none, none, none, none, none] [a, some (es.map D.int)] ⟨⟨es, rfl, d2⟩, _, _, _, _, _, _, _, _, _, _, _, rfl⟩ (by
    rintro d hd j ρ S _ _ ⟨i, o2, o3, o4, o5, o6, o7, o8, o9, o10, o11, o12, rfl⟩
    obtain ⟨z1, S1, t1, s1, zl1, zo1⟩ := T1_ok (ρ := [some (.v x), some (.l 1), some (.v d), o3, o4, o5, o6, o7, o8, o9, o10, o11, o12]) i.at_ rfl (by simp)
    have i1 := i.stp s1
    have r1 := R1_ok (ρ := [some (.v x), some (.l 1), some (.v d), o3, o4, o5, some (.v (.str z1)), o7, o8, o9, o10, o11, o12]) (S := S1) (z := z1) rfl zo1 (by omega)
    obtain ⟨z2, S2, t2, s2, zl2, zo2⟩ := T2_ok (ρ := [some (.v x), some (.l 1), some (.v d), o3, o4, o5, some (.v (.str z1)), o7, o8, o9, o10, o11, o12]) i1.at_ rfl (by simp)
    have i2 := i1.stp s2
    have r8 := E8_ok (ρ := [some (.v x), some (.l 1), some (.v d), o3, o4, o5, some (.v (.str z1)), some (.v (.str z2)), o8, o9, o10, o11, o12]) (S := S2) (z := z2) rfl (le_lim (by omega)) (by simp)
    have r2 := R2_ok (ρ := [some (.v x), some (.l 1), some (.v d), o3, o4, o5, some (.v (.str z1)), some (.v (.str z2)), some (.v (.bl (nameB z2))), o9, o10, o11, o12]) (S := S2) (z := z2) rfl rfl zo2 (by omega)
    simp [t1, r1, t2, r8, r2]
    exact i2)
  obtain ⟨gs, rfl, d3⟩ := i3
  have i3 : IS a [a, some (gs.map D.int)] := ⟨gs, rfl, d3⟩
  have c1 := C1_ok (ρ := [some (.v x), some (.l 1), none, none, none, none, none, none, none, none, none, none, none]) (a := a) (b := some (es.map D.int))
  have c2 := C2_ok (o0 := some (.v x)) (o1 := some (.l 1)) (o2 := o2) (o3 := o3) (o4 := o4) (o5 := o5) (o6 := o6) (o7 := o7) (o8 := o8) (o9 := o9) (o10 := o10) (o11 := o11) (o12 := o12) (a := a) (b := some (gs.map D.int))
  have w3 := W3_ok (ρ := [some (.v x), some (.l 1), o2, o3, o4, o5, o6, o7, o8, o9, o10, o11, o12]) (S := [a, some (gs.map D.int)])
  obtain ⟨its, S4, e4, s4, hits⟩ := IT4_ok (ρ := [some (.v x), some (.l 1), o2, some (.v (.lst terms)), o4, o5, o6, o7, o8, o9, o10, o11, o12]) i3.at_ rfl rfl (by simp)
  have i4 := i3.stp s4
  -- the loop over the terms
  obtain ⟨j5, ρ5, S5, e5, ⟨rfl, p4, rfl⟩, _, _⟩ := forL_nx (g := gN 4) (body := sIf F1 (sRet (mC (.bl false))) sSkip) (fun _ ρ S => S = S4 ∧ ∃ o4 : Option Val, ρ = [some (.v x), some (.l 1), o2, some (.v (.lst terms)), o4, o5, o6, o7, o8, o9, o10, o11, o12]) its 0
      [some (.v x), some (.l 1), o2, some (.v (.lst terms)), o4, o5, o6, o7, o8, o9, o10, o11, o12] S4 ⟨rfl, _, rfl⟩ (by
    rintro d hd j ρ S _ _ ⟨rfl, o4, rfl⟩
    have r := F1_ok (ρ := [some (.v x), some (.l 1), o2, some (.v (.lst terms)), some (.v d), o5, o6, o7, o8, o9, o10, o11, o12]) (S := S) (d := d) rfl (by simp) (hits d hd)
    simp [r])
  -- the loop over the wrong things
  obtain ⟨j6, ρ6, S6, e6, ⟨rfl, p5, p9, rfl⟩, _, _⟩ := forL_nx (g := gN 5) (body := TRY) (fun _ ρ S => S = S5 ∧ ∃ o5 o9 : Option Val, ρ = [some (.v x), some (.l 1), o2, some (.v (.lst terms)), p4, o5, o6, o7, o8, o9, o10, o11, o12]) [.str "", .str "Form", .str "term"] 0
      [some (.v x), some (.l 1), o2, some (.v (.lst terms)), p4, o5, o6, o7, o8, o9, o10, o11, o12] S5 ⟨rfl, _, _, rfl⟩ (by
    rintro d hd j ρ S _ _ ⟨rfl, o5, o9, rfl⟩
    simp only [List.mem_cons, List.not_mem_nil, or_false] at hd
    rcases hd with rfl | rfl | rfl
    · have r := TRY_ok (ρ := [some (.v x), some (.l 1), o2, some (.v (.lst terms)), p4, some (.v (.str "")), o6, o7, o8, o9, o10, o11, o12]) (S := S) (t := "") rfl (by simp) rfl
      simp [r]
    · have r := TRY_ok (ρ := [some (.v x), some (.l 1), o2, some (.v (.lst terms)), p4, some (.v (.str "Form")), o6, o7, o8, o9, o10, o11, o12]) (S := S) (t := "Form") rfl (by simp) rfl
      simp [r]
    · have r := TRY_ok (ρ := [some (.v x), some (.l 1), o2, some (.v (.lst terms)), p4, some (.v (.str "term")), o6, o7, o8, o9, o10, o11, o12]) (S := S) (t := "term") rfl (by simp) rfl
      simp [r])
  have h3 : (3 : Nat) ≤ lim := le_lim (by omega)
  refine ⟨S6.take 0, ?_⟩
  rw [body_eq]
  simp [e1', e2'', c1, rng1, hf6, e3, c2, w3, e4, e5, h3, e6]
end G21

namespace G21
open PySem PySem.Spec PyProof.Rows L2 M
/-! ### what the top has written; the law's own head -/
def mkFx {w : World} {K : PySem.W.Frag} {mg : PySem.Str → Option Value} {h : Heap} (X : K.In h) (G : h.Ns mainGlobals mg)
    {a_is_integer : Addr} {od_is_integer an_is_integer : Option Addr} {sl_is_integer : Array (Option Value)} {oc_is_integer kV_is_integer dc_is_integer pm_is_integer cd_is_integer ct_is_integer : Value}
    {a_is_row : Addr} {od_is_row an_is_row : Option Addr} {sl_is_row : Array (Option Value)} {oc_is_row kV_is_row dc_is_row pm_is_row cd_is_row ct_is_row : Value}
    {a_are_pairs : Addr} {od_are_pairs an_are_pairs : Option Addr} {sl_are_pairs : Array (Option Value)} {oc_are_pairs kV_are_pairs dc_are_pairs pm_are_pairs cd_are_pairs ct_are_pairs : Value}
    {a_are_rounds : Addr} {od_are_rounds an_are_rounds : Option Addr} {sl_are_rounds : Array (Option Value)} {oc_are_rounds kV_are_rounds dc_are_rounds pm_are_rounds cd_are_rounds ct_are_rounds : Value}
    {a_are_pots : Addr} {od_are_pots an_are_pots : Option Addr} {sl_are_pots : Array (Option Value)} {oc_are_pots kV_are_pots dc_are_pots pm_are_pots cd_are_pots ct_are_pots : Value}
    {a_has_form : Addr} {od_has_form an_has_form : Option Addr} {sl_has_form : Array (Option Value)} {oc_has_form kV_has_form dc_has_form pm_has_form cd_has_form ct_has_form : Value}
    {a_words_of : Addr} {od_words_of an_words_of : Option Addr} {sl_words_of : Array (Option Value)} {oc_words_of kV_words_of dc_words_of pm_words_of cd_words_of ct_words_of : Value}
    {a_is_name : Addr} {od_is_name an_is_name : Option Addr} {sl_is_name : Array (Option Value)} {oc_is_name kV_is_name dc_is_name pm_is_name cd_is_name ct_is_name : Value}
    {a_number_in : Addr} {od_number_in an_number_in : Option Addr} {sl_number_in : Array (Option Value)} {oc_number_in kV_number_in dc_number_in pm_number_in cd_number_in ct_number_in : Value}
    {a__law_number : Addr} {od__law_number an__law_number : Option Addr} {sl__law_number : Array (Option Value)} {oc__law_number kV__law_number dc__law_number pm__law_number cd__law_number ct__law_number : Value}
    {a__law_draws : Addr} {od__law_draws an__law_draws : Option Addr} {sl__law_draws : Array (Option Value)} {oc__law_draws kV__law_draws dc__law_draws pm__law_draws cd__law_draws ct__law_draws : Value}
    {a__law_next : Addr} {od__law_next an__law_next : Option Addr} {sl__law_next : Array (Option Value)} {oc__law_next kV__law_next dc__law_next pm__law_next cd__law_next ct__law_next : Value}
    {a__law_more : Addr} {od__law_more an__law_more : Option Addr} {sl__law_more : Array (Option Value)} {oc__law_more kV__law_more dc__law_more pm__law_more cd__law_more ct__law_more : Value}
    {a__law_pick : Addr} {od__law_pick an__law_pick : Option Addr} {sl__law_pick : Array (Option Value)} {oc__law_pick kV__law_pick dc__law_pick pm__law_pick cd__law_pick ct__law_pick : Value}
    {a__law_kind : Addr} {od__law_kind an__law_kind : Option Addr} {sl__law_kind : Array (Option Value)} {oc__law_kind kV__law_kind dc__law_kind pm__law_kind cd__law_kind ct__law_kind : Value}
    {a__law_line : Addr} {od__law_line an__law_line : Option Addr} {sl__law_line : Array (Option Value)} {oc__law_line kV__law_line dc__law_line pm__law_line cd__law_line ct__law_line : Value}
    {a__law_number_of : Addr} {od__law_number_of an__law_number_of : Option Addr} {sl__law_number_of : Array (Option Value)} {oc__law_number_of kV__law_number_of dc__law_number_of pm__law_number_of cd__law_number_of ct__law_number_of : Value}
    {a__law_is_row : Addr} {od__law_is_row an__law_is_row : Option Addr} {sl__law_is_row : Array (Option Value)} {oc__law_is_row kV__law_is_row dc__law_is_row pm__law_is_row cd__law_is_row ct__law_is_row : Value}
    {a__law_due : Addr} {od__law_due an__law_due : Option Addr} {sl__law_due : Array (Option Value)} {oc__law_due kV__law_due dc__law_due pm__law_due cd__law_due ct__law_due : Value}
    {a__law_spoilt : Addr} {od__law_spoilt an__law_spoilt : Option Addr} {sl__law_spoilt : Array (Option Value)} {oc__law_spoilt kV__law_spoilt dc__law_spoilt pm__law_spoilt cd__law_spoilt ct__law_spoilt : Value}
    {a_law : Addr} {od_law an_law : Option Addr} {sl_law : Array (Option Value)} {oc_law kV_law dc_law pm_law cd_law ct_law : Value}
    {t_FIGURES : _}
    {t_SMALL : _}
    {ad_FORMS n_ad_FORMS : Nat} {t_FORMS_0 : _} {t_FORMS_1 : _} {t_FORMS_2 : _} {t_FORMS_3 : _} {t_FORMS_4 : _}
    {C_PlanError : Addr}
    {C_NotPlan : Addr}
    {C_NotResults : Addr}
    {C_NotPattern : Addr}
    {C_NotPaper : Addr}
    {C_BadNumber : Addr}
    {C_NoAnswer : Addr}
    {C_TooLarge : Addr}
    (n_is_integer : PySem.W.nsIn K mainGlobals "is_integer" = some (some (.ref a_is_integer)))
    (l_is_integer : K.lookup a_is_integer = some ⟨oc_is_integer, od_is_integer, .func (PySem.W.fnOf "is_integer" "is_integer" (defArgs s_is_integer) (defBody s_is_integer) (defScope s_is_integer) .none kV_is_integer dc_is_integer pm_is_integer an_is_integer cd_is_integer ct_is_integer), sl_is_integer⟩)
    (c_is_integer : PySem.W.codeIn K cd_is_integer "is_integer" = true)
    (k_is_integer : PySem.W.keepIn K (.ref a_is_integer) = true)
    (n_is_row : PySem.W.nsIn K mainGlobals "is_row" = some (some (.ref a_is_row)))
    (l_is_row : K.lookup a_is_row = some ⟨oc_is_row, od_is_row, .func (PySem.W.fnOf "is_row" "is_row" (defArgs s_is_row) (defBody s_is_row) (defScope s_is_row) .none kV_is_row dc_is_row pm_is_row an_is_row cd_is_row ct_is_row), sl_is_row⟩)
    (c_is_row : PySem.W.codeIn K cd_is_row "is_row" = true)
    (k_is_row : PySem.W.keepIn K (.ref a_is_row) = true)
    (n_are_pairs : PySem.W.nsIn K mainGlobals "are_pairs" = some (some (.ref a_are_pairs)))
    (l_are_pairs : K.lookup a_are_pairs = some ⟨oc_are_pairs, od_are_pairs, .func (PySem.W.fnOf "are_pairs" "are_pairs" (defArgs s_are_pairs) (defBody s_are_pairs) (defScope s_are_pairs) .none kV_are_pairs dc_are_pairs pm_are_pairs an_are_pairs cd_are_pairs ct_are_pairs), sl_are_pairs⟩)
    (c_are_pairs : PySem.W.codeIn K cd_are_pairs "are_pairs" = true)
    (k_are_pairs : PySem.W.keepIn K (.ref a_are_pairs) = true)
    (n_are_rounds : PySem.W.nsIn K mainGlobals "are_rounds" = some (some (.ref a_are_rounds)))
    (l_are_rounds : K.lookup a_are_rounds = some ⟨oc_are_rounds, od_are_rounds, .func (PySem.W.fnOf "are_rounds" "are_rounds" (defArgs s_are_rounds) (defBody s_are_rounds) (defScope s_are_rounds) .none kV_are_rounds dc_are_rounds pm_are_rounds an_are_rounds cd_are_rounds ct_are_rounds), sl_are_rounds⟩)
    (c_are_rounds : PySem.W.codeIn K cd_are_rounds "are_rounds" = true)
    (k_are_rounds : PySem.W.keepIn K (.ref a_are_rounds) = true)
    (n_are_pots : PySem.W.nsIn K mainGlobals "are_pots" = some (some (.ref a_are_pots)))
    (l_are_pots : K.lookup a_are_pots = some ⟨oc_are_pots, od_are_pots, .func (PySem.W.fnOf "are_pots" "are_pots" (defArgs s_are_pots) (defBody s_are_pots) (defScope s_are_pots) .none kV_are_pots dc_are_pots pm_are_pots an_are_pots cd_are_pots ct_are_pots), sl_are_pots⟩)
    (c_are_pots : PySem.W.codeIn K cd_are_pots "are_pots" = true)
    (k_are_pots : PySem.W.keepIn K (.ref a_are_pots) = true)
    (n_has_form : PySem.W.nsIn K mainGlobals "has_form" = some (some (.ref a_has_form)))
    (l_has_form : K.lookup a_has_form = some ⟨oc_has_form, od_has_form, .func (PySem.W.fnOf "has_form" "has_form" (defArgs s_has_form) (defBody s_has_form) (defScope s_has_form) .none kV_has_form dc_has_form pm_has_form an_has_form cd_has_form ct_has_form), sl_has_form⟩)
    (c_has_form : PySem.W.codeIn K cd_has_form "has_form" = true)
    (k_has_form : PySem.W.keepIn K (.ref a_has_form) = true)
    (n_words_of : PySem.W.nsIn K mainGlobals "words_of" = some (some (.ref a_words_of)))
    (l_words_of : K.lookup a_words_of = some ⟨oc_words_of, od_words_of, .func (PySem.W.fnOf "words_of" "words_of" (defArgs s_words_of) (defBody s_words_of) (defScope s_words_of) .none kV_words_of dc_words_of pm_words_of an_words_of cd_words_of ct_words_of), sl_words_of⟩)
    (c_words_of : PySem.W.codeIn K cd_words_of "words_of" = true)
    (k_words_of : PySem.W.keepIn K (.ref a_words_of) = true)
    (n_is_name : PySem.W.nsIn K mainGlobals "is_name" = some (some (.ref a_is_name)))
    (l_is_name : K.lookup a_is_name = some ⟨oc_is_name, od_is_name, .func (PySem.W.fnOf "is_name" "is_name" (defArgs s_is_name) (defBody s_is_name) (defScope s_is_name) .none kV_is_name dc_is_name pm_is_name an_is_name cd_is_name ct_is_name), sl_is_name⟩)
    (c_is_name : PySem.W.codeIn K cd_is_name "is_name" = true)
    (k_is_name : PySem.W.keepIn K (.ref a_is_name) = true)
    (n_number_in : PySem.W.nsIn K mainGlobals "number_in" = some (some (.ref a_number_in)))
    (l_number_in : K.lookup a_number_in = some ⟨oc_number_in, od_number_in, .func (PySem.W.fnOf "number_in" "number_in" (defArgs s_number_in) (defBody s_number_in) (defScope s_number_in) .none kV_number_in dc_number_in pm_number_in an_number_in cd_number_in ct_number_in), sl_number_in⟩)
    (c_number_in : PySem.W.codeIn K cd_number_in "number_in" = true)
    (k_number_in : PySem.W.keepIn K (.ref a_number_in) = true)
    (n__law_number : PySem.W.nsIn K mainGlobals "_law_number" = some (some (.ref a__law_number)))
    (l__law_number : K.lookup a__law_number = some ⟨oc__law_number, od__law_number, .func (PySem.W.fnOf "_law_number" "_law_number" (defArgs s__law_number) (defBody s__law_number) (defScope s__law_number) .none kV__law_number dc__law_number pm__law_number an__law_number cd__law_number ct__law_number), sl__law_number⟩)
    (c__law_number : PySem.W.codeIn K cd__law_number "_law_number" = true)
    (k__law_number : PySem.W.keepIn K (.ref a__law_number) = true)
    (n__law_draws : PySem.W.nsIn K mainGlobals "_law_draws" = some (some (.ref a__law_draws)))
    (l__law_draws : K.lookup a__law_draws = some ⟨oc__law_draws, od__law_draws, .func (PySem.W.fnOf "_law_draws" "_law_draws" (defArgs s__law_draws) (defBody s__law_draws) (defScope s__law_draws) .none kV__law_draws dc__law_draws pm__law_draws an__law_draws cd__law_draws ct__law_draws), sl__law_draws⟩)
    (c__law_draws : PySem.W.codeIn K cd__law_draws "_law_draws" = true)
    (k__law_draws : PySem.W.keepIn K (.ref a__law_draws) = true)
    (n__law_next : PySem.W.nsIn K mainGlobals "_law_next" = some (some (.ref a__law_next)))
    (l__law_next : K.lookup a__law_next = some ⟨oc__law_next, od__law_next, .func (PySem.W.fnOf "_law_next" "_law_next" (defArgs s__law_next) (defBody s__law_next) (defScope s__law_next) .none kV__law_next dc__law_next pm__law_next an__law_next cd__law_next ct__law_next), sl__law_next⟩)
    (c__law_next : PySem.W.codeIn K cd__law_next "_law_next" = true)
    (k__law_next : PySem.W.keepIn K (.ref a__law_next) = true)
    (n__law_more : PySem.W.nsIn K mainGlobals "_law_more" = some (some (.ref a__law_more)))
    (l__law_more : K.lookup a__law_more = some ⟨oc__law_more, od__law_more, .func (PySem.W.fnOf "_law_more" "_law_more" (defArgs s__law_more) (defBody s__law_more) (defScope s__law_more) .none kV__law_more dc__law_more pm__law_more an__law_more cd__law_more ct__law_more), sl__law_more⟩)
    (c__law_more : PySem.W.codeIn K cd__law_more "_law_more" = true)
    (k__law_more : PySem.W.keepIn K (.ref a__law_more) = true)
    (n__law_pick : PySem.W.nsIn K mainGlobals "_law_pick" = some (some (.ref a__law_pick)))
    (l__law_pick : K.lookup a__law_pick = some ⟨oc__law_pick, od__law_pick, .func (PySem.W.fnOf "_law_pick" "_law_pick" (defArgs s__law_pick) (defBody s__law_pick) (defScope s__law_pick) .none kV__law_pick dc__law_pick pm__law_pick an__law_pick cd__law_pick ct__law_pick), sl__law_pick⟩)
    (c__law_pick : PySem.W.codeIn K cd__law_pick "_law_pick" = true)
    (k__law_pick : PySem.W.keepIn K (.ref a__law_pick) = true)
    (n__law_kind : PySem.W.nsIn K mainGlobals "_law_kind" = some (some (.ref a__law_kind)))
    (l__law_kind : K.lookup a__law_kind = some ⟨oc__law_kind, od__law_kind, .func (PySem.W.fnOf "_law_kind" "_law_kind" (defArgs s__law_kind) (defBody s__law_kind) (defScope s__law_kind) .none kV__law_kind dc__law_kind pm__law_kind an__law_kind cd__law_kind ct__law_kind), sl__law_kind⟩)
    (c__law_kind : PySem.W.codeIn K cd__law_kind "_law_kind" = true)
    (k__law_kind : PySem.W.keepIn K (.ref a__law_kind) = true)
    (n__law_line : PySem.W.nsIn K mainGlobals "_law_line" = some (some (.ref a__law_line)))
    (l__law_line : K.lookup a__law_line = some ⟨oc__law_line, od__law_line, .func (PySem.W.fnOf "_law_line" "_law_line" (defArgs s__law_line) (defBody s__law_line) (defScope s__law_line) .none kV__law_line dc__law_line pm__law_line an__law_line cd__law_line ct__law_line), sl__law_line⟩)
    (c__law_line : PySem.W.codeIn K cd__law_line "_law_line" = true)
    (k__law_line : PySem.W.keepIn K (.ref a__law_line) = true)
    (n__law_number_of : PySem.W.nsIn K mainGlobals "_law_number_of" = some (some (.ref a__law_number_of)))
    (l__law_number_of : K.lookup a__law_number_of = some ⟨oc__law_number_of, od__law_number_of, .func (PySem.W.fnOf "_law_number_of" "_law_number_of" (defArgs s__law_number_of) (defBody s__law_number_of) (defScope s__law_number_of) .none kV__law_number_of dc__law_number_of pm__law_number_of an__law_number_of cd__law_number_of ct__law_number_of), sl__law_number_of⟩)
    (c__law_number_of : PySem.W.codeIn K cd__law_number_of "_law_number_of" = true)
    (k__law_number_of : PySem.W.keepIn K (.ref a__law_number_of) = true)
    (n__law_is_row : PySem.W.nsIn K mainGlobals "_law_is_row" = some (some (.ref a__law_is_row)))
    (l__law_is_row : K.lookup a__law_is_row = some ⟨oc__law_is_row, od__law_is_row, .func (PySem.W.fnOf "_law_is_row" "_law_is_row" (defArgs s__law_is_row) (defBody s__law_is_row) (defScope s__law_is_row) .none kV__law_is_row dc__law_is_row pm__law_is_row an__law_is_row cd__law_is_row ct__law_is_row), sl__law_is_row⟩)
    (c__law_is_row : PySem.W.codeIn K cd__law_is_row "_law_is_row" = true)
    (k__law_is_row : PySem.W.keepIn K (.ref a__law_is_row) = true)
    (n__law_due : PySem.W.nsIn K mainGlobals "_law_due" = some (some (.ref a__law_due)))
    (l__law_due : K.lookup a__law_due = some ⟨oc__law_due, od__law_due, .func (PySem.W.fnOf "_law_due" "_law_due" (defArgs s__law_due) (defBody s__law_due) (defScope s__law_due) .none kV__law_due dc__law_due pm__law_due an__law_due cd__law_due ct__law_due), sl__law_due⟩)
    (c__law_due : PySem.W.codeIn K cd__law_due "_law_due" = true)
    (k__law_due : PySem.W.keepIn K (.ref a__law_due) = true)
    (n__law_spoilt : PySem.W.nsIn K mainGlobals "_law_spoilt" = some (some (.ref a__law_spoilt)))
    (l__law_spoilt : K.lookup a__law_spoilt = some ⟨oc__law_spoilt, od__law_spoilt, .func (PySem.W.fnOf "_law_spoilt" "_law_spoilt" (defArgs s__law_spoilt) (defBody s__law_spoilt) (defScope s__law_spoilt) .none kV__law_spoilt dc__law_spoilt pm__law_spoilt an__law_spoilt cd__law_spoilt ct__law_spoilt), sl__law_spoilt⟩)
    (c__law_spoilt : PySem.W.codeIn K cd__law_spoilt "_law_spoilt" = true)
    (k__law_spoilt : PySem.W.keepIn K (.ref a__law_spoilt) = true)
    (n_law : PySem.W.nsIn K mainGlobals "law" = some (some (.ref a_law)))
    (l_law : K.lookup a_law = some ⟨oc_law, od_law, .func (PySem.W.fnOf "law" "law" (defArgs s_law) (defBody s_law) (defScope s_law) .none kV_law dc_law pm_law an_law cd_law ct_law), sl_law⟩)
    (c_law : PySem.W.codeIn K cd_law "law" = true)
    (k_law : PySem.W.keepIn K (.ref a_law) = true)
    (z_all : PySem.W.nsIn K mainGlobals "all" = some none)
    (z_int : PySem.W.nsIn K mainGlobals "int" = some none)
    (z_isinstance : PySem.W.nsIn K mainGlobals "isinstance" = some none)
    (z_len : PySem.W.nsIn K mainGlobals "len" = some none)
    (z_range : PySem.W.nsIn K mainGlobals "range" = some none)
    (z_repr : PySem.W.nsIn K mainGlobals "repr" = some none)
    (z_str : PySem.W.nsIn K mainGlobals "str" = some none)
    (z_tuple : PySem.W.nsIn K mainGlobals "tuple" = some none)
    (n_FIGURES : PySem.W.nsIn K mainGlobals "FIGURES" = some (some (.str "0123456789" t_FIGURES)))
    (n_SMALL : PySem.W.nsIn K mainGlobals "SMALL" = some (some (.str "abcdefghijklmnopqrstuvwxyz" t_SMALL)))
    (n_FORMS : PySem.W.nsIn K mainGlobals "FORMS" = some (some (.ref ad_FORMS)))
    (l_FORMS : K.lookup ad_FORMS = some ⟨.type "dict", none, .dict #[⟨PyData.keyHash w.params "plan", .str "plan" t_FORMS_0, .ref a_are_rounds⟩, ⟨PyData.keyHash w.params "chances", .str "chances" t_FORMS_1, .ref a_are_rounds⟩, ⟨PyData.keyHash w.params "pairs", .str "pairs" t_FORMS_2, .ref a_are_pairs⟩, ⟨PyData.keyHash w.params "pots", .str "pots" t_FORMS_3, .ref a_are_pots⟩, ⟨PyData.keyHash w.params "row", .str "row" t_FORMS_4, .ref a_is_row⟩] n_ad_FORMS, #[]⟩)
    (lo_FORMS : (ad_FORMS == sysModules) = false)
    (n_PlanError : PySem.W.nsIn K mainGlobals "PlanError" = some (some (.ref C_PlanError)))
    (ic_PlanError : PySem.W.isClsIn K C_PlanError = true)
    (tt_PlanError : PySem.W.typeIn K (.ref C_PlanError) = some (.type "type"))
    (bs_PlanError : PySem.W.subIn K (.ref C_PlanError) (.type "BaseException") = some true)
    (n_NotPlan : PySem.W.nsIn K mainGlobals "NotPlan" = some (some (.ref C_NotPlan)))
    (ic_NotPlan : PySem.W.isClsIn K C_NotPlan = true)
    (tt_NotPlan : PySem.W.typeIn K (.ref C_NotPlan) = some (.type "type"))
    (n_NotResults : PySem.W.nsIn K mainGlobals "NotResults" = some (some (.ref C_NotResults)))
    (ic_NotResults : PySem.W.isClsIn K C_NotResults = true)
    (tt_NotResults : PySem.W.typeIn K (.ref C_NotResults) = some (.type "type"))
    (n_NotPattern : PySem.W.nsIn K mainGlobals "NotPattern" = some (some (.ref C_NotPattern)))
    (ic_NotPattern : PySem.W.isClsIn K C_NotPattern = true)
    (tt_NotPattern : PySem.W.typeIn K (.ref C_NotPattern) = some (.type "type"))
    (n_NotPaper : PySem.W.nsIn K mainGlobals "NotPaper" = some (some (.ref C_NotPaper)))
    (ic_NotPaper : PySem.W.isClsIn K C_NotPaper = true)
    (tt_NotPaper : PySem.W.typeIn K (.ref C_NotPaper) = some (.type "type"))
    (n_BadNumber : PySem.W.nsIn K mainGlobals "BadNumber" = some (some (.ref C_BadNumber)))
    (ic_BadNumber : PySem.W.isClsIn K C_BadNumber = true)
    (tt_BadNumber : PySem.W.typeIn K (.ref C_BadNumber) = some (.type "type"))
    (n_NoAnswer : PySem.W.nsIn K mainGlobals "NoAnswer" = some (some (.ref C_NoAnswer)))
    (ic_NoAnswer : PySem.W.isClsIn K C_NoAnswer = true)
    (tt_NoAnswer : PySem.W.typeIn K (.ref C_NoAnswer) = some (.type "type"))
    (n_TooLarge : PySem.W.nsIn K mainGlobals "TooLarge" = some (some (.ref C_TooLarge)))
    (ic_TooLarge : PySem.W.isClsIn K C_TooLarge = true)
    (tt_TooLarge : PySem.W.typeIn K (.ref C_TooLarge) = some (.type "type"))
    (x_BadNumber : PySem.W.excIn K C_BadNumber [.type "ValueError", .type "Exception", .type "BaseException", .type "object"] "ValueError.__new__" = true)
    (kC_BadNumber : PySem.W.keepIn K (.ref C_BadNumber) = true)
    (bs_BadNumber : PySem.W.subIn K (.ref C_BadNumber) (.type "BaseException") = some true)
    (ty_BadNumber : PySem.W.typeIn K (.ref C_BadNumber) = some (.type "type"))
    (sp_BadNumber : PySem.W.subIn K (.ref C_BadNumber) (.ref C_PlanError) = some true)
    (e1_BadNumber : PySem.W.findIn K (.ref C_BadNumber) "__getattribute__" = some (some (.builtin "BaseException.__getattribute__")))
    (e2_BadNumber : PySem.W.findIn K (.ref C_BadNumber) "__getattr__" = some none)
    (e4_BadNumber : PySem.W.hasDictIn K C_BadNumber = true)
    (e5_BadNumber : PySem.W.findIn K (.ref C_BadNumber) "__class__" = some (some (.builtin "object.__class__")))
    (e6_BadNumber : PySem.W.specialIn K (.builtin "object.__class__") "__get__" = some (some (.builtin "getset_descriptor.__get__")))
    (e7_BadNumber : PySem.W.takesIn K (.builtin "object.__class__") = some true)
    (e8_BadNumber : PySem.W.mroIn K C_BadNumber (.type "object") = some true)
    (ne_BadNumber_NotPlan : (Value.ref C_BadNumber == Value.ref C_NotPlan) = false)
    (sb_BadNumber_NotPlan : PySem.W.subIn K (.ref C_BadNumber) (.ref C_NotPlan) = some false)
    (ne_BadNumber_NotResults : (Value.ref C_BadNumber == Value.ref C_NotResults) = false)
    (sb_BadNumber_NotResults : PySem.W.subIn K (.ref C_BadNumber) (.ref C_NotResults) = some false)
    (ne_BadNumber_NotPattern : (Value.ref C_BadNumber == Value.ref C_NotPattern) = false)
    (sb_BadNumber_NotPattern : PySem.W.subIn K (.ref C_BadNumber) (.ref C_NotPattern) = some false)
    (ne_BadNumber_NotPaper : (Value.ref C_BadNumber == Value.ref C_NotPaper) = false)
    (sb_BadNumber_NotPaper : PySem.W.subIn K (.ref C_BadNumber) (.ref C_NotPaper) = some false)
    (ne_BadNumber_NoAnswer : (Value.ref C_BadNumber == Value.ref C_NoAnswer) = false)
    (sb_BadNumber_NoAnswer : PySem.W.subIn K (.ref C_BadNumber) (.ref C_NoAnswer) = some false)
    (ne_BadNumber_TooLarge : (Value.ref C_BadNumber == Value.ref C_TooLarge) = false)
    (sb_BadNumber_TooLarge : PySem.W.subIn K (.ref C_BadNumber) (.ref C_TooLarge) = some false) : Fx K w mg where
  a_is_integer := a_is_integer
  d_is_integer := PySem.W.fnOf "is_integer" "is_integer" (defArgs s_is_integer) (defBody s_is_integer) (defScope s_is_integer) .none kV_is_integer dc_is_integer pm_is_integer an_is_integer cd_is_integer ct_is_integer
  F_is_integer := fun_mk (st := s_is_integer) l_is_integer c_is_integer k_is_integer
  g_is_integer := PySem.W.mg_of X G n_is_integer
  b_is_integer := (fun_mk (st := s_is_integer) l_is_integer c_is_integer k_is_integer).binds (ps := ["term"]) fun _ _ _ _ _ _ us hl => match us, hl with | [_], _ => rfl
  a_is_row := a_is_row
  d_is_row := PySem.W.fnOf "is_row" "is_row" (defArgs s_is_row) (defBody s_is_row) (defScope s_is_row) .none kV_is_row dc_is_row pm_is_row an_is_row cd_is_row ct_is_row
  F_is_row := fun_mk (st := s_is_row) l_is_row c_is_row k_is_row
  g_is_row := PySem.W.mg_of X G n_is_row
  b_is_row := (fun_mk (st := s_is_row) l_is_row c_is_row k_is_row).binds (ps := ["term"]) fun _ _ _ _ _ _ us hl => match us, hl with | [_], _ => rfl
  a_are_pairs := a_are_pairs
  d_are_pairs := PySem.W.fnOf "are_pairs" "are_pairs" (defArgs s_are_pairs) (defBody s_are_pairs) (defScope s_are_pairs) .none kV_are_pairs dc_are_pairs pm_are_pairs an_are_pairs cd_are_pairs ct_are_pairs
  F_are_pairs := fun_mk (st := s_are_pairs) l_are_pairs c_are_pairs k_are_pairs
  g_are_pairs := PySem.W.mg_of X G n_are_pairs
  b_are_pairs := (fun_mk (st := s_are_pairs) l_are_pairs c_are_pairs k_are_pairs).binds (ps := ["term"]) fun _ _ _ _ _ _ us hl => match us, hl with | [_], _ => rfl
  a_are_rounds := a_are_rounds
  d_are_rounds := PySem.W.fnOf "are_rounds" "are_rounds" (defArgs s_are_rounds) (defBody s_are_rounds) (defScope s_are_rounds) .none kV_are_rounds dc_are_rounds pm_are_rounds an_are_rounds cd_are_rounds ct_are_rounds
  F_are_rounds := fun_mk (st := s_are_rounds) l_are_rounds c_are_rounds k_are_rounds
  g_are_rounds := PySem.W.mg_of X G n_are_rounds
  b_are_rounds := (fun_mk (st := s_are_rounds) l_are_rounds c_are_rounds k_are_rounds).binds (ps := ["term"]) fun _ _ _ _ _ _ us hl => match us, hl with | [_], _ => rfl
  a_are_pots := a_are_pots
  d_are_pots := PySem.W.fnOf "are_pots" "are_pots" (defArgs s_are_pots) (defBody s_are_pots) (defScope s_are_pots) .none kV_are_pots dc_are_pots pm_are_pots an_are_pots cd_are_pots ct_are_pots
  F_are_pots := fun_mk (st := s_are_pots) l_are_pots c_are_pots k_are_pots
  g_are_pots := PySem.W.mg_of X G n_are_pots
  b_are_pots := (fun_mk (st := s_are_pots) l_are_pots c_are_pots k_are_pots).binds (ps := ["term"]) fun _ _ _ _ _ _ us hl => match us, hl with | [_], _ => rfl
  a_has_form := a_has_form
  d_has_form := PySem.W.fnOf "has_form" "has_form" (defArgs s_has_form) (defBody s_has_form) (defScope s_has_form) .none kV_has_form dc_has_form pm_has_form an_has_form cd_has_form ct_has_form
  F_has_form := fun_mk (st := s_has_form) l_has_form c_has_form k_has_form
  g_has_form := PySem.W.mg_of X G n_has_form
  b_has_form := (fun_mk (st := s_has_form) l_has_form c_has_form k_has_form).binds (ps := ["thing", "term"]) fun _ _ _ _ _ _ us hl => match us, hl with | [_, _], _ => rfl
  a_words_of := a_words_of
  d_words_of := PySem.W.fnOf "words_of" "words_of" (defArgs s_words_of) (defBody s_words_of) (defScope s_words_of) .none kV_words_of dc_words_of pm_words_of an_words_of cd_words_of ct_words_of
  F_words_of := fun_mk (st := s_words_of) l_words_of c_words_of k_words_of
  g_words_of := PySem.W.mg_of X G n_words_of
  b_words_of := (fun_mk (st := s_words_of) l_words_of c_words_of k_words_of).binds (ps := ["line"]) fun _ _ _ _ _ _ us hl => match us, hl with | [_], _ => rfl
  a_is_name := a_is_name
  d_is_name := PySem.W.fnOf "is_name" "is_name" (defArgs s_is_name) (defBody s_is_name) (defScope s_is_name) .none kV_is_name dc_is_name pm_is_name an_is_name cd_is_name ct_is_name
  F_is_name := fun_mk (st := s_is_name) l_is_name c_is_name k_is_name
  g_is_name := PySem.W.mg_of X G n_is_name
  b_is_name := (fun_mk (st := s_is_name) l_is_name c_is_name k_is_name).binds (ps := ["word"]) fun _ _ _ _ _ _ us hl => match us, hl with | [_], _ => rfl
  a_number_in := a_number_in
  d_number_in := PySem.W.fnOf "number_in" "number_in" (defArgs s_number_in) (defBody s_number_in) (defScope s_number_in) .none kV_number_in dc_number_in pm_number_in an_number_in cd_number_in ct_number_in
  F_number_in := fun_mk (st := s_number_in) l_number_in c_number_in k_number_in
  g_number_in := PySem.W.mg_of X G n_number_in
  b_number_in := (fun_mk (st := s_number_in) l_number_in c_number_in k_number_in).binds (ps := ["word"]) fun _ _ _ _ _ _ us hl => match us, hl with | [_], _ => rfl
  a__law_number := a__law_number
  d__law_number := PySem.W.fnOf "_law_number" "_law_number" (defArgs s__law_number) (defBody s__law_number) (defScope s__law_number) .none kV__law_number dc__law_number pm__law_number an__law_number cd__law_number ct__law_number
  F__law_number := fun_mk (st := s__law_number) l__law_number c__law_number k__law_number
  g__law_number := PySem.W.mg_of X G n__law_number
  b__law_number := (fun_mk (st := s__law_number) l__law_number c__law_number k__law_number).binds (ps := ["cell"]) fun _ _ _ _ _ _ us hl => match us, hl with | [_], _ => rfl
  a__law_draws := a__law_draws
  d__law_draws := PySem.W.fnOf "_law_draws" "_law_draws" (defArgs s__law_draws) (defBody s__law_draws) (defScope s__law_draws) .none kV__law_draws dc__law_draws pm__law_draws an__law_draws cd__law_draws ct__law_draws
  F__law_draws := fun_mk (st := s__law_draws) l__law_draws c__law_draws k__law_draws
  g__law_draws := PySem.W.mg_of X G n__law_draws
  b__law_draws := (fun_mk (st := s__law_draws) l__law_draws c__law_draws k__law_draws).binds (ps := ["script"]) fun _ _ _ _ _ _ us hl => match us, hl with | [_], _ => rfl
  a__law_next := a__law_next
  d__law_next := PySem.W.fnOf "_law_next" "_law_next" (defArgs s__law_next) (defBody s__law_next) (defScope s__law_next) .none kV__law_next dc__law_next pm__law_next an__law_next cd__law_next ct__law_next
  F__law_next := fun_mk (st := s__law_next) l__law_next c__law_next k__law_next
  g__law_next := PySem.W.mg_of X G n__law_next
  b__law_next := (fun_mk (st := s__law_next) l__law_next c__law_next k__law_next).binds (ps := ["draws"]) fun _ _ _ _ _ _ us hl => match us, hl with | [_], _ => rfl
  a__law_more := a__law_more
  d__law_more := PySem.W.fnOf "_law_more" "_law_more" (defArgs s__law_more) (defBody s__law_more) (defScope s__law_more) .none kV__law_more dc__law_more pm__law_more an__law_more cd__law_more ct__law_more
  F__law_more := fun_mk (st := s__law_more) l__law_more c__law_more k__law_more
  g__law_more := PySem.W.mg_of X G n__law_more
  b__law_more := (fun_mk (st := s__law_more) l__law_more c__law_more k__law_more).binds (ps := ["draws", "many"]) fun _ _ _ _ _ _ us hl => match us, hl with | [_, _], _ => rfl
  a__law_pick := a__law_pick
  d__law_pick := PySem.W.fnOf "_law_pick" "_law_pick" (defArgs s__law_pick) (defBody s__law_pick) (defScope s__law_pick) .none kV__law_pick dc__law_pick pm__law_pick an__law_pick cd__law_pick ct__law_pick
  F__law_pick := fun_mk (st := s__law_pick) l__law_pick c__law_pick k__law_pick
  g__law_pick := PySem.W.mg_of X G n__law_pick
  b__law_pick := (fun_mk (st := s__law_pick) l__law_pick c__law_pick k__law_pick).binds (ps := ["draws", "some"]) fun _ _ _ _ _ _ us hl => match us, hl with | [_, _], _ => rfl
  a__law_kind := a__law_kind
  d__law_kind := PySem.W.fnOf "_law_kind" "_law_kind" (defArgs s__law_kind) (defBody s__law_kind) (defScope s__law_kind) .none kV__law_kind dc__law_kind pm__law_kind an__law_kind cd__law_kind ct__law_kind
  F__law_kind := fun_mk (st := s__law_kind) l__law_kind c__law_kind k__law_kind
  g__law_kind := PySem.W.mg_of X G n__law_kind
  b__law_kind := (fun_mk (st := s__law_kind) l__law_kind c__law_kind k__law_kind).binds (ps := ["error"]) fun _ _ _ _ _ _ us hl => match us, hl with | [_], _ => rfl
  a__law_line := a__law_line
  d__law_line := PySem.W.fnOf "_law_line" "_law_line" (defArgs s__law_line) (defBody s__law_line) (defScope s__law_line) .none kV__law_line dc__law_line pm__law_line an__law_line cd__law_line ct__law_line
  F__law_line := fun_mk (st := s__law_line) l__law_line c__law_line k__law_line
  g__law_line := PySem.W.mg_of X G n__law_line
  b__law_line := (fun_mk (st := s__law_line) l__law_line c__law_line k__law_line).binds (ps := ["line"]) fun _ _ _ _ _ _ us hl => match us, hl with | [_], _ => rfl
  a__law_number_of := a__law_number_of
  d__law_number_of := PySem.W.fnOf "_law_number_of" "_law_number_of" (defArgs s__law_number_of) (defBody s__law_number_of) (defScope s__law_number_of) .none kV__law_number_of dc__law_number_of pm__law_number_of an__law_number_of cd__law_number_of ct__law_number_of
  F__law_number_of := fun_mk (st := s__law_number_of) l__law_number_of c__law_number_of k__law_number_of
  g__law_number_of := PySem.W.mg_of X G n__law_number_of
  b__law_number_of := (fun_mk (st := s__law_number_of) l__law_number_of c__law_number_of k__law_number_of).binds (ps := ["word"]) fun _ _ _ _ _ _ us hl => match us, hl with | [_], _ => rfl
  a__law_is_row := a__law_is_row
  d__law_is_row := PySem.W.fnOf "_law_is_row" "_law_is_row" (defArgs s__law_is_row) (defBody s__law_is_row) (defScope s__law_is_row) .none kV__law_is_row dc__law_is_row pm__law_is_row an__law_is_row cd__law_is_row ct__law_is_row
  F__law_is_row := fun_mk (st := s__law_is_row) l__law_is_row c__law_is_row k__law_is_row
  g__law_is_row := PySem.W.mg_of X G n__law_is_row
  b__law_is_row := (fun_mk (st := s__law_is_row) l__law_is_row c__law_is_row k__law_is_row).binds (ps := ["term"]) fun _ _ _ _ _ _ us hl => match us, hl with | [_], _ => rfl
  a__law_due := a__law_due
  d__law_due := PySem.W.fnOf "_law_due" "_law_due" (defArgs s__law_due) (defBody s__law_due) (defScope s__law_due) .none kV__law_due dc__law_due pm__law_due an__law_due cd__law_due ct__law_due
  F__law_due := fun_mk (st := s__law_due) l__law_due c__law_due k__law_due
  g__law_due := PySem.W.mg_of X G n__law_due
  b__law_due := (fun_mk (st := s__law_due) l__law_due c__law_due k__law_due).binds (ps := ["thing", "term"]) fun _ _ _ _ _ _ us hl => match us, hl with | [_, _], _ => rfl
  a__law_spoilt := a__law_spoilt
  d__law_spoilt := PySem.W.fnOf "_law_spoilt" "_law_spoilt" (defArgs s__law_spoilt) (defBody s__law_spoilt) (defScope s__law_spoilt) .none kV__law_spoilt dc__law_spoilt pm__law_spoilt an__law_spoilt cd__law_spoilt ct__law_spoilt
  F__law_spoilt := fun_mk (st := s__law_spoilt) l__law_spoilt c__law_spoilt k__law_spoilt
  g__law_spoilt := PySem.W.mg_of X G n__law_spoilt
  b__law_spoilt := (fun_mk (st := s__law_spoilt) l__law_spoilt c__law_spoilt k__law_spoilt).binds (ps := ["draws", "term"]) fun _ _ _ _ _ _ us hl => match us, hl with | [_, _], _ => rfl
  a_law := a_law
  d_law := PySem.W.fnOf "law" "law" (defArgs s_law) (defBody s_law) (defScope s_law) .none kV_law dc_law pm_law an_law cd_law ct_law
  F_law := fun_mk (st := s_law) l_law c_law k_law
  g_law := PySem.W.mg_of X G n_law
  b_law := (fun_mk (st := s_law) l_law c_law k_law).binds (ps := ["script"]) fun _ _ _ _ _ _ us hl => match us, hl with | [_], _ => rfl
  z_all := PySem.W.mg_none_of X G z_all
  z_int := PySem.W.mg_none_of X G z_int
  z_isinstance := PySem.W.mg_none_of X G z_isinstance
  z_len := PySem.W.mg_none_of X G z_len
  z_range := PySem.W.mg_none_of X G z_range
  z_repr := PySem.W.mg_none_of X G z_repr
  z_str := PySem.W.mg_none_of X G z_str
  z_tuple := PySem.W.mg_none_of X G z_tuple
  uc_FIGURES := .str "0123456789" t_FIGURES
  gc_FIGURES := PySem.W.mg_of X G n_FIGURES
  rc_FIGURES := ⟨_, rfl⟩
  uc_SMALL := .str "abcdefghijklmnopqrstuvwxyz" t_SMALL
  gc_SMALL := PySem.W.mg_of X G n_SMALL
  rc_SMALL := ⟨_, rfl⟩
  ad_FORMS := ad_FORMS
  gd_FORMS := PySem.W.mg_of X G n_FORMS
  dt_FORMS := ⟨_, _, ⟨l_FORMS, ⟨⟨_, _, rfl, rfl⟩, ⟨⟨_, _, rfl, rfl⟩, ⟨⟨_, _, rfl, rfl⟩, ⟨⟨_, _, rfl, rfl⟩, ⟨⟨_, _, rfl, rfl⟩, trivial⟩⟩⟩⟩⟩, lo_FORMS⟩, .cons ⟨⟨_, rfl⟩, _, PySem.W.mg_of X G n_are_rounds, rfl⟩ (.cons ⟨⟨_, rfl⟩, _, PySem.W.mg_of X G n_are_rounds, rfl⟩ (.cons ⟨⟨_, rfl⟩, _, PySem.W.mg_of X G n_are_pairs, rfl⟩ (.cons ⟨⟨_, rfl⟩, _, PySem.W.mg_of X G n_are_pots, rfl⟩ (.cons ⟨⟨_, rfl⟩, _, PySem.W.mg_of X G n_is_row, rfl⟩ (.nil)))))⟩
  C_PlanError := C_PlanError
  gC_PlanError := PySem.W.mg_of X G n_PlanError
  C_NotPlan := C_NotPlan
  gC_NotPlan := PySem.W.mg_of X G n_NotPlan
  C_NotResults := C_NotResults
  gC_NotResults := PySem.W.mg_of X G n_NotResults
  C_NotPattern := C_NotPattern
  gC_NotPattern := PySem.W.mg_of X G n_NotPattern
  C_NotPaper := C_NotPaper
  gC_NotPaper := PySem.W.mg_of X G n_NotPaper
  C_BadNumber := C_BadNumber
  gC_BadNumber := PySem.W.mg_of X G n_BadNumber
  C_NoAnswer := C_NoAnswer
  gC_NoAnswer := PySem.W.mg_of X G n_NoAnswer
  C_TooLarge := C_TooLarge
  gC_TooLarge := PySem.W.mg_of X G n_TooLarge
  x_BadNumber := x_BadNumber
  kC_BadNumber := kC_BadNumber
  bs_BadNumber := bs_BadNumber
  ty_BadNumber := ty_BadNumber
  em_BadNumber := M.exm_of bs_PlanError ic_PlanError tt_PlanError sp_BadNumber
  ex_BadNumber := ⟨e1_BadNumber, e2_BadNumber, bs_BadNumber, e4_BadNumber, e5_BadNumber, e6_BadNumber, e7_BadNumber, e8_BadNumber⟩
  k_BadNumber_NotPlan := M.kit_of ne_BadNumber_NotPlan ic_NotPlan tt_NotPlan sb_BadNumber_NotPlan
  k_BadNumber_NotResults := M.kit_of ne_BadNumber_NotResults ic_NotResults tt_NotResults sb_BadNumber_NotResults
  k_BadNumber_NotPattern := M.kit_of ne_BadNumber_NotPattern ic_NotPattern tt_NotPattern sb_BadNumber_NotPattern
  k_BadNumber_NotPaper := M.kit_of ne_BadNumber_NotPaper ic_NotPaper tt_NotPaper sb_BadNumber_NotPaper
  k_BadNumber_BadNumber := M.kit_self
  k_BadNumber_NoAnswer := M.kit_of ne_BadNumber_NoAnswer ic_NoAnswer tt_NoAnswer sb_BadNumber_NoAnswer
  k_BadNumber_TooLarge := M.kit_of ne_BadNumber_TooLarge ic_TooLarge tt_TooLarge sb_BadNumber_TooLarge
theorem law_end {P : Program} {w : World} {K : PySem.W.Frag} {mg : PySem.Str → Option Value} {h : Heap} {fa : Addr} (X : K.In h) (G : h.Ns mainGlobals mg) (hfa : mg "law" = some (.ref fa)) (Z : Fx K w mg) :
    ∃ fd : FuncData, (∀ (s : Shared) (v : Value), BindsTo s fd ⟨[v], []⟩ [("script", v)]) ∧ ∀ base : Heap, K.In base → base.Ns mainGlobals mg → FnG P w K mg base 11 fa fd ["script"] (spM ⟨K, mg⟩ f_law) := by
  have e := hfa.symm.trans Z.g_law
  cases e
  refine ⟨Z.d_law, fun s v => ?_, fun base _ _ => ok_law Z⟩
  obtain ⟨oc, od, kV, doc, pm, an, cdv, ct, osl, e, lk, hcd⟩ := Z.F_law.ex
  rw [e]
  exact .of_eq rfl
end G21
open PySem PySem.W PyProof.Rows
set_option maxHeartbeats 0 in
theorem PySem.Challenge.cw_homeandaway_k21_lines_and_forms_holds : PySem.Challenge.rw_homeandaway_k21_lines_and_forms.Holds := by
  w_on; o_law; k_head; (case hw => w_witness2)
  k_fill
  refine' M.walkG (l := PySem.Challenge.rw_homeandaway_k21_lines_and_forms) (k := 11) (x := "script") (g := G21.f_law) rfl rfl ⟨rfl, by decide, by decide⟩ (fun w h Y => PySem.W.kIn_of Y) ?F G21.law_holds
  case F =>
    intro w mg fa h KX G hmg
    refine' G21.law_end KX G hmg (G21.mkFx KX G ?n_is_integer ?l_is_integer ?c_is_integer ?k_is_integer ?n_is_row ?l_is_row ?c_is_row ?k_is_row ?n_are_pairs ?l_are_pairs ?c_are_pairs ?k_are_pairs ?n_are_rounds ?l_are_rounds ?c_are_rounds ?k_are_rounds ?n_are_pots ?l_are_pots ?c_are_pots ?k_are_pots ?n_has_form ?l_has_form ?c_has_form ?k_has_form ?n_words_of ?l_words_of ?c_words_of ?k_words_of ?n_is_name ?l_is_name ?c_is_name ?k_is_name ?n_number_in ?l_number_in ?c_number_in ?k_number_in ?n__law_number ?l__law_number ?c__law_number ?k__law_number ?n__law_draws ?l__law_draws ?c__law_draws ?k__law_draws ?n__law_next ?l__law_next ?c__law_next ?k__law_next ?n__law_more ?l__law_more ?c__law_more ?k__law_more ?n__law_pick ?l__law_pick ?c__law_pick ?k__law_pick ?n__law_kind ?l__law_kind ?c__law_kind ?k__law_kind ?n__law_line ?l__law_line ?c__law_line ?k__law_line ?n__law_number_of ?l__law_number_of ?c__law_number_of ?k__law_number_of ?n__law_is_row ?l__law_is_row ?c__law_is_row ?k__law_is_row ?n__law_due ?l__law_due ?c__law_due ?k__law_due ?n__law_spoilt ?l__law_spoilt ?c__law_spoilt ?k__law_spoilt ?n_law ?l_law ?c_law ?k_law ?z_all ?z_int ?z_isinstance ?z_len ?z_range ?z_repr ?z_str ?z_tuple ?n_FIGURES ?n_SMALL ?n_FORMS ?l_FORMS ?lo_FORMS ?n_PlanError ?ic_PlanError ?tt_PlanError ?bs_PlanError ?n_NotPlan ?ic_NotPlan ?tt_NotPlan ?n_NotResults ?ic_NotResults ?tt_NotResults ?n_NotPattern ?ic_NotPattern ?tt_NotPattern ?n_NotPaper ?ic_NotPaper ?tt_NotPaper ?n_BadNumber ?ic_BadNumber ?tt_BadNumber ?n_NoAnswer ?ic_NoAnswer ?tt_NoAnswer ?n_TooLarge ?ic_TooLarge ?tt_TooLarge ?x_BadNumber ?kC_BadNumber ?bs_BadNumber ?ty_BadNumber ?sp_BadNumber ?e1_BadNumber ?e2_BadNumber ?e4_BadNumber ?e5_BadNumber ?e6_BadNumber ?e7_BadNumber ?e8_BadNumber ?ne_BadNumber_NotPlan ?sb_BadNumber_NotPlan ?ne_BadNumber_NotResults ?sb_BadNumber_NotResults ?ne_BadNumber_NotPattern ?sb_BadNumber_NotPattern ?ne_BadNumber_NotPaper ?sb_BadNumber_NotPaper ?ne_BadNumber_NoAnswer ?sb_BadNumber_NoAnswer ?ne_BadNumber_TooLarge ?sb_BadNumber_TooLarge)
    case n_is_integer => k_is
    case l_is_integer => k_is
    case c_is_integer => k_is
    case k_is_integer => k_is
    case n_is_row => k_is
    case l_is_row => k_is
    case c_is_row => k_is
    case k_is_row => k_is
    case n_are_pairs => k_is
    case l_are_pairs => k_is
    case c_are_pairs => k_is
    case k_are_pairs => k_is
    case n_are_rounds => k_is
    case l_are_rounds => k_is
    case c_are_rounds => k_is
    case k_are_rounds => k_is
    case n_are_pots => k_is
    case l_are_pots => k_is
    case c_are_pots => k_is
    case k_are_pots => k_is
    case n_has_form => k_is
    case l_has_form => k_is
    case c_has_form => k_is
    case k_has_form => k_is
    case n_words_of => k_is
    case l_words_of => k_is
    case c_words_of => k_is
    case k_words_of => k_is
    case n_is_name => k_is
    case l_is_name => k_is
    case c_is_name => k_is
    case k_is_name => k_is
    case n_number_in => k_is
    case l_number_in => k_is
    case c_number_in => k_is
    case k_number_in => k_is
    case n__law_number => k_is
    case l__law_number => k_is
    case c__law_number => k_is
    case k__law_number => k_is
    case n__law_draws => k_is
    case l__law_draws => k_is
    case c__law_draws => k_is
    case k__law_draws => k_is
    case n__law_next => k_is
    case l__law_next => k_is
    case c__law_next => k_is
    case k__law_next => k_is
    case n__law_more => k_is
    case l__law_more => k_is
    case c__law_more => k_is
    case k__law_more => k_is
    case n__law_pick => k_is
    case l__law_pick => k_is
    case c__law_pick => k_is
    case k__law_pick => k_is
    case n__law_kind => k_is
    case l__law_kind => k_is
    case c__law_kind => k_is
    case k__law_kind => k_is
    case n__law_line => k_is
    case l__law_line => k_is
    case c__law_line => k_is
    case k__law_line => k_is
    case n__law_number_of => k_is
    case l__law_number_of => k_is
    case c__law_number_of => k_is
    case k__law_number_of => k_is
    case n__law_is_row => k_is
    case l__law_is_row => k_is
    case c__law_is_row => k_is
    case k__law_is_row => k_is
    case n__law_due => k_is
    case l__law_due => k_is
    case c__law_due => k_is
    case k__law_due => k_is
    case n__law_spoilt => k_is
    case l__law_spoilt => k_is
    case c__law_spoilt => k_is
    case k__law_spoilt => k_is
    case n_law => k_is
    case l_law => k_is
    case c_law => k_is
    case k_law => k_is
    case z_all => k_is
    case z_int => k_is
    case z_isinstance => k_is
    case z_len => k_is
    case z_range => k_is
    case z_repr => k_is
    case z_str => k_is
    case z_tuple => k_is
    case n_FIGURES => k_is
    case n_SMALL => k_is
    case n_FORMS => k_is
    case l_FORMS => k_is
    case lo_FORMS => rfl
    case n_PlanError => k_is
    case ic_PlanError => k_is
    case tt_PlanError => k_is
    case bs_PlanError => k_is
    case n_NotPlan => k_is
    case ic_NotPlan => k_is
    case tt_NotPlan => k_is
    case n_NotResults => k_is
    case ic_NotResults => k_is
    case tt_NotResults => k_is
    case n_NotPattern => k_is
    case ic_NotPattern => k_is
    case tt_NotPattern => k_is
    case n_NotPaper => k_is
    case ic_NotPaper => k_is
    case tt_NotPaper => k_is
    case n_BadNumber => k_is
    case ic_BadNumber => k_is
    case tt_BadNumber => k_is
    case n_NoAnswer => k_is
    case ic_NoAnswer => k_is
    case tt_NoAnswer => k_is
    case n_TooLarge => k_is
    case ic_TooLarge => k_is
    case tt_TooLarge => k_is
    case x_BadNumber => k_exc
    case kC_BadNumber => k_is
    case bs_BadNumber => k_is
    case ty_BadNumber => k_is
    case sp_BadNumber => k_is
    case e1_BadNumber => k_is
    case e2_BadNumber => k_is
    case e4_BadNumber => k_is
    case e5_BadNumber => k_is
    case e6_BadNumber => k_is
    case e7_BadNumber => k_is
    case e8_BadNumber => k_is
    case ne_BadNumber_NotPlan => rfl
    case sb_BadNumber_NotPlan => k_is
    case ne_BadNumber_NotResults => rfl
    case sb_BadNumber_NotResults => k_is
    case ne_BadNumber_NotPattern => rfl
    case sb_BadNumber_NotPattern => k_is
    case ne_BadNumber_NotPaper => rfl
    case sb_BadNumber_NotPaper => k_is
    case ne_BadNumber_NoAnswer => rfl
    case sb_BadNumber_NoAnswer => k_is
    case ne_BadNumber_TooLarge => rfl
    case sb_BadNumber_TooLarge => k_is

