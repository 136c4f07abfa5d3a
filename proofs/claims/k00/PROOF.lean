import PyProof.Rows.All
import Wide.All
import OpenK.AllK
import Wide.FinOn
import HandS.ForMost
import HandS.ForExc
import HandS.CallSlots
import HandS.HotCalls
import HandS.ExcIs
import HandS.IsInst
import HandS.WideBits
import HandS.SortInts
import HandS.TupAny
import HandS.Deep
import HandS.Style
import HandS.RaiseMore
import HandS.More
import HandS.TryOnly
import HandS.Sort
import HandS.Small
import PyProof.ListRange
import PyProof.CollectWalk
import KE.SortData
import HandS.SetKeys
import HandS.DictComp
import HandS.TupMul
import KE.GoesMore
import PyProof.Draws
import HandS.Zip
import PyProof.Rows.RegFStrParts
import PyProof.P3Eq
import KE.KRevSl
import KE.KBits
import KE.BitLaws
import PySem.Challenge.RW_homeandaway_k00_plans_and_patterns
set_option Elab.async false
set_option linter.all false
set_option maxRecDepth 100000
set_option maxHeartbeats 4000000
/-! A layer of plain data over HandS: values D, lists at places (a store), what an expression computes as a plain function. -/
namespace M
open PySem PySem.Spec PyProof.Rows L2

/-- plain data, by value -/
inductive D where
  | non | bl (b : Bool) | int (i : Int) | str (x : PySem.Str) | tup (xs : List D) | lst (xs : List D) | fn (x : PySem.Str) | kl (xs : List D) | raw (a : Addr)
  | fdk (ks : List L2.Key) (vs : List D) | fdt (ks : List (List L2.Key)) (vs : List D)
/-- what stands at a place: a list, a dict (keys: ints and texts; or tuples of them), or what is known never to change any more -/
inductive Ob where
  | li (ds : List D) | dk (ks : List L2.Key) (vs : List D) | dt (ks : List (List L2.Key)) (vs : List D) | fz (d : D)
/-- .. as data -/
def Ob.D : Ob → D
  | .li ds => .lst ds
  | .dk ks vs => .fdk ks vs
  | .dt ks vs => .fdt ks vs
  | .fz d => d

/-- what an expression gives: data, an object at a place of the store, or a new one -/
inductive Val where
  | v (d : D) | l (n : Nat) | n (o : Ob)

abbrev Sto := List (Option Ob)
abbrev MEnv := List (Option Val)
/-- an exception: its class, and a field with an int (or none) -/
structure Exc where
  cls : PySem.Str
  fld : Option (PySem.Str × Int) := none

inductive R (α : Type) where
  | ok (a : α) (S : Sto) | er (e : Exc) (S : Sto) | bad
def R.bind {α β : Type} (r : R α) (f : α → Sto → R β) : R β := match r with
  | .ok a S => f a S
  | .er e S => .er e S
  | .bad => .bad
inductive RS where
  | nx (ρ : MEnv) (S : Sto) | rt (x : Val) (S : Sto) | bk (ρ : MEnv) (S : Sto) | ct (ρ : MEnv) (S : Sto) | er (e : Exc) (ρ : MEnv) (S : Sto) | bad
abbrev EM := MEnv → Sto → R D
abbrev VM := MEnv → Sto → R Val
abbrev TM := MEnv → Sto → R Bool
abbrev AM := MEnv → Sto → R (List Val)
abbrev SM := MEnv → Sto → RS
abbrev MFn := List Val → Sto → R Val

/-! ### what stands for what -/
structure RC where
  K : PySem.W.Frag
  mg : PySem.Str → Option Value

/-- a list that never changes any more -/
def FzL (K : PySem.W.Frag) (H : Hp) (a : Addr) (xs : List V) : Prop :=
  ∃ o, H a = some (.frz o (.lst xs))
theorem FzL.rd {K : PySem.W.Frag} {H : Hp} {a : Addr} {xs : List V} (h : FzL K H a xs) : Rd H a (.lst xs) := .inr h
/-- a list of the written part, or one that never changes (the script) -/
def KlL (K : PySem.W.Frag) (H : Hp) (a : Addr) (xs : List V) : Prop := (∃ o, H a = some (.frz o (.lst xs))) ∨
    ∃ (o : Obj) (its : Array Value) (n : Nat), K.lookup a = some o ∧ o.cls = .type "list" ∧ o.dict = none ∧ o.data = .seq its n ∧ its.size ≤ sizeLine ∧ Vals xs its.toList
theorem KlL.seq {K : PySem.W.Frag} {H : Hp} {a : Addr} {xs : List V} (h : KlL K H a xs) : SqL K H a xs := by
  rcases h with h | h
  · exact .inl (.inr h)
  · exact .inr h

mutual
def Rep (c : RC) (H : Hp) : D → V → Prop
  | .non, v => v = .non
  | .bl b, v => v = .bl b
  | .int i, v => v = .int i
  | .str x, v => v = .str x
  | .tup ds, v => ∃ a xs, v = .ref a ∧ H a = some (.tup xs) ∧ Reps c H ds xs
  | .lst ds, v => ∃ a xs, v = .ref a ∧ FzL c.K H a xs ∧ Reps c H ds xs
  | .fn x, v => ∃ a, c.mg x = some (.ref a) ∧ v = .ref a
  | .kl ds, v => ∃ a xs, v = .ref a ∧ KlL c.K H a xs ∧ Reps c H ds xs
  | .raw a, v => v = .ref a
  | .fdk ks ds, v => ∃ a xs, v = .ref a ∧ (∃ o, H a = some (.frz o (.dK (ks.zip xs)))) ∧ ks.length = xs.length ∧ Reps c H ds xs
  | .fdt ks ds, v => ∃ a xs, v = .ref a ∧ (∃ o, H a = some (.frz o (.dT (ks.zip xs)))) ∧ ks.length = xs.length ∧ Reps c H ds xs
def Reps (c : RC) (H : Hp) : List D → List V → Prop
  | [], xs => xs = []
  | d :: ds, xs => ∃ x r, xs = x :: r ∧ Rep c H d x ∧ Reps c H ds r
end

/-- what never changes stands -/
def LeH (H H' : Hp) : Prop := ∀ a, (∀ xs, H a = some (.tup xs) → H' a = some (.tup xs)) ∧ (∀ o u, H a = some (.frz o u) → H' a = some (.frz o u))
theorem LeH.refl (H : Hp) : LeH H H := fun _ => ⟨fun _ h => h, fun _ _ h => h⟩
theorem LeH.trans {H H1 H2 : Hp} (a : LeH H H1) (b : LeH H1 H2) : LeH H H2 := fun x => ⟨fun xs h => (b x).1 xs ((a x).1 xs h), fun o u h => (b x).2 o u ((a x).2 o u h)⟩
theorem LeH.sqT {K : PySem.W.Frag} {H H' : Hp} {a : Addr} {xs : List V} (l : LeH H H') (h : SqT K H a xs) : SqT K H' a xs := by
  rcases h with (h | ⟨o, h⟩) | h
  · exact .inl (.inl ((l a).1 _ h))
  · exact .inl (.inr ⟨o, (l a).2 _ _ h⟩)
  · exact .inr h
theorem tupQ {K : PySem.W.Frag} {H : Hp} {a : Addr} {xs : List V} (h : H a = some (.tup xs)) : SqT K H a xs := .inl (.inl h)
theorem LeH.fzL {K : PySem.W.Frag} {H H' : Hp} {a : Addr} {xs : List V} (l : LeH H H') (h : FzL K H a xs) : FzL K H' a xs := by
  obtain ⟨o, h⟩ := h
  exact ⟨o, (l a).2 _ _ h⟩
theorem LeH.klL {K : PySem.W.Frag} {H H' : Hp} {a : Addr} {xs : List V} (l : LeH H H') (h : KlL K H a xs) : KlL K H' a xs := by
  rcases h with ⟨o, h⟩ | h
  · exact .inl ⟨o, (l a).2 _ _ h⟩
  · exact .inr h
mutual
theorem Rep.mono {c : RC} {H H' : Hp} (l : LeH H H') : ∀ {d : D} {v : V}, Rep c H d v → Rep c H' d v
  | .non, _, h => h
  | .bl _, _, h => h
  | .int _, _, h => h
  | .str _, _, h => h
  | .tup ds, _, h => by
    simp only [Rep] at h ⊢
    obtain ⟨a, xs, e, q, r⟩ := h
    exact ⟨a, xs, e, (l a).1 _ q, Reps.mono l r⟩
  | .lst ds, _, h => by
    simp only [Rep] at h ⊢
    obtain ⟨a, xs, e, q, r⟩ := h
    exact ⟨a, xs, e, l.fzL q, Reps.mono l r⟩
  | .fn _, _, h => h
  | .kl ds, _, h => by
    simp only [Rep] at h ⊢
    obtain ⟨a, xs, e, q, r⟩ := h
    exact ⟨a, xs, e, l.klL q, Reps.mono l r⟩
  | .raw _, _, h => h
  | .fdk _ ds, _, h => by
    simp only [Rep] at h ⊢
    obtain ⟨a, xs, e, ⟨o, q⟩, z, r⟩ := h
    exact ⟨a, xs, e, ⟨o, (l a).2 _ _ q⟩, z, Reps.mono l r⟩
  | .fdt _ ds, _, h => by
    simp only [Rep] at h ⊢
    obtain ⟨a, xs, e, ⟨o, q⟩, z, r⟩ := h
    exact ⟨a, xs, e, ⟨o, (l a).2 _ _ q⟩, z, Reps.mono l r⟩
theorem Reps.mono {c : RC} {H H' : Hp} (l : LeH H H') : ∀ {ds : List D} {xs : List V}, Reps c H ds xs → Reps c H' ds xs
  | [], _, h => h
  | d :: ds, _, h => by
    simp only [Reps] at h ⊢
    obtain ⟨x, r, e, q, t⟩ := h
    exact ⟨x, r, e, Rep.mono l q, Reps.mono l t⟩
end
theorem Reps.length {c : RC} {H : Hp} : ∀ {ds : List D} {xs : List V}, Reps c H ds xs → ds.length = xs.length
  | [], _, h => by
    simp only [Reps] at h
    subst h
    rfl
  | d :: ds, _, h => by
    simp only [Reps] at h
    obtain ⟨x, r, rfl, _, t⟩ := h
    simp [Reps.length t]
theorem Reps.get {c : RC} {H : Hp} : ∀ {ds : List D} {xs : List V} {i : Nat} {d : D}, Reps c H ds xs → ds[i]? = some d → ∃ x, xs[i]? = some x ∧ Rep c H d x
  | [], _, i, _, _, e => by simp at e
  | d :: ds, _, 0, _, h, e => by
    simp only [Reps] at h
    obtain ⟨x, r, rfl, q, t⟩ := h
    simp at e
    subst e
    exact ⟨x, rfl, q⟩
  | d :: ds, _, i + 1, _, h, e => by
    simp only [Reps] at h
    obtain ⟨x, r, rfl, q, t⟩ := h
    exact Reps.get (i := i) t (by simpa using e)
theorem Reps.append {c : RC} {H : Hp} : ∀ {ds es : List D} {xs ys : List V}, Reps c H ds xs → Reps c H es ys → Reps c H (ds ++ es) (xs ++ ys)
  | [], _, _, _, h, q => by
    simp only [Reps] at h
    subst h
    exact q
  | d :: ds, es, _, ys, h, q => by
    simp only [Reps] at h
    obtain ⟨x, r, rfl, q1, t⟩ := h
    show Reps c H (d :: (ds ++ es)) (x :: (r ++ ys))
    simp only [Reps]
    exact ⟨x, _, rfl, q1, Reps.append t q⟩
theorem Reps.cons {c : RC} {H : Hp} {d : D} {x : V} {ds : List D} {xs : List V} (h : Rep c H d x) (q : Reps c H ds xs) : Reps c H (d :: ds) (x :: xs) := by
  simp only [Reps]
  exact ⟨x, xs, rfl, h, q⟩
theorem Reps.nil {c : RC} {H : Hp} : Reps c H [] [] := by simp only [Reps]
theorem Reps.one {c : RC} {H : Hp} {d : D} {x : V} (h : Rep c H d x) : Reps c H [d] [x] := .cons h .nil
theorem Reps.take {c : RC} {H : Hp} : ∀ (n : Nat) {ds : List D} {xs : List V}, Reps c H ds xs → Reps c H (ds.take n) (xs.take n)
  | 0, _, _, _ => by simp only [List.take_zero]; exact .nil
  | n + 1, [], _, h => by
    simp only [Reps] at h
    subst h
    exact .nil
  | n + 1, d :: ds, _, h => by
    simp only [Reps] at h
    obtain ⟨x, r, rfl, q, t⟩ := h
    exact .cons q (Reps.take n t)
theorem Reps.drop {c : RC} {H : Hp} : ∀ (n : Nat) {ds : List D} {xs : List V}, Reps c H ds xs → Reps c H (ds.drop n) (xs.drop n)
  | 0, _, _, h => h
  | n + 1, [], _, h => by
    simp only [Reps] at h
    subst h
    exact .nil
  | n + 1, d :: ds, _, h => by
    simp only [Reps] at h
    obtain ⟨x, r, rfl, q, t⟩ := h
    exact Reps.drop n t
theorem Reps.reverse {c : RC} {H : Hp} : ∀ {ds : List D} {xs : List V}, Reps c H ds xs → Reps c H ds.reverse xs.reverse
  | [], _, h => by
    simp only [Reps] at h
    subst h
    exact .nil
  | d :: ds, _, h => by
    simp only [Reps] at h
    obtain ⟨x, r, rfl, q, t⟩ := h
    rw [List.reverse_cons, List.reverse_cons]
    exact (Reps.reverse t).append (.one q)
theorem Reps.set {c : RC} {H : Hp} {d : D} {x : V} (h : Rep c H d x) : ∀ (i : Nat) {ds : List D} {xs : List V}, Reps c H ds xs → Reps c H (ds.set i d) (xs.set i x)
  | _, [], _, t => by
    simp only [Reps] at t
    subst t
    exact .nil
  | 0, _ :: _, _, t => by
    simp only [Reps] at t
    obtain ⟨y, r, rfl, q, t⟩ := t
    exact .cons h t
  | i + 1, _ :: _, _, t => by
    simp only [Reps] at t
    obtain ⟨y, r, rfl, q, t⟩ := t
    exact .cons q (Reps.set h i t)
theorem Reps.ints {c : RC} {H : Hp} : ∀ ns : List Int, Reps c H (ns.map D.int) (ns.map V.int)
  | [] => .nil
  | n :: r => .cons (by simp only [Rep]) (Reps.ints r)

/-! ### the store, the slots -/
/-- the heap may grow: what is in no place of α stands as it was; places are only added, of new objects -/
structure Ext (α α' : List Addr) (H H' : Hp) : Prop where
  pre : ∃ β, α' = α ++ β
  fr : ∀ a o, H a = some o → a ∉ α → H' a = some o
  nw : ∀ a, a ∈ α' → a ∉ α → H a = none
  le : LeH H H'
theorem Ext.refl (α : List Addr) (H : Hp) : Ext α α H H := ⟨⟨[], by simp⟩, fun _ _ h _ => h, fun a h n => absurd h n, LeH.refl H⟩
theorem Ext.trans {α α1 α2 : List Addr} {H H1 H2 : Hp} (a : Ext α α1 H H1) (b : Ext α1 α2 H1 H2) : Ext α α2 H H2 := by
  obtain ⟨⟨β, rfl⟩, f1, n1, l1⟩ := a
  obtain ⟨⟨γ, rfl⟩, f2, n2, l2⟩ := b
  have key : ∀ x o, H x = some o → x ∉ α → x ∉ α ++ β := fun x o h n hm => by
    have := n1 x hm n
    rw [h] at this
    cases this
  refine ⟨⟨β ++ γ, by rw [List.append_assoc]⟩, fun x o h n => f2 x o (f1 x o h n) (key x o h n), fun x hm n => ?_, l1.trans l2⟩
  cases q : H x with
  | none => rfl
  | some o =>
    have h1 := f1 x o q n
    have h2 := n2 x hm (key x o q n)
    rw [h1] at h2
    cases h2
theorem Ext.of_same {α : List Addr} {H H' : Hp} (h : Same H H') : Ext α α H H' := ⟨⟨[], by simp⟩, fun a o e _ => h a o e, fun a h n => absurd h n, fun a => ⟨fun xs e => h _ _ e, fun o u e => h _ _ e⟩⟩

/-- what an object at a stands for -/
def RepO (c : RC) (H : Hp) : Ob → Addr → Prop
  | .li ds, a => ∃ xs, H a = some (.lst xs) ∧ Reps c H ds xs
  | .dk ks ds, a => ∃ xs, H a = some (.dK (ks.zip xs)) ∧ ks.length = xs.length ∧ Reps c H ds xs
  | .dt ks ds, a => ∃ xs, H a = some (.dT (ks.zip xs)) ∧ ks.length = xs.length ∧ Reps c H ds xs
  | .fz d, a => Rep c H d (.ref a) ∧ ∃ o u, H a = some (.frz o u)
theorem RepO.mono {c : RC} {H H' : Hp} (l : LeH H H') {o : Ob} {a : Addr} (k : ∀ u, H a = some u → H' a = some u) (h : RepO c H o a) : RepO c H' o a := by
  cases o with
  | li ds =>
    obtain ⟨xs, e, r⟩ := h
    exact ⟨xs, k _ e, r.mono l⟩
  | dk ks ds =>
    obtain ⟨xs, e, z, r⟩ := h
    exact ⟨xs, k _ e, z, r.mono l⟩
  | dt ks ds =>
    obtain ⟨xs, e, z, r⟩ := h
    exact ⟨xs, k _ e, z, r.mono l⟩
  | fz d =>
    obtain ⟨r, o, u, e⟩ := h
    exact ⟨r.mono l, o, u, k _ e⟩
theorem RepO.is_ {c : RC} {H : Hp} {o : Ob} {a : Addr} (h : RepO c H o a) : ∃ u, H a = some u ∧ ∀ xs, u ≠ .tup xs := by
  cases o with
  | li ds =>
    obtain ⟨xs, e, r⟩ := h
    exact ⟨_, e, fun _ => nofun⟩
  | dk ks ds =>
    obtain ⟨xs, e, z, r⟩ := h
    exact ⟨_, e, fun _ => nofun⟩
  | dt ks ds =>
    obtain ⟨xs, e, z, r⟩ := h
    exact ⟨_, e, fun _ => nofun⟩
  | fz d =>
    obtain ⟨r, o, u, e⟩ := h
    exact ⟨_, e, fun _ => nofun⟩
structure RelS (c : RC) (α : List Addr) (H : Hp) (S : Sto) : Prop where
  len : α.length = S.length
  nd : α.Nodup
  tr : ∀ a ∈ α, H a ≠ none
  at_ : ∀ (n : Nat) (o : Ob), S[n]? = some (some o) → ∃ a, α[n]? = some a ∧ RepO c H o a
/-- what a slot, an argument stands for -/
def RepA (c : RC) (α : List Addr) (H : Hp) : Val → V → Prop
  | .v d, v => Rep c H d v
  | .l n, v => ∃ a, α[n]? = some a ∧ v = .ref a
  | .n _, _ => False
/-- what an expression's value stands for -/
def RepX (c : RC) (α : List Addr) (H : Hp) : Val → V → Prop
  | .v d, v => Rep c H d v
  | .l n, v => ∃ a, α[n]? = some a ∧ v = .ref a
  | .n o, v => ∃ a, v = .ref a ∧ RepO c H o a ∧ a ∉ α
def Fresh (H : Hp) : Val → V → Prop
  | .n _, v => ∀ a, v = .ref a → H a = none
  | _, _ => True
structure RelE (c : RC) (α : List Addr) (H : Hp) (ρ : MEnv) (σ : L2.St) : Prop where
  le : ρ.length ≤ σ.length
  at_ : ∀ (i : Nat) (x : Val), ρ[i]? = some (some x) → ∃ v, σ[i]? = some (some v) ∧ RepA c α H x v

theorem pre_get {α α' : List Addr} {n : Nat} {a : Addr} (p : ∃ β, α' = α ++ β) (h : α[n]? = some a) : α'[n]? = some a := by
  obtain ⟨β, rfl⟩ := p
  rw [List.getElem?_append_left (List.getElem?_eq_some_iff.mp h).1]
  exact h
theorem RepA.mono {c : RC} {α α' : List Addr} {H H' : Hp} (x : Ext α α' H H') {y : Val} {v : V} (h : RepA c α H y v) : RepA c α' H' y v := by
  cases y with
  | v d => exact Rep.mono x.le h
  | l n =>
    obtain ⟨a, e, q⟩ := h
    exact ⟨a, pre_get x.pre e, q⟩
  | n ds => exact h.elim
theorem RepX.mono {c : RC} {α α' : List Addr} {H H' : Hp} (x : Ext α α' H H') {y : Val} {v : V} (h : RepX c α H y v) : RepX c α' H' y v := by
  cases y with
  | v d => exact Rep.mono x.le h
  | l n =>
    obtain ⟨a, e, q⟩ := h
    exact ⟨a, pre_get x.pre e, q⟩
  | n o =>
    obtain ⟨a, e, r, na⟩ := h
    obtain ⟨u, ha, _⟩ := r.is_
    refine ⟨a, e, r.mono x.le (fun u q => x.fr a u q na), fun hm => ?_⟩
    have := x.nw a hm na
    rw [ha] at this
    cases this
theorem RelE.mono {c : RC} {α α' : List Addr} {H H' : Hp} (x : Ext α α' H H') {ρ : MEnv} {σ : L2.St} (h : RelE c α H ρ σ) : RelE c α' H' ρ σ := ⟨h.le, fun i y e => by
  obtain ⟨v, e1, r⟩ := h.at_ i y e
  exact ⟨v, e1, r.mono x⟩⟩
theorem RepA.X {c : RC} {α : List Addr} {H : Hp} {y : Val} {v : V} (h : RepA c α H y v) : RepX c α H y v := by
  cases y with
  | v d => exact h
  | l n => exact h
  | n ds => exact h.elim
theorem RelS.new {c : RC} {α : List Addr} {H : Hp} {S : Sto} (h : RelS c α H S) {a : Addr} (e : H a = none) : a ∉ α := fun hm => h.tr a hm e
theorem RelS.here {c : RC} {α : List Addr} {H : Hp} {S : Sto} (h : RelS c α H S) : ∀ a ∈ α, ∃ n, α[n]? = some a ∧ n < S.length := fun a hm => by
  obtain ⟨n, hn, e⟩ := List.mem_iff_getElem.mp hm
  exact ⟨n, by rw [List.getElem?_eq_getElem hn, e], by rw [← h.len]; exact hn⟩
/-- new objects beside the store -/
theorem RelS.same {c : RC} {α : List Addr} {H H' : Hp} {S : Sto} (h : RelS c α H S) (s : Same H H') : RelS c α H' S :=
  ⟨h.len, h.nd, fun a hm => by
    cases q : H a with
    | none => exact absurd q (h.tr a hm)
    | some o => rw [s a o q]; simp, fun n ds e => by
    obtain ⟨a, e1, r⟩ := h.at_ n ds e
    exact ⟨a, e1, r.mono (fun b => ⟨fun _ q => s _ _ q, fun _ _ q => s _ _ q⟩) fun u q => s _ _ q⟩⟩
/-- a place is added -/
theorem RelS.push {c : RC} {α : List Addr} {H : Hp} {S : Sto} {a : Addr} {o : Ob} (h : RelS c α H S) (na : a ∉ α) (r : RepO c H o a) : RelS c (α ++ [a]) H (S ++ [some o]) := by
  refine ⟨by simp [h.len], ?_, fun b hb => ?_, fun n es e => ?_⟩
  · rw [List.nodup_append]
    exact ⟨h.nd, by simp, fun x hx y hy => by
      simp at hy
      subst hy
      intro q
      subst q
      exact na hx⟩
  · rcases List.mem_append.mp hb with hb | hb
    · exact h.tr b hb
    · simp at hb
      subst hb
      obtain ⟨u, e, _⟩ := r.is_
      rw [e]
      simp
  · by_cases hn : n < S.length
    · rw [List.getElem?_append_left hn] at e
      obtain ⟨b, e1, r2⟩ := h.at_ n es e
      exact ⟨b, pre_get ⟨_, rfl⟩ e1, r2⟩
    · have hn2 : n = S.length := by
        have := (List.getElem?_eq_some_iff.mp e).1
        simp at this
        omega
      subst hn2
      simp at e
      subst e
      exact ⟨a, by rw [← h.len]; simp, r⟩
/-- the list at a place -/
def liAt (S : Sto) (n : Nat) : Option (List D) := match S[n]? with
  | some (some (.li ds)) => some ds
  | _ => none
theorem liAt_iff {S : Sto} {n : Nat} {ds : List D} : liAt S n = some ds ↔ S[n]? = some (some (.li ds)) := by
  unfold liAt
  constructor
  · intro h
    split at h
    · rename_i e
      cases h
      exact e
    · cases h
  · intro h
    rw [h]
theorem RelS.li {c : RC} {α : List Addr} {H : Hp} {S : Sto} (h : RelS c α H S) (n : Nat) (ds : List D) (e : liAt S n = some ds) : ∃ a xs, α[n]? = some a ∧ H a = some (.lst xs) ∧ Reps c H ds xs := by
  obtain ⟨a, e1, xs, e2, r⟩ := h.at_ n _ (liAt_iff.mp e)
  exact ⟨a, xs, e1, e2, r⟩
/-- a slot is set -/
theorem RelE.set {c : RC} {α : List Addr} {H : Hp} {ρ : MEnv} {σ : L2.St} (h : RelE c α H ρ σ) {x : Val} {v : V} (r : RepA c α H x v) (i : Nat) : RelE c α H (ρ.set i (some x)) (σ.set i (some v)) := by
  refine ⟨by simpa using h.le, fun j y e => ?_⟩
  by_cases hj : i = j
  · subst hj
    have hi : i < ρ.length := by
      have := (List.getElem?_eq_some_iff.mp e).1
      simpa using this
    rw [List.getElem?_set_self hi] at e
    cases e
    exact ⟨v, List.getElem?_set_self (Nat.lt_of_lt_of_le hi h.le), r⟩
  · rw [List.getElem?_set_ne hj] at e
    obtain ⟨w, e1, r1⟩ := h.at_ j y e
    exact ⟨w, by rw [List.getElem?_set_ne hj]; exact e1, r1⟩
/-- a slot is emptied -/
theorem RelE.unset {c : RC} {α : List Addr} {H : Hp} {ρ : MEnv} {σ : L2.St} (h : RelE c α H ρ σ) (i : Nat) : RelE c α H (ρ.set i none) (σ.set i none) := by
  refine ⟨by simpa using h.le, fun j y e => ?_⟩
  by_cases hj : i = j
  · subst hj
    have hi : i < ρ.length := by
      have := (List.getElem?_eq_some_iff.mp e).1
      simpa using this
    rw [List.getElem?_set_self hi] at e
    cases e
  · rw [List.getElem?_set_ne hj] at e
    obtain ⟨w, e1, r1⟩ := h.at_ j y e
    exact ⟨w, by rw [List.getElem?_set_ne hj]; exact e1, r1⟩
def wipeM (ρ : MEnv) : List Nat → MEnv
  | [] => ρ
  | v :: vs => (wipeM ρ vs).set v none
theorem RelE.wipe {c : RC} {α : List Addr} {H : Hp} {ρ : MEnv} {σ : L2.St} (h : RelE c α H ρ σ) : ∀ vs : List Nat, RelE c α H (wipeM ρ vs) (L2.wipe σ vs)
  | [] => h
  | v :: vs => by
    have := RelE.wipe h vs
    exact this.unset v
theorem wipe_set {σ : L2.St} {i : Nat} {x : Option V} : ∀ {vs : List Nat}, i ∈ vs → L2.wipe ((L2.wipe σ vs).set i x) vs = L2.wipe σ vs := by
  -- pointwise: both are none at vs, and equal elsewhere
  have get : ∀ (τ : L2.St) (vs : List Nat) (j : Nat), (L2.wipe τ vs)[j]? = if j ∈ vs then (τ[j]?).map (fun _ => none) else τ[j]? := by
    intro τ vs
    induction vs with
    | nil => intro j; simp [L2.wipe]
    | cons v vs ih =>
      intro j
      unfold L2.wipe
      by_cases hj : v = j
      · subst hj
        rw [List.getElem?_set, if_pos rfl, if_pos List.mem_cons_self, L2.wipe_length]
        by_cases hl : v < τ.length
        · rw [if_pos hl, List.getElem?_eq_getElem hl]
          rfl
        · rw [if_neg hl, List.getElem?_eq_none (by omega)]
          rfl
      · rw [List.getElem?_set_ne hj, ih j]
        by_cases hm : j ∈ vs
        · rw [if_pos hm, if_pos (List.mem_cons_of_mem _ hm)]
        · rw [if_neg hm, if_neg (by
            intro z
            rcases List.mem_cons.mp z with z | z
            · exact hj z.symm
            · exact hm z)]
  intro vs hi
  apply List.ext_getElem?
  intro j
  rw [get, get]
  by_cases hm : j ∈ vs
  · rw [if_pos hm, if_pos hm]
    by_cases hij : i = j
    · subst hij
      rw [List.getElem?_set, if_pos rfl, L2.wipe_length]
      by_cases hl : i < σ.length
      · rw [if_pos hl, List.getElem?_eq_getElem hl]
        rfl
      · rw [if_neg hl, List.getElem?_eq_none (by omega)]
    · rw [List.getElem?_set_ne hij, get, if_pos hm]
      cases σ[j]? <;> rfl
  · rw [if_neg hm, if_neg hm]
    have hij : i ≠ j := fun e => hm (e ▸ hi)
    rw [List.getElem?_set_ne hij, get, if_neg hm]

/-! ### results -/
def wpR {α : Type} (r : R α) (ok : α → Sto → Prop) (er : Exc → Sto → Prop) : Prop := match r with
  | .ok a S => ok a S
  | .er e S => er e S
  | .bad => False
theorem wpR_bind {α β : Type} {r : R α} {f : α → Sto → R β} {ok : β → Sto → Prop} {er : Exc → Sto → Prop} (h : wpR (r.bind f) ok er) : wpR r (fun a S => wpR (f a S) ok er) er := by
  cases r <;> exact h
theorem wpR_mono {α : Type} {r : R α} {ok ok' : α → Sto → Prop} {er er' : Exc → Sto → Prop} (h : wpR r ok er) (h1 : ∀ a S, ok a S → ok' a S) (h2 : ∀ e S, er e S → er' e S) : wpR r ok' er' := by
  cases r with
  | ok a S => exact h1 a S h
  | er e S => exact h2 e S h
  | bad => exact h.elim
end M

namespace M
open PySem PySem.Spec PyProof.Rows L2

theorem nodup_at {α : List Addr} {i j : Nat} {a : Addr} (h : α.Nodup) (h1 : α[i]? = some a) (h2 : α[j]? = some a) : i = j := by
  obtain ⟨hi, e1⟩ := List.getElem?_eq_some_iff.mp h1
  obtain ⟨hj, e2⟩ := List.getElem?_eq_some_iff.mp h2
  exact (List.getElem_inj (h₀ := hi) (h₁ := hj) h).mp (e1.trans e2.symm)
abbrev rc (X : Cx) : RC := ⟨X.K, X.mg⟩
/-- what an exception is, over the heap -/
def ExcRep (c : RC) (H : Hp) (e : Exc) (cls : Value) (od : Option Addr) : Prop :=
  ∃ C, c.mg e.cls = some (.ref C) ∧ cls = .ref C ∧ (match e.fld with
    | none => od = none
    | some (f, i) => ∃ d, od = some d ∧ H d = some (.xd [(f, V.int i)]))
/-- what is wanted of an exception, at the slots σ -/
def okE (c : RC) (W : WX) (σ : L2.St) (α : List Addr) (H : Hp) : Exc → Sto → Prop := fun e S =>
  ∀ cls od H' α', Ext α α' H H' → RelS c α' H' S → ExcRep c H' e cls od → W cls od σ H'
theorem okE.mono {c : RC} {W : WX} {σ : L2.St} {α α' : List Addr} {H H' : Hp} (x : Ext α α' H H') {e : Exc} {S : Sto} (h : okE c W σ α H e S) : okE c W σ α' H' e S :=
  fun cls od H2 α2 x2 s2 r2 => h cls od H2 α2 (x.trans x2) s2 r2
def okV (c : RC) (Q : VK) (α : List Addr) (H : Hp) : Val → Sto → Prop := fun x S =>
  ∀ v H' α', Ext α α' H H' → RelS c α' H' S → RepX c α' H' x v → Fresh H x v → Q v H'
theorem okV.mono {c : RC} {Q : VK} {α α' : List Addr} {H H' : Hp} (x : Ext α α' H H') {y : Val} {S : Sto} (h : okV c Q α H y S) : okV c Q α' H' y S := fun v H2 α2 x2 s2 r2 f2 => by
  refine h v H2 α2 (x.trans x2) s2 r2 ?_
  cases y with
  | v d => trivial
  | l n => trivial
  | n ds =>
    intro a e
    cases q : H a with
    | none => rfl
    | some o =>
      have h1 : H' a = none := f2 a e
      by_cases ha : a ∈ α
      · obtain ⟨b, e1, _, nb⟩ := r2
        rw [e] at e1
        cases e1
        obtain ⟨β, rfl⟩ := x.pre
        obtain ⟨γ, rfl⟩ := x2.pre
        exact absurd (List.mem_append_left _ (List.mem_append_left _ ha)) nb
      · rw [x.fr a o q ha] at h1
        cases h1

def tV (c : RC) (W : WX) (f : VM) : TE := fun σ H Q => ∃ α ρ S, RelE c α H ρ σ ∧ RelS c α H S ∧ wpR (f ρ S) (okV c Q α H) (okE c W σ α H)
def tT (c : RC) (W : WX) (f : TM) : TT := fun σ H Q => ∃ α ρ S, RelE c α H ρ σ ∧ RelS c α H S ∧ wpR (f ρ S) (fun b S' => ∀ H' α', Ext α α' H H' → RelS c α' H' S' → Q b H') (okE c W σ α H)
/-- arguments: no new lists -/
inductive RepAs (c : RC) (α : List Addr) (H : Hp) : List Val → List V → Prop where
  | nil : RepAs c α H [] []
  | cons {x : Val} {v : V} {xs : List Val} {vs : List V} : RepA c α H x v → RepAs c α H xs vs → RepAs c α H (x :: xs) (v :: vs)
theorem RepAs.mono {c : RC} {α α' : List Addr} {H H' : Hp} (x : Ext α α' H H') : ∀ {xs : List Val} {vs : List V}, RepAs c α H xs vs → RepAs c α' H' xs vs
  | _, _, .nil => .nil
  | _, _, .cons h t => .cons (h.mono x) (RepAs.mono x t)
theorem RepAs.length {c : RC} {α : List Addr} {H : Hp} : ∀ {xs : List Val} {vs : List V}, RepAs c α H xs vs → xs.length = vs.length
  | _, _, .nil => rfl
  | _, _, .cons _ t => by simp [RepAs.length t]
theorem RepAs.get {c : RC} {α : List Addr} {H : Hp} : ∀ {xs : List Val} {vs : List V} {i : Nat} {x : Val}, RepAs c α H xs vs → xs[i]? = some x → ∃ v, vs[i]? = some v ∧ RepA c α H x v
  | _, _, i, _, .nil, e => by simp at e
  | _, _, 0, _, .cons h _, e => by simp at e; subst e; exact ⟨_, rfl, h⟩
  | _, _, i + 1, _, .cons _ t, e => by
    obtain ⟨v, e1, r⟩ := RepAs.get (i := i) t (by simpa using e)
    exact ⟨v, by simpa using e1, r⟩
def tA (c : RC) (W : WX) (f : AM) : TA := fun σ H Q => ∃ α ρ S, RelE c α H ρ σ ∧ RelS c α H S ∧ wpR (f ρ S) (fun xs S' => ∀ vs H' α', Ext α α' H H' → RelS c α' H' S' → RepAs c α' H' xs vs → Q vs H') (okE c W σ α H)

/-! ### the judgements -/
def SV (X : Cx) (W : WX) (e : Expr) (f : VM) : Prop := PE X e (tV (rc X) W f)
def ST (X : Cx) (W : WX) (e : Expr) (f : TM) : Prop := PT X e (tT (rc X) W f)
def SW (X : Cx) (W : WX) (e : Expr) (f : TM) : Prop := PW X e (tT (rc X) W f)
def SA (X : Cx) (W : WX) (es : List Expr) (f : AM) : Prop := PA X es (tA (rc X) W f)

section
variable {X : Cx} {W : WX} {e : Expr} {es : List Expr}
theorem PE.imp {t t' : TE} (h : PE X e t) (i : ∀ σ H Q, t' σ H Q → t σ H Q) : PE X e t' := ⟨fun pins s σ H Q I q => h.run pins s σ H Q I (i σ H Q q)⟩
theorem PT.imp {t t' : TT} (h : PT X e t) (i : ∀ σ H Q, t' σ H Q → t σ H Q) : PT X e t' := ⟨fun pins s σ H Q I q => h.run pins s σ H Q I (i σ H Q q)⟩
theorem PW.imp {t t' : TT} (h : PW X e t) (i : ∀ σ H Q, t' σ H Q → t σ H Q) : PW X e t' := ⟨fun wh pins s σ H Q I q => h.run wh pins s σ H Q I (i σ H Q q)⟩
theorem PA.imp {t t' : TA} (h : PA X es t) (i : ∀ σ H Q, t' σ H Q → t σ H Q) : PA X es t' := ⟨fun pos pins s σ H Q I q => h.run pos pins s σ H Q I (i σ H Q q)⟩

/-! ### a list, a dict is known from now on never to change -/
def FrU : HO → Prop
  | .lst _ => True
  | .dK _ => True
  | .dT _ => True
  | _ => False
theorem frU_obj {P : Program} {w : World} {H : Hp} {h : Heap} {a : Addr} {u : HO} (fu : FrU u) (ok : ObjOk P w H h a u) : ∃ o, h.get? a = some o := by
  cases u with
  | lst xs =>
    obtain ⟨z, its, n, r, g⟩ := ok
    exact ⟨_, g⟩
  | dK kvs =>
    obtain ⟨_, _, _, _, o, _, _, e, _⟩ := ok
    exact ⟨o, e⟩
  | dT kvs =>
    obtain ⟨_, _, _, _, o, _, _, e, _⟩ := ok
    exact ⟨o, e⟩
  | _ => exact fu.elim
theorem HOk.freeze {P : Program} {w : World} {H : Hp} {h : Heap} {a : Addr} {v : HO} (fu : FrU v) (ok : HOk P w H h) (e : H a = some v) : ∃ o, HOk P w (upd H a (.frz o v)) h := by
  obtain ⟨o, g⟩ := frU_obj fu (ok a _ e)
  have nown : ∀ c x, H c = some (.own x) → c ≠ a := fun c x q z => by
    rw [z, e] at q
    cases q
    exact fu
  have ntup : ∀ c ys, H c = some (.tup ys) → c ≠ a := fun c ys q z => by
    rw [z, e] at q
    cases q
    exact fu
  refine ⟨o, fun b u q => ?_⟩
  by_cases hb : b = a
  · subst hb
    rw [upd_same] at q
    cases q
    exact ⟨g, (ok _ _ e).stay (fun _ _ _ q => q) (fun c q => by rw [upd_ne (nown c _ q)]; exact q) fun c ys q => by rw [upd_ne (ntup c ys q)]; exact q⟩
  · rw [upd_ne hb] at q
    exact (ok b u q).stay (fun _ _ _ q => q) (fun c q => by rw [upd_ne (nown c _ q)]; exact q) fun c ys q => by rw [upd_ne (ntup c ys q)]; exact q
theorem Inv.freeze {pins : List (Addr × Obj)} {σ : L2.St} {H : Hp} {s : Shared} {a : Addr} {v : HO} (fu : FrU v) (I : Inv X pins σ H s) (e : H a = some v) : ∃ o, Inv X pins σ (upd H a (.frz o v)) s := by
  obtain ⟨o, ok⟩ := HOk.freeze fu I.hok e
  have ne : ∀ b, H b = none → b ≠ a := fun b n z => by rw [z, e] at n; cases n
  have ne2 : ∀ b u, H b = some u → ¬ FrU u → b ≠ a := fun b u q h z => by
    rw [z, e] at q
    cases q
    exact h fu
  refine ⟨o, I.un (t' := s.toks) (h' := s.heap) ⟨fun b u q _ _ _ => q, fun b u q _ _ _ => ⟨u.slots, q⟩, fun b u q n _ => by rw [upd_ne (ne b n)]; exact n, fun b u q _ => ⟨u, q⟩,
    fun b ys q => by rw [upd_ne (ne2 b _ q id)]; exact q, fun b u ys q => by rw [upd_ne (ne2 b _ q id)]; exact q, fun b ps q => ⟨#[], by rw [upd_ne (ne2 b _ q id), q]; simp⟩⟩ ok⟩
theorem PE.freeze {t t' : TE} (h : PE X e t) (i : ∀ σ H Q, t' σ H Q → t σ H (fun v H1 => Q v H1 ∨ ∃ a u, H1 a = some u ∧ FrU u ∧ ∀ o, Q v (upd H1 a (.frz o u)))) : PE X e t' := by
  refine ⟨fun pins s σ H Q I q => thn (h.run pins s σ H _ I (i σ H Q q)) fun u s' ⟨v, H', I', r, q'⟩ => ?_⟩
  rcases q' with q' | ⟨a, xs, ea, fu, q'⟩
  · exact ⟨v, H', I', r, q'⟩
  · obtain ⟨o, I2⟩ := Inv.freeze fu I' ea
    exact ⟨v, _, I2, r, q' o⟩

/-- a new object is frozen; else as it is -/
def mFz (f : VM) : VM := fun ρ S => (f ρ S).bind fun x S => match x with
  | .n o => .ok (.v o.D) S
  | x => .ok x S
theorem LeH.frz {H : Hp} {a : Addr} {u : HO} {o : Obj} (fu : FrU u) (e : H a = some u) : LeH H (upd H a (.frz o u)) := fun b => ⟨fun ys q => by
    rw [upd_ne (fun z => by
      rw [z, e] at q
      cases q
      exact fu)]
    exact q, fun o' w q => by
    rw [upd_ne (fun z => by
      rw [z, e] at q
      cases q
      exact fu)]
    exact q⟩
/-- an object that may still change -/
def Ob.soft : Ob → Prop
  | .fz _ => False
  | _ => True
theorem RepO.hot {c : RC} {H : Hp} {o : Ob} {a : Addr} (h : RepO c H o a) : (∃ u, H a = some u ∧ FrU u ∧ ∀ q H', LeH H H' → H' a = some (.frz q u) → Rep c H' o.D (.ref a)) ∨ (∃ d, o = .fz d ∧ Rep c H d (.ref a)) := by
  cases o with
  | li ds =>
    obtain ⟨xs, e, r⟩ := h
    refine .inl ⟨_, e, trivial, fun q H' l e' => ?_⟩
    simp only [Ob.D, Rep]
    exact ⟨a, xs, rfl, ⟨q, e'⟩, r.mono l⟩
  | dk ks ds =>
    obtain ⟨xs, e, z, r⟩ := h
    refine .inl ⟨_, e, trivial, fun q H' l e' => ?_⟩
    simp only [Ob.D, Rep]
    exact ⟨a, xs, rfl, ⟨q, e'⟩, z, r.mono l⟩
  | dt ks ds =>
    obtain ⟨xs, e, z, r⟩ := h
    refine .inl ⟨_, e, trivial, fun q H' l e' => ?_⟩
    simp only [Ob.D, Rep]
    exact ⟨a, xs, rfl, ⟨q, e'⟩, z, r.mono l⟩
  | fz d => exact .inr ⟨d, rfl, h.1⟩
theorem RelS.frz {c : RC} {α : List Addr} {H : Hp} {S : Sto} {a : Addr} {u : HO} {o : Obj} (fu : FrU u) (h : RelS c α H S) (e : H a = some u) (na : a ∉ α) : RelS c α (upd H a (.frz o u)) S := by
  refine ⟨h.len, h.nd, fun b hb => ?_, fun n ds q => ?_⟩
  · have hba : b ≠ a := fun z => na (z ▸ hb)
    rw [upd_ne hba]
    exact h.tr b hb
  · obtain ⟨b, e1, r⟩ := h.at_ n ds q
    have hb : b ≠ a := fun z => na (z ▸ List.mem_of_getElem? e1)
    exact ⟨b, e1, r.mono (LeH.frz fu e) fun u q => by rw [upd_ne hb]; exact q⟩
theorem sv_fz {f : VM} (h : SV X W e f) : SV X W e (mFz f) := by
  refine PE.freeze h fun σ H Q ⟨α, ρ, S, hE, hS, q⟩ => ⟨α, ρ, S, hE, hS, ?_⟩
  refine wpR_mono (wpR_bind q) (fun x S1 h1 v H1 α1 x1 s1 r1 f1 => ?_) fun _ _ z => z
  cases x with
  | v d => exact .inl (h1 v H1 α1 x1 s1 r1 trivial)
  | l n => exact .inl (h1 v H1 α1 x1 s1 r1 trivial)
  | n ob =>
    obtain ⟨a, rfl, ro, na⟩ := r1
    have fa : H a = none := f1 a rfl
    have ro : RepO (rc X) H1 ob a := ro
    rcases ro.hot with ⟨u, ea, fu, r⟩ | ⟨d, rfl, r⟩
    · refine .inr ⟨a, u, ea, fu, fun o => h1 _ _ α1 ⟨x1.pre, fun b u q nb => ?_, x1.nw, x1.le.trans (LeH.frz fu ea)⟩ (s1.frz fu ea na) ?_ trivial⟩
      · rw [upd_ne (fun z => by rw [z, fa] at q; cases q)]
        exact x1.fr b u q nb
      · exact r _ _ (LeH.frz fu ea) upd_same
    · exact .inl (h1 _ H1 α1 x1 s1 r trivial)
/-- a new object gets a place -/
def mAl (f : VM) : VM := fun ρ S => (f ρ S).bind fun x S => match x with
  | .n o => .ok (.l S.length) (S ++ [some o])
  | x => .ok x S
theorem sv_al {f : VM} (h : SV X W e f) : SV X W e (mAl f) := by
  refine PE.imp h fun σ H Q ⟨α, ρ, S, hE, hS, q⟩ => ⟨α, ρ, S, hE, hS, ?_⟩
  refine wpR_mono (wpR_bind q) (fun x S1 h1 v H1 α1 x1 s1 r1 f1 => ?_) fun _ _ z => z
  cases x with
  | v d => exact h1 v H1 α1 x1 s1 r1 trivial
  | l n => exact h1 v H1 α1 x1 s1 r1 trivial
  | n o =>
    obtain ⟨a, rfl, r, na⟩ := r1
    have fa : H a = none := f1 a rfl
    refine h1 _ _ (α1 ++ [a]) ⟨?_, x1.fr, fun b hb nb => ?_, x1.le⟩ (s1.push na r) ?_ trivial
    · obtain ⟨β, rfl⟩ := x1.pre
      exact ⟨β ++ [a], by rw [List.append_assoc]⟩
    · rcases List.mem_append.mp hb with hb | hb
      · exact x1.nw b hb nb
      · simp at hb
        subst hb
        exact fa
    · exact ⟨a, by rw [← s1.len]; simp, rfl⟩
/-- data: a new object is frozen, one at a place is taken from there and frozen -/
def mDv (f : VM) : VM := fun ρ S => (f ρ S).bind fun x S => match x with
  | .n o => .ok (.v o.D) S
  | .l n => (match S[n]? with
    | some (some o) => .ok (.v o.D) (S.set n (some (.fz o.D)))
    | _ => .bad)
  | .v d => .ok (.v d) S
/-- what stands at a place is frozen there -/
theorem RelS.fix {c : RC} {α : List Addr} {H : Hp} {S : Sto} {a : Addr} {u : HO} {o : Obj} {n : Nat} {d : D} (fu : FrU u) (s : RelS c α H S) (e1 : α[n]? = some a) (ea : H a = some u) (r : Rep c (upd H a (.frz o u)) d (.ref a)) : RelS c α (upd H a (.frz o u)) (S.set n (some (.fz d))) := by
  refine ⟨by simp [s.len], s.nd, fun b hb => ?_, fun m es e3 => ?_⟩
  · by_cases hb' : b = a
    · subst hb'
      rw [upd_same]
      simp
    · rw [upd_ne hb']
      exact s.tr b hb
  · by_cases hm : n = m
    · subst hm
      have hl : n < S.length := by
        have := (List.getElem?_eq_some_iff.mp e3).1
        simpa using this
      rw [List.getElem?_set_self hl] at e3
      cases e3
      exact ⟨a, e1, r, o, u, upd_same⟩
    · rw [List.getElem?_set_ne hm] at e3
      obtain ⟨b, e4, r4⟩ := s.at_ m es e3
      have hb : b ≠ a := fun z => by
        subst z
        exact hm (nodup_at s.nd e1 e4)
      exact ⟨b, e4, r4.mono (LeH.frz fu ea) fun u q => by rw [upd_ne hb]; exact q⟩
theorem Ext.fix {α α1 : List Addr} {H H1 : Hp} {a : Addr} {u : HO} {o : Obj} {n : Nat} (fu : FrU u) (x1 : Ext α α1 H H1) (e1 : α1[n]? = some a) (ea : H1 a = some u) : Ext α α1 H (upd H1 a (.frz o u)) := by
  refine ⟨x1.pre, fun b w q nb => ?_, x1.nw, x1.le.trans (LeH.frz fu ea)⟩
  by_cases hb : b = a
  · subst hb
    have := x1.nw b (List.mem_of_getElem? e1) nb
    rw [q] at this
    cases this
  · rw [upd_ne hb]
    exact x1.fr b w q nb
theorem sv_dv {f : VM} (h : SV X W e f) : SV X W e (mDv f) := by
  refine PE.freeze (sv_fz h) fun σ H Q ⟨α, ρ, S, hE, hS, q⟩ => ⟨α, ρ, S, hE, hS, ?_⟩
  have q1 := wpR_bind q
  unfold mFz
  cases hf : f ρ S with
  | bad => rw [hf] at q1; exact q1
  | er e S1 => rw [hf] at q1; exact q1
  | ok x S1 =>
    rw [hf] at q1
    cases x with
    | v d => exact fun v H1 α1 x1 s1 r1 f1 => .inl (q1 v H1 α1 x1 s1 r1 trivial)
    | n ds => exact fun v H1 α1 x1 s1 r1 f1 => .inl (q1 v H1 α1 x1 s1 r1 trivial)
    | l n =>
      intro v H1 α1 x1 s1 r1 f1
      obtain ⟨a, e1, rfl⟩ := r1
      have q2 : wpR (match S1[n]? with
        | some (some o) => R.ok (Val.v o.D) (S1.set n (some (.fz o.D)))
        | _ => .bad) (okV (rc X) Q α H) (okE (rc X) W σ α H) := q1
      cases hn : S1[n]? with
      | none =>
        rw [hn] at q2
        exact q2.elim
      | some od =>
        rw [hn] at q2
        cases od with
        | none => exact q2.elim
        | some ob =>
          obtain ⟨b, e2, ro⟩ := s1.at_ n ob hn
          rw [e1] at e2
          cases e2
          have ro : RepO (rc X) H1 ob a := ro
          rcases ro.hot with ⟨u, ea, fu, r⟩ | ⟨d, rfl, r⟩
          · exact .inr ⟨a, u, ea, fu, fun o => q2 _ _ α1 (x1.fix fu e1 ea) (s1.fix fu e1 ea (r _ _ (LeH.frz fu ea) upd_same)) (r _ _ (LeH.frz fu ea) upd_same) trivial⟩
          · refine .inl (q2 _ H1 α1 x1 ?_ r trivial)
            have : S1.set n (some (.fz d)) = S1 := by
              apply List.ext_getElem?
              intro i
              by_cases hi : n = i
              · subst hi
                rw [List.getElem?_set_self (List.getElem?_eq_some_iff.mp hn).1, hn]
              · rw [List.getElem?_set_ne hi]
            show RelS _ _ _ (S1.set n (some (.fz d)))
            rw [this]
            exact s1

/-! ### names, constants -/
def mV (i : Nat) : VM := fun ρ S => match ρ[i]? with
  | some (some x) => .ok x S
  | _ => .bad
theorem sv_var {i : Nat} (h : PE X e (tVar i)) : SV X W e (mV i) := by
  refine PE.imp h fun σ H Q ⟨α, ρ, S, hE, hS, q⟩ => ?_
  unfold mV at q
  cases hi : ρ[i]? with
  | none => rw [hi] at q; exact q.elim
  | some o =>
    rw [hi] at q
    cases o with
    | none => exact q.elim
    | some x =>
      obtain ⟨v, e1, r⟩ := hE.at_ i x hi
      refine ⟨v, e1, q v H α (.refl _ _) hS r.X ?_⟩
      cases x with
      | n ds => exact r.elim
      | v d => trivial
      | l n => trivial
def mC (d : D) : VM := fun _ S => .ok (.v d) S
theorem sv_const {v : V} {d : D} (h : PE X e (tC v)) (r : ∀ H, Rep (rc X) H d v) : SV X W e (mC d) := by
  refine PE.imp h fun σ H Q ⟨α, ρ, S, hE, hS, q⟩ => ?_
  exact q v H α (.refl _ _) hS (r H) trivial
theorem sv_int {i : Int} (h : PE X e (tC (.int i))) : SV X W e (mC (.int i)) := sv_const h fun _ => by simp only [Rep]
theorem sv_str {x : PySem.Str} (h : PE X e (tC (.str x))) : SV X W e (mC (.str x)) := sv_const h fun _ => by simp only [Rep]
theorem sv_bl {b : Bool} (h : PE X e (tC (.bl b))) : SV X W e (mC (.bl b)) := sv_const h fun _ => by simp only [Rep]
theorem sv_non (h : PE X e (tC .non)) : SV X W e (mC .non) := sv_const h fun _ => by simp only [Rep]
/-- a def's name as a value -/
theorem sv_fn {x : PySem.Str} {a : Addr} (h : PE X e (tC (.ref a))) (hm : X.mg x = some (.ref a)) : SV X W e (mC (.fn x)) := sv_const h fun _ => by
  simp only [Rep]
  exact ⟨a, hm, rfl⟩

/-! ### argument lists -/
def mNil : AM := fun _ S => .ok [] S
def mCons (f : VM) (g : AM) : AM := fun ρ S => (f ρ S).bind fun x S1 => match x with
  | .n _ => .bad
  | x => (g ρ S1).bind fun xs S2 => .ok (x :: xs) S2
theorem sa_nil : SA X W [] mNil := by
  refine PA.imp pa_nil fun σ H Q ⟨α, ρ, S, hE, hS, q⟩ => ?_
  exact q [] H α (.refl _ _) hS .nil
theorem RepX.A {c : RC} {α : List Addr} {H : Hp} {x : Val} {v : V} (r : RepX c α H x v) (h : ∀ ds, x ≠ .n ds) : RepA c α H x v := by
  cases x with
  | v d => exact r
  | l n => exact r
  | n ds => exact absurd rfl (h ds)
theorem sa_cons {f : VM} {g : AM} (h : SV X W e f) (t : SA X W es g) (hs : starEach (e :: es) X.env = (false, eval e X.env) :: starEach es X.env := by rfl) : SA X W (e :: es) (mCons f g) := by
  refine PA.imp (pa_cons h t hs) fun σ H Q ⟨α, ρ, S, hE, hS, q⟩ => ⟨α, ρ, S, hE, hS, ?_⟩
  refine wpR_mono (wpR_bind q) (fun x S1 h1 v H1 α1 x1 s1 r1 f1 => ?_) fun _ _ z => z
  have go : (∀ ds, x ≠ .n ds) → wpR ((g ρ S1).bind fun xs S2 => .ok (x :: xs) S2) (fun xs S' => ∀ vs H' α', Ext α α' H H' → RelS (rc X) α' H' S' → RepAs (rc X) α' H' xs vs → Q vs H') (okE (rc X) W σ α H) →
      tA (rc X) W g σ H1 (fun xs H2 => Q (v :: xs) H2) := fun hx h2 => by
    refine ⟨α1, ρ, S1, hE.mono x1, s1, ?_⟩
    refine wpR_mono (wpR_bind h2) (fun xs S2 h3 vs H2 α2 x2 s2 r2 => ?_) fun _ _ z => z.mono x1
    exact h3 (v :: vs) H2 α2 (x1.trans x2) s2 (.cons ((r1.A hx).mono x2) r2)
  cases x with
  | v d => exact go (fun _ => nofun) h1
  | l n => exact go (fun _ => nofun) h1
  | n ds => exact h1.elim
end
end M

namespace M
open PySem PySem.Spec PyProof.Rows L2

/-- the longest list, text -/
def lim : Nat := 16777216
theorem lim_eq : sizeLine = lim := by rw [sizeLine_eq]; rfl

/-- what is read of a value now -/
def pk (S : Sto) : Val → Option D
  | .v d => some d
  | .l n => (match S[n]? with
    | some (some o) => some o.D
    | _ => none)
  | .n o => some o.D
def RepP (c : RC) (H : Hp) : D → V → Prop
  | .lst ds, v => ∃ a xs, v = .ref a ∧ Rd H a (.lst xs) ∧ Reps c H ds xs
  | .fdk ks ds, v => ∃ a xs, v = .ref a ∧ Rd H a (.dK (ks.zip xs)) ∧ ks.length = xs.length ∧ Reps c H ds xs
  | .fdt ks ds, v => ∃ a xs, v = .ref a ∧ Rd H a (.dT (ks.zip xs)) ∧ ks.length = xs.length ∧ Reps c H ds xs
  | d, v => Rep c H d v
theorem Rep.P {c : RC} {H : Hp} {d : D} {v : V} (r : Rep c H d v) : RepP c H d v := by
  cases d with
  | lst ds =>
    simp only [Rep] at r
    obtain ⟨a, xs, e, q, r⟩ := r
    exact ⟨a, xs, e, q.rd, r⟩
  | fdk ks ds =>
    simp only [Rep] at r
    obtain ⟨a, xs, e, q, r⟩ := r
    exact ⟨a, xs, e, .inr q, r⟩
  | fdt ks ds =>
    simp only [Rep] at r
    obtain ⟨a, xs, e, q, r⟩ := r
    exact ⟨a, xs, e, .inr q, r⟩
  | _ => exact r
theorem RepO.P {c : RC} {H : Hp} {o : Ob} {a : Addr} (r : RepO c H o a) : RepP c H o.D (.ref a) := by
  cases o with
  | li ds =>
    obtain ⟨xs, e, r⟩ := r
    exact ⟨a, xs, rfl, .inl e, r⟩
  | dk ks ds =>
    obtain ⟨xs, e, r⟩ := r
    exact ⟨a, xs, rfl, .inl e, r⟩
  | dt ks ds =>
    obtain ⟨xs, e, r⟩ := r
    exact ⟨a, xs, rfl, .inl e, r⟩
  | fz d => exact Rep.P r.1
theorem pk_rep {c : RC} {α : List Addr} {H : Hp} {S : Sto} {x : Val} {v : V} {d : D} (s : RelS c α H S) (r : RepX c α H x v) (h : pk S x = some d) : RepP c H d v := by
  cases x with
  | v d' =>
    cases h
    exact Rep.P r
  | n ds =>
    cases h
    obtain ⟨a, rfl, r, _⟩ := r
    exact RepO.P r
  | l n =>
    obtain ⟨a, e1, rfl⟩ := r
    unfold pk at h
    dsimp only at h
    cases hn : S[n]? with
    | none => rw [hn] at h; cases h
    | some o =>
      cases o with
      | none => rw [hn] at h; cases h
      | some ds =>
        rw [hn] at h
        cases h
        obtain ⟨b, e2, r⟩ := s.at_ n ds hn
        rw [e1] at e2
        cases e2
        exact RepO.P r
theorem RepP.seqL {c : RC} {H : Hp} {ds : List D} {v : V} (r : RepP c H (.lst ds) v) : ∃ a xs, v = .ref a ∧ SqL c.K H a xs ∧ Reps c H ds xs := by
  obtain ⟨a, xs, e, q, r⟩ := r
  exact ⟨a, xs, e, .inl q, r⟩
theorem RepP.tupS {c : RC} {H : Hp} {ds : List D} {v : V} (r : RepP c H (.tup ds) v) : ∃ a xs, v = .ref a ∧ H a = some (.tup xs) ∧ Reps c H ds xs := by
  have r' : Rep c H (.tup ds) v := r
  simp only [Rep] at r'
  exact r'
theorem RepP.tup {c : RC} {H : Hp} {ds : List D} {v : V} (r : RepP c H (.tup ds) v) : ∃ a xs, v = .ref a ∧ SqT c.K H a xs ∧ Reps c H ds xs := by
  obtain ⟨a, xs, e, q, r⟩ := r.tupS
  exact ⟨a, xs, e, tupQ q, r⟩
theorem RepP.int {c : RC} {H : Hp} {i : Int} {v : V} (r : RepP c H (.int i) v) : v = .int i := by
  have r' : Rep c H (.int i) v := r
  simp only [Rep] at r'
  exact r'
theorem RepP.str {c : RC} {H : Hp} {i : PySem.Str} {v : V} (r : RepP c H (.str i) v) : v = .str i := by
  have r' : Rep c H (.str i) v := r
  simp only [Rep] at r'
  exact r'
theorem RepP.bl {c : RC} {H : Hp} {i : Bool} {v : V} (r : RepP c H (.bl i) v) : v = .bl i := by
  have r' : Rep c H (.bl i) v := r
  simp only [Rep] at r'
  exact r'
theorem RepP.non {c : RC} {H : Hp} {v : V} (r : RepP c H .non v) : v = .non := by
  have r' : Rep c H .non v := r
  simp only [Rep] at r'
  exact r'
/-- what an operation's value stands for -/
def RepZ (c : RC) (H : Hp) : Val → V → Prop
  | .v d, v => Rep c H d v
  | .n o, v => ∃ a, v = .ref a ∧ RepO c H o a
  | .l _, _ => False
/-- what follows an operation's value -/
def okZ (c : RC) (Q : VK) (H : Hp) (z : Val) : Prop := ∀ v H', Same H H' → RepZ c H' z v → Fresh H z v → Q v H'
theorem RepZ.X {c : RC} {α : List Addr} {H H' : Hp} {S : Sto} {z : Val} {v : V} (s : RelS c α H S) (h : RepZ c H' z v) (f : Fresh H z v) : RepX c α H' z v := by
  cases z with
  | v d => exact h
  | l n => exact h.elim
  | n ds =>
    obtain ⟨a, e, r⟩ := h
    exact ⟨a, e, r, s.new (f a e)⟩
theorem okV.Z {c : RC} {Q : VK} {α : List Addr} {H : Hp} {S : Sto} {z : Val} (h : okV c Q α H z S) (s : RelS c α H S) : okZ c Q H z := fun v H' sm r f =>
  h v H' α (.of_same sm) (s.same sm) (r.X s f) f
theorem okZ.int {c : RC} {Q : VK} {H : Hp} {i : Int} (h : okZ c Q H (.v (.int i))) : Q (.int i) H := h _ _ (Same.refl _) (by simp only [RepZ, Rep]) trivial
theorem okZ.bl {c : RC} {Q : VK} {H : Hp} {i : Bool} (h : okZ c Q H (.v (.bl i))) : Q (.bl i) H := h _ _ (Same.refl _) (by simp only [RepZ, Rep]) trivial
theorem okZ.str {c : RC} {Q : VK} {H : Hp} {i : PySem.Str} (h : okZ c Q H (.v (.str i))) : Q (.str i) H := h _ _ (Same.refl _) (by simp only [RepZ, Rep]) trivial
theorem okZ.non {c : RC} {Q : VK} {H : Hp} (h : okZ c Q H (.v .non)) : Q .non H := h _ _ (Same.refl _) (by simp only [RepZ, Rep]) trivial
/-- a value that stands already -/
theorem okZ.old {c : RC} {Q : VK} {H : Hp} {d : D} {v : V} (h : okZ c Q H (.v d)) (r : Rep c H d v) : Q v H := h _ _ (Same.refl _) r trivial
theorem same_upd {H : Hp} {p : Addr} {o : HO} (h : H p = none) : Same H (upd H p o) := fun b x e => by
  rw [upd_ne (ne_of_none e h)]
  exact e
theorem LeH.same {H H' : Hp} (s : Same H H') : LeH H H' := fun b => ⟨fun _ q => s _ _ q, fun _ _ q => s _ _ q⟩
theorem okZ.new {c : RC} {Q : VK} {H : Hp} {ds : List D} {xs : List V} (h : okZ c Q H (.n (.li ds))) (r : Reps c H ds xs) : ∀ p, H p = none → Q (.ref p) (upd H p (.lst xs)) := fun p hp =>
  h _ _ (same_upd hp) ⟨p, rfl, xs, upd_same, r.mono (LeH.same (same_upd hp))⟩ fun a e => by
    cases e
    exact hp
theorem okZ.newT {c : RC} {Q : VK} {H : Hp} {ds : List D} {xs : List V} (h : okZ c Q H (.v (.tup ds))) (r : Reps c H ds xs) : ∀ p, H p = none → Q (.ref p) (upd H p (.tup xs)) := fun p hp =>
  h _ _ (same_upd hp) (by
    show Rep c _ (.tup ds) _
    simp only [Rep]
    exact ⟨p, xs, rfl, upd_same, r.mono (LeH.same (same_upd hp))⟩) trivial

/-- an operation of two values: r is what HandS asks -/
def OpG (X : Cx) (r : R2) (g : D → D → Option Val) : Prop := ∀ (H : Hp) (p q : D) (x y : V) (z : Val) (Q : VK), RepP (rc X) H p x → RepP (rc X) H q y → g p q = some z → okZ (rc X) Q H z → r x y H Q
def ap2 (g : D → D → Option Val) (S : Sto) (x y : Val) : R Val := match pk S x, pk S y with
  | some p, some q => (match g p q with
    | some z => .ok z S
    | none => .bad)
  | _, _ => .bad
def mOp (g : D → D → Option Val) (fa fb : VM) : VM := fun ρ S => (fa ρ S).bind fun x S1 => (fb ρ S1).bind fun y S2 => ap2 g S2 x y
section
variable {X : Cx} {W : WX} {a b c' e : Expr} {pos : Pos}
/-- the heart: after both values have come -/
theorem ap2_ok {r : R2} {g : D → D → Option Val} (hg : OpG X r g) {α : List Addr} {H : Hp} {S : Sto} {x y : Val} {v w : V} {Q : VK} {er : Exc → Sto → Prop} (s : RelS (rc X) α H S) (rx : RepX (rc X) α H x v) (ry : RepX (rc X) α H y w)
    (h : wpR (ap2 g S x y) (okV (rc X) Q α H) er) : r v w H Q := by
  unfold ap2 at h
  cases hp : pk S x with
  | none => rw [hp] at h; exact h.elim
  | some p =>
    cases hq : pk S y with
    | none => rw [hp, hq] at h; exact h.elim
    | some q =>
      rw [hp, hq] at h
      dsimp only at h
      cases hz : g p q with
      | none => rw [hz] at h; exact h.elim
      | some z =>
        rw [hz] at h
        exact hg H p q v w z Q (pk_rep s rx hp) (pk_rep s ry hq) hz (okV.Z h s)
theorem two {r : R2} {g : D → D → Option Val} (hg : OpG X r g) {fa fb : VM} {σ : L2.St} {H : Hp} {Q : VK} (h : tV (rc X) W (mOp g fa fb) σ H Q) : tOp r (tV (rc X) W fa) (tV (rc X) W fb) σ H Q := by
  obtain ⟨α, ρ, S, hE, hS, q⟩ := h
  refine ⟨α, ρ, S, hE, hS, ?_⟩
  refine wpR_mono (wpR_bind q) (fun x S1 h1 v H1 α1 x1 s1 r1 f1 => ?_) fun _ _ z => z
  refine ⟨α1, ρ, S1, hE.mono x1, s1, ?_⟩
  refine wpR_mono (wpR_bind h1) (fun y S2 h2 w H2 α2 x2 s2 r2 f2 => ?_) fun _ _ z => z.mono x1
  exact ap2_ok hg s2 (r1.mono x2) r2 (wpR_mono h2 (fun z S' k => k.mono (x1.trans x2)) fun _ _ z => z)
theorem sv_bin {op : Operator} {r : R2} {g : D → D → Option Val} {fa fb : VM} (ho : OpR X (binaryOp op) r) (hg : OpG X r g) (ha : SV X W a fa) (hb : SV X W b fb) : SV X W (.BinOp a op b pos) (mOp g fa fb) :=
  PE.imp (pe_op ho ha hb) fun σ H Q h => two hg h
theorem sv_cmp {op : CmpOp} {r : R2} {g : D → D → Option Val} {fa fb : VM} (ho : OpR X (compareOp op) r) (hg : OpG X r g) (ha : SV X W a fa) (hb : SV X W b fb) (hm : behindInMarks op b = false) : SV X W (.Compare a [op] [b] pos) (mOp g fa fb) :=
  PE.imp (pe_cmpR ho ha hb hm) fun σ H Q h => two hg h
/-- a comparison as a test -/
def asB (r : R Val) : R Bool := r.bind fun x S => match x with
  | .v (.bl b) => .ok b S
  | _ => .bad
def mTB (f : VM) : TM := fun ρ S => asB (f ρ S)
theorem asB_ok {c : RC} {α : List Addr} {H : Hp} {r : R Val} {ok : Bool → Hp → Prop} {er : Exc → Sto → Prop} (h : wpR (asB r) (fun b S' => ∀ H' α', Ext α α' H H' → RelS c α' H' S' → ok b H') er) :
    wpR r (okV c (fun v H' => ∃ k, v = .bl k ∧ ok k H') α H) er := by
  unfold asB at h
  refine wpR_mono (wpR_bind h) (fun x S1 h1 => ?_) fun _ _ z => z
  cases x with
  | l n => exact h1.elim
  | n ds => exact h1.elim
  | v d =>
    cases d with
    | bl b =>
      intro v H' α' x1 s1 r1 f1
      have e : v = .bl b := by simpa only [RepX, Rep] using r1
      exact ⟨b, e, h1 H' α' x1 s1⟩
    | _ => exact h1.elim
theorem tB_of {f : VM} {σ : L2.St} {H : Hp} {Q : Bool → Hp → Prop} (h : tT (rc X) W (mTB f) σ H Q) : tTest (tV (rc X) W f) σ H Q := by
  obtain ⟨α, ρ, S, hE, hS, q⟩ := h
  exact ⟨α, ρ, S, hE, hS, asB_ok q⟩
theorem st_cmp {op : CmpOp} {r : R2} {g : D → D → Option Val} {fa fb : VM} (ho : OpR X (compareOp op) r) (hg : OpG X r g) (ha : SV X W a fa) (hb : SV X W b fb) (hm : behindInMarks op b = false) : ST X W (.Compare a [op] [b] pos) (mTB (mOp g fa fb)) :=
  PT.imp (pt_cmpR ho ha hb hm) fun σ H Q h => two hg (tB_of h)
/-- a op b op' c -/
def mChain (g g' : D → D → Option Val) (fa fb fc : VM) : VM := fun ρ S => (fa ρ S).bind fun x S1 => (fb ρ S1).bind fun y S2 => (asB (ap2 g S2 x y)).bind fun k S3 =>
  if k = true then (fc ρ S3).bind fun z S4 => ap2 g' S4 y z else .ok (.v (.bl false)) S3
theorem chain_of {r r' : R2} {g g' : D → D → Option Val} (hg : OpG X r g) (hg' : OpG X r' g') {fa fb fc : VM} {σ : L2.St} {H : Hp} {Q : VK} (h : tV (rc X) W (mChain g g' fa fb fc) σ H Q) : tChain r r' (tV (rc X) W fa) (tV (rc X) W fb) (tV (rc X) W fc) σ H Q := by
  obtain ⟨α, ρ, S, hE, hS, q⟩ := h
  refine ⟨α, ρ, S, hE, hS, ?_⟩
  refine wpR_mono (wpR_bind q) (fun x S1 h1 v H1 α1 x1 s1 r1 f1 => ?_) fun _ _ z => z
  refine ⟨α1, ρ, S1, hE.mono x1, s1, ?_⟩
  refine wpR_mono (wpR_bind h1) (fun y S2 h2 w H2 α2 x2 s2 r2 f2 => ?_) fun _ _ z => z.mono x1
  have h3 := wpR_bind h2
  refine ap2_ok (er := okE (rc X) W σ α H) hg s2 (r1.mono x2) r2 (asB_ok (wpR_mono h3 (fun k S3 h4 H3 α3 x3 s3 => ?_) fun _ _ z => z))
  have x13 := (x1.trans x2).trans x3
  cases k with
  | false => exact iteF (h4 (.bl false) H3 α3 x13 s3 (by simp only [RepX, Rep]) trivial)
  | true =>
    refine iteT ⟨α3, ρ, S3, hE.mono x13, s3, ?_⟩
    refine wpR_mono (wpR_bind h4) (fun z S4 h5 u H4 α4 x4 s4 r4 f4 => ?_) fun _ _ z => z.mono x13
    exact ap2_ok hg' s4 (r2.mono (x3.trans x4)) r4 (wpR_mono h5 (fun z S' k => k.mono (x13.trans x4)) fun _ _ z => z)
theorem sv_chain {op op' : CmpOp} {r r' : R2} {g g' : D → D → Option Val} {fa fb fc : VM} (ho : OpR X (compareOp op) r) (hg : OpG X r g) (ho' : OpR X (compareOp op') r') (hg' : OpG X r' g') (ha : SV X W a fa) (hb : SV X W b fb) (hc : SV X W c' fc)
    (hm : lastMarks [op, op'] [b, c'] = false := by with_unfolding_all rfl) : SV X W (.Compare a [op, op'] [b, c'] pos) (mChain g g' fa fb fc) :=
  PE.imp (pe_chain ho ho' ha hb hc hm) fun σ H Q h => chain_of hg hg' h
theorem st_chain {op op' : CmpOp} {r r' : R2} {g g' : D → D → Option Val} {fa fb fc : VM} (ho : OpR X (compareOp op) r) (hg : OpG X r g) (ho' : OpR X (compareOp op') r') (hg' : OpG X r' g') (ha : SV X W a fa) (hb : SV X W b fb) (hc : SV X W c' fc)
    (hm : lastMarks [op, op'] [b, c'] = false := by with_unfolding_all rfl) : ST X W (.Compare a [op, op'] [b, c'] pos) (mTB (mChain g g' fa fb fc)) :=
  PT.imp (pt_chain ho ho' ha hb hc hm) fun σ H Q h => chain_of hg hg' (tB_of h)

/-! ### one value -/
def UnG (X : Cx) (r : V → Hp → VK → Prop) (g : D → Option Val) : Prop := ∀ (H : Hp) (p : D) (x : V) (z : Val) (Q : VK), RepP (rc X) H p x → g p = some z → okZ (rc X) Q H z → r x H Q
def ap1 (g : D → Option Val) (S : Sto) (x : Val) : R Val := match pk S x with
  | some p => (match g p with
    | some z => .ok z S
    | none => .bad)
  | _ => .bad
def mUn (g : D → Option Val) (fa : VM) : VM := fun ρ S => (fa ρ S).bind fun x S1 => ap1 g S1 x
theorem ap1_ok {r : V → Hp → VK → Prop} {g : D → Option Val} (hg : UnG X r g) {α : List Addr} {H : Hp} {S : Sto} {x : Val} {v : V} {Q : VK} {er : Exc → Sto → Prop} (s : RelS (rc X) α H S) (rx : RepX (rc X) α H x v)
    (h : wpR (ap1 g S x) (okV (rc X) Q α H) er) : r v H Q := by
  unfold ap1 at h
  cases hp : pk S x with
  | none => rw [hp] at h; exact h.elim
  | some p =>
    rw [hp] at h
    dsimp only at h
    cases hz : g p with
    | none => rw [hz] at h; exact h.elim
    | some z =>
      rw [hz] at h
      exact hg H p v z Q (pk_rep s rx hp) hz (okV.Z h s)
theorem one_ {r : V → Hp → VK → Prop} {g : D → Option Val} (hg : UnG X r g) {fa : VM} {σ : L2.St} {H : Hp} {Q : VK} (h : tV (rc X) W (mUn g fa) σ H Q) : tUn r (tV (rc X) W fa) σ H Q := by
  obtain ⟨α, ρ, S, hE, hS, q⟩ := h
  refine ⟨α, ρ, S, hE, hS, ?_⟩
  refine wpR_mono (wpR_bind q) (fun x S1 h1 v H1 α1 x1 s1 r1 f1 => ?_) fun _ _ z => z
  exact ap1_ok hg s1 r1 (wpR_mono h1 (fun z S' k => k.mono x1) fun _ _ z => z)
theorem sv_un {op : UnaryOp} {r : V → Hp → VK → Prop} {g : D → Option Val} {fa : VM} (ho : UnR X (unaryOp op) r) (hg : UnG X r g) (ha : SV X W a fa) : SV X W (.UnaryOp op a pos) (mUn g fa) :=
  PE.imp (pe_un ho ha) fun σ H Q h => one_ hg h

/-! ### tests -/
/-- a value's truth -/
def truB : D → Option Bool
  | .non => some false
  | .bl b => some b
  | .int i => some (i != 0)
  | .str y => if y.length ≤ lim then some ((y.length : Int) != 0) else none
  | .tup ds => some (!ds.isEmpty)
  | .lst ds => some (!ds.isEmpty)
  | .fn _ => none
  | .kl ds => some (!ds.isEmpty)
  | .raw _ => none
  | .fdk _ _ => none
  | .fdt _ _ => none
def mTru (f : VM) : TM := fun ρ S => (f ρ S).bind fun x S1 => match pk S1 x with
  | some p => (match truB p with
    | some b => .ok b S1
    | none => .bad)
  | none => .bad
theorem Reps.isEmpty {c : RC} {H : Hp} {ds : List D} {xs : List V} (r : Reps c H ds xs) : ds.isEmpty = xs.isEmpty := by
  have := r.length
  cases ds <;> cases xs <;> simp_all
theorem tru_rep {H : Hp} {p : D} {v : V} {b : Bool} (r : RepP (rc X) H p v) (h : truB p = some b) : TruV X.K v H b := by
  cases p with
  | non =>
    cases h
    rw [r.non]
    exact rfl
  | bl k =>
    cases h
    rw [r.bl]
    exact rfl
  | int i =>
    cases h
    rw [r.int]
    exact rfl
  | str y =>
    have h' : (if y.length ≤ lim then some ((y.length : Int) != 0) else none) = some b := h
    by_cases hl : y.length ≤ lim
    · rw [if_pos hl] at h'
      cases h'
      rw [r.str]
      exact ⟨by rw [lim_eq]; exact hl, rfl⟩
    · rw [if_neg hl] at h'
      cases h'
  | tup ds =>
    cases h
    obtain ⟨a, xs, rfl, q, r⟩ := r.tup
    exact .inr (.inl ⟨xs, q, by rw [r.isEmpty]⟩)
  | lst ds =>
    cases h
    obtain ⟨a, xs, rfl, q, r⟩ := r.seqL
    exact .inl ⟨xs, q, by rw [r.isEmpty]⟩
  | fn x => cases h
  | kl ds =>
    cases h
    have r' : Rep (rc X) H (.kl ds) v := r
    simp only [Rep] at r'
    obtain ⟨a, xs, rfl, q, r⟩ := r'
    exact .inl ⟨xs, q.seq, by rw [r.isEmpty]⟩
  | raw a => cases h
  | fdk ks ds => cases h
  | fdt ks ds => cases h
theorem st_tru {f : VM} (h : SV X W a f) (he : ∀ whole, isTrue a X.env whole = (do let v ← whole; standAt a.pos; holding [v] (truthy v)) := by intro _; rfl) : ST X W a (mTru f) := by
  refine PT.imp (pt_truth h he) fun σ H Q ⟨α, ρ, S, hE, hS, q⟩ => ⟨α, ρ, S, hE, hS, ?_⟩
  refine wpR_mono (wpR_bind q) (fun x S1 h1 v H1 α1 x1 s1 r1 f1 => ?_) fun _ _ z => z
  cases hp : pk S1 x with
  | none => rw [hp] at h1; exact h1.elim
  | some p =>
    rw [hp] at h1
    dsimp only at h1
    cases hb : truB p with
    | none => rw [hb] at h1; exact h1.elim
    | some b =>
      rw [hb] at h1
      exact ⟨b, tru_rep (pk_rep s1 r1 hp) hb, h1 H1 α1 x1 s1⟩
def mNot (f : TM) : TM := fun ρ S => (f ρ S).bind fun b S1 => .ok (!b) S1
theorem st_not {f : TM} (h : ST X W a f) : ST X W (.UnaryOp .Not a pos) (mNot f) := by
  refine PT.imp (pt_not h) fun σ H Q ⟨α, ρ, S, hE, hS, q⟩ => ⟨α, ρ, S, hE, hS, ?_⟩
  exact wpR_mono (wpR_bind q) (fun x S1 h1 => h1) fun _ _ z => z
def mAnd (f g : TM) : TM := fun ρ S => (f ρ S).bind fun b S1 => if b = true then g ρ S1 else .ok false S1
def mOr (f g : TM) : TM := fun ρ S => (f ρ S).bind fun b S1 => if b = true then .ok true S1 else g ρ S1
variable {rest : List Expr}
theorem sw_and1 {f : TM} (h : ST X W a f) : SW X W (.BoolOp .And [a] pos) f := pw_and1 h
theorem sw_or1 {f : TM} (h : ST X W a f) : SW X W (.BoolOp .Or [a] pos) f := pw_or1 h
theorem tmono {f : TM} {σ : L2.St} {H H1 : Hp} {α α1 : List Addr} {ρ : MEnv} {S1 : Sto} {Q : Bool → Hp → Prop} (hE : RelE (rc X) α H ρ σ) (x1 : Ext α α1 H H1) (s1 : RelS (rc X) α1 H1 S1)
    (h : wpR (f ρ S1) (fun b S' => ∀ H' α', Ext α α' H H' → RelS (rc X) α' H' S' → Q b H') (okE (rc X) W σ α H)) : tT (rc X) W f σ H1 Q :=
  ⟨α1, ρ, S1, hE.mono x1, s1, wpR_mono h (fun b S2 k H2 α2 x2 s2 => k H2 α2 (x1.trans x2) s2) fun _ _ z => z.mono x1⟩
theorem vmono {f : VM} {σ : L2.St} {H H1 : Hp} {α α1 : List Addr} {ρ : MEnv} {S1 : Sto} {Q : VK} (hE : RelE (rc X) α H ρ σ) (x1 : Ext α α1 H H1) (s1 : RelS (rc X) α1 H1 S1)
    (h : wpR (f ρ S1) (okV (rc X) Q α H) (okE (rc X) W σ α H)) : tV (rc X) W f σ H1 Q :=
  ⟨α1, ρ, S1, hE.mono x1, s1, wpR_mono h (fun b S2 k => k.mono x1) fun _ _ z => z.mono x1⟩
theorem sw_and {f g : TM} (h : ST X W a f) (t : SW X W (.BoolOp .And (b :: rest) pos) g) : SW X W (.BoolOp .And (a :: b :: rest) pos) (mAnd f g) := by
  refine PW.imp (pw_and h t) fun σ H Q ⟨α, ρ, S, hE, hS, q⟩ => ⟨α, ρ, S, hE, hS, ?_⟩
  refine wpR_mono (wpR_bind q) (fun x S1 h1 H1 α1 x1 s1 => ?_) fun _ _ z => z
  cases x with
  | true => exact iteT (tmono hE x1 s1 h1)
  | false => exact iteF (h1 H1 α1 x1 s1)
theorem sw_or {f g : TM} (h : ST X W a f) (t : SW X W (.BoolOp .Or (b :: rest) pos) g) : SW X W (.BoolOp .Or (a :: b :: rest) pos) (mOr f g) := by
  refine PW.imp (pw_or h t) fun σ H Q ⟨α, ρ, S, hE, hS, q⟩ => ⟨α, ρ, S, hE, hS, ?_⟩
  refine wpR_mono (wpR_bind q) (fun x S1 h1 H1 α1 x1 s1 => ?_) fun _ _ z => z
  cases x with
  | true => exact iteT (h1 H1 α1 x1 s1)
  | false => exact iteF (tmono hE x1 s1 h1)
theorem st_w {f : TM} (h : SW X W a f) : ST X W a f := PW.pt h
/-- and, or of truth values, as a value -/
def mVB (f : VM) (k : Bool → VM) : VM := fun ρ S => (f ρ S).bind fun x S1 => match x with
  | .v (.bl b) => k b ρ S1
  | _ => .bad
def mAndV (f g : VM) : VM := mVB f fun b ρ S => if b = true then g ρ S else .ok (.v (.bl false)) S
def mOrV (f g : VM) : VM := mVB f fun b ρ S => if b = true then .ok (.v (.bl true)) S else g ρ S
def mNotV (f : VM) : VM := mVB f fun b _ S => .ok (.v (.bl !b)) S
theorem vb_ok {f : VM} {k : Bool → VM} {H : Hp} {α : List Addr} {ρ : MEnv} {S : Sto} {Q : VK} {er : Exc → Sto → Prop} {R2 : Bool → Hp → Prop}
    (q : wpR (mVB f k ρ S) (okV (rc X) Q α H) er) (h : ∀ b S1 H1 α1, Ext α α1 H H1 → RelS (rc X) α1 H1 S1 → wpR (k b ρ S1) (okV (rc X) Q α H) er → R2 b H1) :
    wpR (f ρ S) (okV (rc X) (fun v H1 => ∃ c, v = .bl c ∧ R2 c H1) α H) er := by
  refine wpR_mono (wpR_bind q) (fun x S1 h1 => ?_) fun _ _ z => z
  cases x with
  | l n => exact h1.elim
  | n ds => exact h1.elim
  | v d =>
    cases d with
    | bl b =>
      intro v H' α' x1 s1 r1 f1
      have e : v = .bl b := by simpa only [RepX, Rep] using r1
      exact ⟨b, e, h b S1 H' α' x1 s1 h1⟩
    | _ => exact h1.elim
theorem sv_one {op} {f : VM} (h : SV X W a f) : SV X W (.BoolOp op [a] pos) f := pe_one h
theorem sv_and {f g : VM} (h : SV X W a f) (t : SV X W (.BoolOp .And (b :: rest) pos) g) : SV X W (.BoolOp .And (a :: b :: rest) pos) (mAndV f g) := by
  refine PE.imp (pe_and h t) fun σ H Q ⟨α, ρ, S, hE, hS, q⟩ => ⟨α, ρ, S, hE, hS, ?_⟩
  refine vb_ok q fun b S1 H1 α1 x1 s1 h1 => ?_
  cases b with
  | true => exact iteT (vmono hE x1 s1 h1)
  | false => exact iteF (h1 (.bl false) H1 α1 x1 s1 (by simp only [RepX, Rep]) trivial)
theorem sv_or {f g : VM} (h : SV X W a f) (t : SV X W (.BoolOp .Or (b :: rest) pos) g) : SV X W (.BoolOp .Or (a :: b :: rest) pos) (mOrV f g) := by
  refine PE.imp (pe_or h t) fun σ H Q ⟨α, ρ, S, hE, hS, q⟩ => ⟨α, ρ, S, hE, hS, ?_⟩
  refine vb_ok q fun b S1 H1 α1 x1 s1 h1 => ?_
  cases b with
  | false => exact iteF (vmono hE x1 s1 h1)
  | true => exact iteT (h1 (.bl true) H1 α1 x1 s1 (by simp only [RepX, Rep]) trivial)
theorem sv_not {f : VM} (h : SV X W a f) : SV X W (.UnaryOp .Not a pos) (mNotV f) := by
  refine PE.imp (pe_not h) fun σ H Q ⟨α, ρ, S, hE, hS, q⟩ => ⟨α, ρ, S, hE, hS, ?_⟩
  refine vb_ok q fun b S1 H1 α1 x1 s1 h1 => ?_
  exact h1 (.bl !b) H1 α1 x1 s1 (by simp only [RepX, Rep]) trivial
def mIfE (t : TM) (f g : VM) : VM := fun ρ S => (t ρ S).bind fun b S1 => if b = true then f ρ S1 else g ρ S1
theorem sv_if {t : TM} {f g : VM} {c : Expr} (hc : ST X W c t) (ha : SV X W a f) (hb : SV X W b g) : SV X W (.IfExp c a b pos) (mIfE t f g) := by
  refine PE.imp (pe_ifExp hc ha hb) fun σ H Q ⟨α, ρ, S, hE, hS, q⟩ => ⟨α, ρ, S, hE, hS, ?_⟩
  refine wpR_mono (wpR_bind q) (fun x S1 h1 H1 α1 x1 s1 => ?_) fun _ _ z => z
  cases x with
  | true => exact iteT (vmono hE x1 s1 h1)
  | false => exact iteF (vmono hE x1 s1 h1)

/-! ### displays -/
/-- all of them data -/
def dats : List Val → Option (List D)
  | [] => some []
  | .v d :: r => (dats r).map (d :: ·)
  | _ :: _ => none
theorem dats_rep {c : RC} {α : List Addr} {H : Hp} : ∀ {xs : List Val} {vs : List V} {ds : List D}, RepAs c α H xs vs → dats xs = some ds → Reps c H ds vs
  | _, _, _, .nil, e => by
    cases e
    exact .nil
  | _, _, _, .cons (x := x) (xs := xs) h t, e => by
    cases x with
    | l n => cases e
    | n ds => cases e
    | v d =>
      unfold dats at e
      cases hd : dats xs with
      | none => rw [hd] at e; cases e
      | some es =>
        rw [hd] at e
        cases e
        exact .cons h (dats_rep t hd)
def mTup (g : AM) : VM := fun ρ S => (g ρ S).bind fun xs S1 => match dats xs with
  | some ds => if ds.length ≤ lim then .ok (.v (.tup ds)) S1 else .bad
  | none => .bad
def mLst (g : AM) : VM := fun ρ S => (g ρ S).bind fun xs S1 => match dats xs with
  | some ds => if ds.length ≤ lim then .ok (.n (.li ds)) S1 else .bad
  | none => .bad
variable {es : List Expr}
theorem sv_tup {g : AM} {x1} (h : SA X W es g) : SV X W (.Tuple es x1 pos) (mTup g) := by
  refine PE.imp (pe_tup h) fun σ H Q ⟨α, ρ, S, hE, hS, q⟩ => ⟨α, ρ, S, hE, hS, ?_⟩
  refine wpR_mono (wpR_bind q) (fun xs S1 h1 vs H1 α1 x1 s1 r1 => ?_) fun _ _ z => z
  cases hd : dats xs with
  | none => rw [hd] at h1; exact h1.elim
  | some ds =>
    rw [hd] at h1
    dsimp only at h1
    by_cases hl : ds.length ≤ lim
    · rw [if_pos hl] at h1
      have r := dats_rep r1 hd
      exact ⟨by rw [← r.length, lim_eq]; exact hl, ((okV.mono x1 h1).Z s1).newT r⟩
    · rw [if_neg hl] at h1
      exact h1.elim
theorem sv_lst {g : AM} (h : SA X W es g) : SV X W (.List es pos) (mLst g) := by
  refine PE.imp (pe_lst h) fun σ H Q ⟨α, ρ, S, hE, hS, q⟩ => ⟨α, ρ, S, hE, hS, ?_⟩
  refine wpR_mono (wpR_bind q) (fun xs S1 h1 vs H1 α1 x1 s1 r1 => ?_) fun _ _ z => z
  cases hd : dats xs with
  | none => rw [hd] at h1; exact h1.elim
  | some ds =>
    rw [hd] at h1
    dsimp only at h1
    by_cases hl : ds.length ≤ lim
    · rw [if_pos hl] at h1
      have r := dats_rep r1 hd
      exact ⟨by rw [← r.length, lim_eq]; exact hl, ((okV.mono x1 h1).Z s1).new r⟩
    · rw [if_neg hl] at h1
      exact h1.elim
end
end M

namespace M
open PySem PySem.Spec PyProof.Rows L2

def ofR {α : Type} (r : R α) (ρ : MEnv) (k : α → Sto → RS) : RS := match r with
  | .ok a S => k a S
  | .er e S => .er e ρ S
  | .bad => .bad
/-- what is wanted of a statement's end -/
def wpS (c : RC) (W : WX) (D : Ends) (α : List Addr) (H : Hp) (r : RS) : Prop := match r with
  | .nx ρ S => ∀ σ' H' α', Ext α α' H H' → RelE c α' H' ρ σ' → RelS c α' H' S → D.nx σ' H'
  | .rt x S => ∀ v H' α', Ext α α' H H' → RelS c α' H' S → RepX c α' H' x v → Fresh H x v → D.rt v H'
  | .bk ρ S => ∀ σ' H' α', Ext α α' H H' → RelE c α' H' ρ σ' → RelS c α' H' S → D.bk σ' H'
  | .ct ρ S => ∀ σ' H' α', Ext α α' H H' → RelE c α' H' ρ σ' → RelS c α' H' S → D.ct σ' H'
  | .er e ρ S => ∀ cls od σ' H' α', Ext α α' H H' → RelE c α' H' ρ σ' → RelS c α' H' S → ExcRep c H' e cls od → W cls od σ' H'
  | .bad => False
def tS (c : RC) (W : WX) (f : SM) : TS := fun D σ H => ∃ α ρ S, RelE c α H ρ σ ∧ RelS c α H S ∧ wpS c W D α H (f ρ S)
def SS (X : Cx) (W : WX) (st : Stmt) (f : SM) : Prop := PS X st (tS (rc X) W f)
def SSs (X : Cx) (W : WX) (sts : List Stmt) (f : SM) : Prop := PSs X sts (tS (rc X) W f)

theorem Fresh.mono {c : RC} {α α' α2 : List Addr} {H H' H2 : Hp} (x : Ext α α' H H') (x2 : Ext α' α2 H' H2) {y : Val} {v : V} (r2 : RepX c α2 H2 y v) (f2 : Fresh H' y v) : Fresh H y v := by
  cases y with
  | v d => trivial
  | l n => trivial
  | n ds =>
    intro a e
    cases q : H a with
    | none => rfl
    | some o =>
      have h1 : H' a = none := f2 a e
      by_cases ha : a ∈ α
      · obtain ⟨b, e1, _, nb⟩ := r2
        rw [e] at e1
        cases e1
        obtain ⟨β, rfl⟩ := x.pre
        obtain ⟨γ, rfl⟩ := x2.pre
        exact absurd (List.mem_append_left _ (List.mem_append_left _ ha)) nb
      · rw [x.fr a o q ha] at h1
        cases h1
theorem wpS.mono {c : RC} {W : WX} {D D' : Ends} {α α' : List Addr} {H H' : Hp} {r : RS} (x : Ext α α' H H') (h : wpS c W D α H r) (hn : ∀ σ H, D.nx σ H → D'.nx σ H) (hr : ∀ v H, D.rt v H → D'.rt v H) (hb : ∀ σ H, D.bk σ H → D'.bk σ H) (hc : ∀ σ H, D.ct σ H → D'.ct σ H) : wpS c W D' α' H' r := by
  cases r with
  | nx ρ S => exact fun σ' H2 α2 x2 e s => hn _ _ (h σ' H2 α2 (x.trans x2) e s)
  | rt y S => exact fun v H2 α2 x2 s r f => hr _ _ (h v H2 α2 (x.trans x2) s r (Fresh.mono x x2 r f))
  | bk ρ S => exact fun σ' H2 α2 x2 e s => hb _ _ (h σ' H2 α2 (x.trans x2) e s)
  | ct ρ S => exact fun σ' H2 α2 x2 e s => hc _ _ (h σ' H2 α2 (x.trans x2) e s)
  | er e ρ S => exact fun cls od σ' H2 α2 x2 e s r => h cls od σ' H2 α2 (x.trans x2) e s r
  | bad => exact h
theorem wpS.ext {c : RC} {W : WX} {D : Ends} {α α' : List Addr} {H H' : Hp} {r : RS} (x : Ext α α' H H') (h : wpS c W D α H r) : wpS c W D α' H' r := h.mono x (fun _ _ z => z) (fun _ _ z => z) (fun _ _ z => z) (fun _ _ z => z)
theorem wpS.imp {c : RC} {W : WX} {D D' : Ends} {α : List Addr} {H : Hp} {r : RS} (h : wpS c W D α H r) (hn : ∀ σ H, D.nx σ H → D'.nx σ H) (hr : ∀ v H, D.rt v H → D'.rt v H) (hb : ∀ σ H, D.bk σ H → D'.bk σ H) (hc : ∀ σ H, D.ct σ H → D'.ct σ H) : wpS c W D' α H r := h.mono (.refl _ _) hn hr hb hc
theorem wpS_ofR {c : RC} {W : WX} {D : Ends} {α : List Addr} {H : Hp} {β : Type} {r : R β} {ρ : MEnv} {σ : L2.St} {k : β → Sto → RS} (hE : RelE c α H ρ σ) (h : wpS c W D α H (ofR r ρ k)) : wpR r (fun a S => wpS c W D α H (k a S)) (okE c W σ α H) := by
  cases r with
  | ok a S => exact h
  | er e S => exact fun cls od H' α' x s r => h cls od σ H' α' x (hE.mono x) s r
  | bad => exact h

section
variable {X : Cx} {W : WX} {st : Stmt} {sts : List Stmt} {e : Expr} {pos : Pos}
theorem PS.imp {t t' : TS} (h : PS X st t) (i : ∀ D σ H, t' D σ H → t D σ H) : PS X st t' := ⟨fun pins s σ H D I q => h.run pins s σ H D I (i D σ H q)⟩
theorem PSs.imp {t t' : TS} (h : PSs X sts t) (i : ∀ D σ H, t' D σ H → t D σ H) : PSs X sts t' := ⟨fun pins s σ H D I q => h.run pins s σ H D I (i D σ H q)⟩
def sSkip : SM := fun ρ S => .nx ρ S
def sSeq (f g : SM) : SM := fun ρ S => match f ρ S with
  | .nx ρ1 S1 => g ρ1 S1
  | r => r
theorem ss_nil : SSs X W [] sSkip := PSs.imp pss_nil fun D σ H ⟨α, ρ, S, hE, hS, q⟩ => q σ H α (.refl _ _) hE hS
theorem ss_cons {f g : SM} (h : SS X W st f) (t : SSs X W sts g) : SSs X W (st :: sts) (sSeq f g) := by
  refine PSs.imp (pss_cons h t) fun D σ H ⟨α, ρ, S, hE, hS, q⟩ => ⟨α, ρ, S, hE, hS, ?_⟩
  unfold sSeq at q
  cases hf : f ρ S with
  | nx ρ1 S1 =>
    rw [hf] at q
    exact fun σ' H' α' x e s => ⟨α', ρ1, S1, e, s, q.ext x⟩
  | rt x S1 => rw [hf] at q; exact q
  | bk ρ1 S1 => rw [hf] at q; exact q
  | ct ρ1 S1 => rw [hf] at q; exact q
  | er e ρ1 S1 => rw [hf] at q; exact q
  | bad => rw [hf] at q; exact q
theorem ss_one {f : SM} (h : SS X W st f) : SSs X W [st] f := pss_one h
theorem ss_pass : SS X W (.Pass pos) sSkip := PS.imp ps_pass fun D σ H ⟨α, ρ, S, hE, hS, q⟩ => q σ H α (.refl _ _) hE hS
def sBrk : SM := fun ρ S => .bk ρ S
def sCnt : SM := fun ρ S => .ct ρ S
theorem ss_break : SS X W (.Break pos) sBrk := PS.imp ps_break fun D σ H ⟨α, ρ, S, hE, hS, q⟩ => q σ H α (.refl _ _) hE hS
theorem ss_continue : SS X W (.Continue pos) sCnt := PS.imp ps_continue fun D σ H ⟨α, ρ, S, hE, hS, q⟩ => q σ H α (.refl _ _) hE hS
def sExpr (f : VM) : SM := fun ρ S => ofR (f ρ S) ρ fun _ S1 => .nx ρ S1
theorem ss_expr {f : VM} (h : SV X W e f) (hs : swapsWith e none pos.line X.env = pure false := by rfl) : SS X W (.Expr e pos) (sExpr f) := by
  refine PS.imp (ps_expr h hs) fun D σ H ⟨α, ρ, S, hE, hS, q⟩ => ⟨α, ρ, S, hE, hS, ?_⟩
  exact wpR_mono (wpS_ofR hE q) (fun x S1 h1 v H1 α1 x1 s1 r1 f1 => h1 σ H1 α1 x1 (hE.mono x1) s1) fun _ _ z => z
def sRet (f : VM) : SM := fun ρ S => ofR (f ρ S) ρ fun x S1 => .rt x S1
theorem ss_ret {f : VM} (h : SV X W e f) : SS X W (.Return (some e) pos) (sRet f) := by
  refine PS.imp (ps_ret h) fun D σ H ⟨α, ρ, S, hE, hS, q⟩ => ⟨α, ρ, S, hE, hS, ?_⟩
  exact wpR_mono (wpS_ofR hE q) (fun x S1 h1 v H1 α1 x1 s1 r1 f1 => h1 v H1 α1 x1 s1 r1 f1) fun _ _ z => z
def sRetN : SM := fun _ S => .rt (.v .non) S
theorem ss_retN : SS X W (.Return none pos) sRetN := PS.imp ps_retN fun D σ H ⟨α, ρ, S, hE, hS, q⟩ => q .non H α (.refl _ _) hS (by simp only [RepX, Rep]) trivial
def sIf (t : TM) (f g : SM) : SM := fun ρ S => ofR (t ρ S) ρ fun b S1 => if b = true then f ρ S1 else g ρ S1
theorem ss_if {t : TM} {f g : SM} {c : Expr} {a b : List Stmt} (hc : ST X W c t) (ha : SSs X W a f) (hb : SSs X W b g) : SS X W (.If c a b pos) (sIf t f g) := by
  refine PS.imp (ps_if hc ha hb) fun D σ H ⟨α, ρ, S, hE, hS, q⟩ => ⟨α, ρ, S, hE, hS, ?_⟩
  refine wpR_mono (wpS_ofR hE q) (fun x S1 h1 H1 α1 x1 s1 => ?_) fun _ _ z => z
  cases x with
  | true => exact iteT ⟨α1, ρ, S1, hE.mono x1, s1, h1.ext x1⟩
  | false => exact iteF ⟨α1, ρ, S1, hE.mono x1, s1, h1.ext x1⟩
/-- what a slot may hold -/
def toSlot (x : Val) (ρ : MEnv) (i : Nat) (S : Sto) : RS := match x with
  | .n _ => .bad
  | x => .nx (ρ.set i (some x)) S
def sSet (i : Nat) (f : VM) : SM := fun ρ S => ofR (f ρ S) ρ fun x S1 => toSlot x ρ i S1
theorem toSlot_ok {D : Ends} {σ : L2.St} {α α1 : List Addr} {H H1 : Hp} {ρ : MEnv} {S1 : Sto} {x : Val} {v : V} {i : Nat} (hE : RelE (rc X) α H ρ σ) (x1 : Ext α α1 H H1) (s1 : RelS (rc X) α1 H1 S1) (r1 : RepX (rc X) α1 H1 x v)
    (h : wpS (rc X) W D α H (toSlot x ρ i S1)) : D.nx (σ.set i (some v)) H1 := by
  cases x with
  | n ds => exact h.elim
  | v d => exact h _ H1 α1 x1 ((hE.mono x1).set (r1.A (fun _ => nofun)) i) s1
  | l n => exact h _ H1 α1 x1 ((hE.mono x1).set (r1.A (fun _ => nofun)) i) s1
theorem ss_set {f : VM} {te : TE} {i : Nat} (h : PS X st (tAsg (tV (rc X) W f) (gName i))) : SS X W st (sSet i f) := by
  refine PS.imp h fun D σ H ⟨α, ρ, S, hE, hS, q⟩ => ⟨α, ρ, S, hE, hS, ?_⟩
  exact wpR_mono (wpS_ofR hE q) (fun x S1 h1 v H1 α1 x1 s1 r1 f1 => toSlot_ok hE x1 s1 r1 h1) fun _ _ z => z
/-- name op= e (ints, texts) -/
def sAug (i : Nat) (g : D → D → Option Val) (f : VM) : SM := fun ρ S => match ρ[i]? with
  | some (some (.v d)) => ofR (f ρ S) ρ fun y S1 => ofR (ap2 g S1 (.v d) y) ρ fun z S2 => toSlot z ρ i S2
  | _ => .bad
theorem ss_aug {f : VM} {r : R2} {g : D → D → Option Val} {i : Nat} (h : PS X st (tAug i (tV (rc X) W f) r)) (hg : OpG X r g) : SS X W st (sAug i g f) := by
  refine PS.imp h fun D σ H ⟨α, ρ, S, hE, hS, q⟩ => ?_
  unfold sAug at q
  cases hi : ρ[i]? with
  | none => rw [hi] at q; exact q.elim
  | some o =>
    rw [hi] at q
    cases o with
    | none => exact q.elim
    | some x =>
      cases x with
      | l n => exact q.elim
      | n ds => exact q.elim
      | v d =>
        obtain ⟨v, ev, rv⟩ := hE.at_ i _ hi
        refine ⟨v, ev, α, ρ, S, hE, hS, ?_⟩
        refine wpR_mono (wpS_ofR hE q) (fun y S1 h1 w H1 α1 x1 s1 r1 f1 => ?_) fun _ _ z => z
        have rv1 : RepX (rc X) α1 H1 (.v d) v := (rv.mono x1).X
        refine ap2_ok (er := okE (rc X) W σ α H) hg s1 rv1 r1 (wpR_mono (wpS_ofR hE h1) (fun z S2 h2 u H2 α2 x2 s2 r2 f2 => ?_) fun _ _ z => z)
        exact toSlot_ok hE (x1.trans x2) s2 r2 h2

/-! ### targets -/
abbrev GM := D → MEnv → Sto → R MEnv
abbrev GMs := List D → MEnv → Sto → R MEnv
def tG (c : RC) (f : GM) : TG := fun v σ H Q => ∃ α ρ S d, RelE c α H ρ σ ∧ RelS c α H S ∧ Rep c H d v ∧ wpR (f d ρ S) (fun ρ' S' => ∀ σ' H' α', Ext α α' H H' → RelE c α' H' ρ' σ' → RelS c α' H' S' → Q σ' H') (fun _ _ => False)
def tGs (c : RC) (f : GMs) : TGs := fun vs σ H Q => ∃ α ρ S ds, RelE c α H ρ σ ∧ RelS c α H S ∧ Reps c H ds vs ∧ wpR (f ds ρ S) (fun ρ' S' => ∀ σ' H' α', Ext α α' H H' → RelE c α' H' ρ' σ' → RelS c α' H' S' → Q σ' H') (fun _ _ => False)
def SG (X : Cx) (tg : Expr) (f : GM) : Prop := PG X tg (tG (rc X) f)
def SGs (X : Cx) (tgs : List Expr) (f : GMs) : Prop := PGs X tgs (tGs (rc X) f)
theorem PG.imp {t t' : TG} (h : PG X e t) (i : ∀ v σ H Q, t' v σ H Q → t v σ H Q) : PG X e t' := ⟨fun pins s σ H v u Q I r q => h.run pins s σ H v u Q I r (i v σ H Q q)⟩
theorem PGs.imp {es : List Expr} {t t' : TGs} (h : PGs X es t) (i : ∀ v σ H Q, t' v σ H Q → t v σ H Q) : PGs X es t' := ⟨fun pins s σ H v u Q I r q => h.run pins s σ H v u Q I r (i v σ H Q q)⟩
def gN (i : Nat) : GM := fun d ρ S => .ok (ρ.set i (some (.v d))) S
theorem sg_name {i : Nat} (h : PG X e (gName i)) : SG X e (gN i) := by
  refine PG.imp h fun v σ H Q ⟨α, ρ, S, d, hE, hS, r, q⟩ => ?_
  exact q _ H α (.refl _ _) (hE.set (x := .v d) r i) hS
def gsN : GMs := fun ds ρ S => match ds with
  | [] => .ok ρ S
  | _ => .bad
def gsC (f : GM) (g : GMs) : GMs := fun ds ρ S => match ds with
  | d :: r => (f d ρ S).bind fun ρ1 S1 => g r ρ1 S1
  | [] => .bad
theorem sgs_nil : SGs X [] gsN := by
  refine PGs.imp pgs_nil fun vs σ H Q ⟨α, ρ, S, ds, hE, hS, r, q⟩ => ?_
  cases ds with
  | nil =>
    simp only [Reps] at r
    exact ⟨r, q σ H α (.refl _ _) hE hS⟩
  | cons d r => exact q.elim
theorem sgs_cons {es : List Expr} {f : GM} {g : GMs} (h : SG X e f) (t : SGs X es g) (hs : (assignEach (e :: es) X.env).map (·.2) = assign e X.env :: (assignEach es X.env).map (·.2) := by rfl) : SGs X (e :: es) (gsC f g) := by
  refine PGs.imp (pgs_cons h t hs) fun vs σ H Q ⟨α, ρ, S, ds, hE, hS, r, q⟩ => ?_
  cases ds with
  | nil => exact q.elim
  | cons d ds =>
    simp only [Reps] at r
    obtain ⟨v, vs', rfl, r1, r2⟩ := r
    refine ⟨v, vs', rfl, α, ρ, S, d, hE, hS, r1, ?_⟩
    refine wpR_mono (wpR_bind q) (fun ρ1 S1 h1 σ1 H1 α1 x1 e1 s1 => ?_) fun _ _ z => z
    exact ⟨α1, ρ1, S1, ds, e1, s1, r2.mono x1.le, wpR_mono h1 (fun ρ2 S2 h2 σ2 H2 α2 x2 e2 s2 => h2 σ2 H2 α2 (x1.trans x2) e2 s2) fun _ _ z => z⟩
def gT (n : Nat) (g : GMs) : GM := fun d ρ S => match d with
  | .tup ds => if ds.length = n then g ds ρ S else .bad
  | _ => .bad
theorem sg_tup {es : List Expr} {k n : Nat} {g : GMs} (hc : X.calm = true) (h : SGs X es g) (hn : (assignEach es X.env).length = n := by rfl) (hst : (assignEach es X.env).findIdx? (·.1) = none := by rfl) : SG X (.Tuple es k pos) (gT n g) := by
  refine PG.imp (pg_tup hc h hn hst) fun v σ H Q ⟨α, ρ, S, d, hE, hS, r, q⟩ => ?_
  cases d with
  | tup ds =>
    simp only [Rep] at r
    obtain ⟨a, xs, rfl, sq, r⟩ := r
    unfold gT at q
    dsimp only at q
    by_cases hl : ds.length = n
    · rw [if_pos hl] at q
      exact ⟨a, xs, rfl, tupQ sq, by rw [← r.length]; exact hl, α, ρ, S, ds, hE, hS, r, q⟩
    · rw [if_neg hl] at q
      exact q.elim
  | _ => exact q.elim
/-- target = value -/
def sAsg (f : VM) (g : GM) : SM := fun ρ S => ofR (f ρ S) ρ fun x S1 => match x with
  | .v d => (match g d ρ S1 with
    | .ok ρ2 S2 => .nx ρ2 S2
    | _ => .bad)
  | _ => .bad
theorem ss_asg {tg : Expr} {f : VM} {g : GM} (h : SV X W e f) (t : SG X tg g) (hs : swapsWithSole [tg] e pos.line X.env = pure false := by rfl) (hw : swappedStores [tg] e X.env = pure none := by rfl)
    (h1 : (assignEach [tg] X.env).map (·.2) = [assign tg X.env] := by rfl) : SS X W (.Assign [tg] e pos) (sAsg f g) := by
  refine PS.imp (ps_asg h t hs hw h1) fun D σ H ⟨α, ρ, S, hE, hS, q⟩ => ⟨α, ρ, S, hE, hS, ?_⟩
  refine wpR_mono (wpS_ofR hE q) (fun x S1 h1 v H1 α1 x1 s1 r1 f1 => ?_) fun _ _ z => z
  cases x with
  | l n => exact h1.elim
  | n ds => exact h1.elim
  | v d =>
    dsimp only at h1
    refine ⟨α1, ρ, S1, d, hE.mono x1, s1, r1, ?_⟩
    cases hg : g d ρ S1 with
    | bad => rw [hg] at h1; exact h1.elim
    | er e S2 => rw [hg] at h1; exact h1.elim
    | ok ρ2 S2 =>
      rw [hg] at h1
      exact fun σ2 H2 α2 x2 e2 s2 => h1 σ2 H2 α2 (x1.trans x2) e2 s2
/-- a, b = x, y -/
def sPar (i j : Nat) (g : AM) : SM := fun ρ S => ofR (g ρ S) ρ fun xs S1 => match xs with
  | [x, y] => .nx ((ρ.set i (some x)).set j (some y)) S1
  | _ => .bad
theorem ss_par {i j : Nat} {g : AM} (h : PS X st (tPar i j (tA (rc X) W g))) : SS X W st (sPar i j g) := by
  refine PS.imp h fun D σ H ⟨α, ρ, S, hE, hS, q⟩ => ⟨α, ρ, S, hE, hS, ?_⟩
  refine wpR_mono (wpS_ofR hE q) (fun xs S1 h1 vs H1 α1 x1 s1 r1 => ?_) fun _ _ z => z
  cases r1 with
  | nil => exact h1.elim
  | cons ra t =>
    cases t with
    | nil => exact h1.elim
    | cons rb t =>
      cases t with
      | nil => exact ⟨_, _, rfl, h1 _ H1 α1 x1 (((hE.mono x1).set ra i).set rb j) s1⟩
      | cons _ _ => exact h1.elim

/-! ### loops -/
inductive Items where
  | fix (ds : List D) | at_ (n : Nat)
abbrev IM := MEnv → Sto → R Items
def ItOk (c : RC) (α : List Addr) (J : It) (H : Hp) : Items → Prop
  | .fix ds => ∀ H1, LeH H H1 → ∀ i, (∀ d, ds[i]? = some d → J.go i H1 ∧ ∀ x H2, J.yld i H1 x H2 → Same H1 H2 ∧ Rep c H2 d x) ∧ (ds[i]? = none → J.stop i H1)
  | .at_ n => ∃ a, α[n]? = some a ∧ J = Itl c.K a
def tI (c : RC) (W : WX) (f : IM) : TI := fun σ H R => ∃ α ρ S, RelE c α H ρ σ ∧ RelS c α H S ∧ wpR (f ρ S) (fun it S' => ∀ J H' α', Ext α α' H H' → RelS c α' H' S' → ItOk c α' J H' it → R J H') (okE c W σ α H)
def SI (X : Cx) (W : WX) (tg e : Expr) (f : IM) : Prop := PI X tg e (tI (rc X) W f)
theorem PI.imp {tg : Expr} {t t' : TI} (h : PI X tg e t) (i : ∀ σ H Q, t' σ H Q → t σ H Q) : PI X tg e t' := ⟨fun pins s σ H Q I q => h.run pins s σ H Q I (i σ H Q q)⟩
/-- a turn's end, and on -/
def onward (r : RS) (k : MEnv → Sto → RS) : RS := match r with
  | .nx ρ S => k ρ S
  | .ct ρ S => k ρ S
  | .bk ρ S => .nx ρ S
  | r => r
theorem onward_ok {c : RC} {D : Ends} {α : List Addr} {H : Hp} {r : RS} {k : MEnv → Sto → RS} {N : L2.St → Hp → Prop} (h : wpS c W D α H (onward r k))
    (hN : ∀ ρ S, wpS c W D α H (k ρ S) → ∀ σ' H' α', Ext α α' H H' → RelE c α' H' ρ σ' → RelS c α' H' S → N σ' H') : wpS c W { D with nx := N, ct := N, bk := D.nx } α H r := by
  cases r with
  | nx ρ S => exact fun σ' H' α' x e s => hN ρ S h σ' H' α' x e s
  | ct ρ S => exact fun σ' H' α' x e s => hN ρ S h σ' H' α' x e s
  | bk ρ S => exact h
  | rt x S => exact h
  | er e ρ S => exact h
  | bad => exact h
def step (g : GM) (body : SM) (d : D) (ρ : MEnv) (S : Sto) (k : MEnv → Sto → RS) : RS := match g d ρ S with
  | .ok ρ1 S1 => onward (body ρ1 S1) k
  | _ => .bad
def forL (g : GM) (body : SM) : List D → MEnv → Sto → RS
  | [], ρ, S => .nx ρ S
  | d :: ds, ρ, S => step g body d ρ S (forL g body ds)
/-- over the list at the place n, as it stands at each turn -/
def forN (g : GM) (body : SM) (n : Nat) : Nat → Nat → MEnv → Sto → RS
  | k, i, ρ, S => match liAt S n with
    | some ds => (match ds[i]? with
      | none => .nx ρ S
      | some d => (match k with
        | 0 => .bad
        | k + 1 => step g body d ρ S (forN g body n k (i + 1))))
    | _ => .bad
def lenAt (S : Sto) (n : Nat) : Nat := match liAt S n with
  | some ds => ds.length
  | _ => 0
def sFor (it : IM) (g : GM) (body : SM) : SM := fun ρ S => ofR (it ρ S) ρ fun t S1 => match t with
  | .fix ds => forL g body ds ρ S1
  | .at_ n => forN g body n (lenAt S1 n) 0 ρ S1
theorem step_ok {c : RC} {d : D} {D : Ends} {α α1 : List Addr} {H H1 : Hp} {g : GM} {body : SM} {ρ : MEnv} {S : Sto} {σ : L2.St} {x : V} {k : MEnv → Sto → RS} {N : L2.St → Hp → Prop}
    (x1 : Ext α α1 H H1) (e1 : RelE c α1 H1 ρ σ) (s1 : RelS c α1 H1 S) (rd : Rep c H1 d x) (h : wpS c W D α H (step g body d ρ S k))
    (hN : ∀ ρ S, wpS c W D α H (k ρ S) → ∀ σ' H' α', Ext α α' H H' → RelE c α' H' ρ σ' → RelS c α' H' S → N σ' H') :
    tG c g x σ H1 fun σ2 H2 => tS c W body { D with nx := N, ct := N, bk := D.nx } σ2 H2 := by
  unfold step at h
  refine ⟨α1, ρ, S, d, e1, s1, rd, ?_⟩
  cases hg : g d ρ S with
  | bad => rw [hg] at h; exact h.elim
  | er e S2 => rw [hg] at h; exact h.elim
  | ok ρ2 S2 =>
    rw [hg] at h
    exact fun σ2 H2 α2 x2 e2 s2 => ⟨α2, ρ2, S2, e2, s2, wpS.ext (x1.trans x2) (onward_ok h hN)⟩
theorem ss_for {tg iter : Expr} {body : List Stmt} {it : IM} {g : GM} {f : SM} (hp : PassesOwn (model X.prog X.w) X.A X.env X.xe) (hc : X.calm = true) (hi : SI X W tg iter it) (hg : SG X tg g) (hb : SSs X W body f)
    (hs : ∀ x, foldedSetIterable iter X.env x = pure x := by intro _; rfl) : SS X W (.For tg iter body [] pos) (sFor it g f) := by
  refine PS.imp (ps_for hp hc hi hg hb hs) fun D σ H ⟨α, ρ, S, hE, hS, q⟩ => ⟨α, ρ, S, hE, hS, ?_⟩
  refine wpR_mono (wpS_ofR hE q) (fun t S0 h0 J H0 α0 x0 s0 ok => ?_) fun _ _ z => z
  cases t with
  | fix ds =>
    dsimp only at h0
    refine ⟨fun i m σ1 H1 => m = ds.length - i ∧ i ≤ ds.length ∧ ∃ α1 ρ1 S1, Ext α0 α1 H0 H1 ∧ RelE (rc X) α1 H1 ρ1 σ1 ∧ RelS (rc X) α1 H1 S1 ∧ wpS (rc X) W D α0 H0 (forL g f (ds.drop i) ρ1 S1),
      ⟨ds.length, by simp, Nat.zero_le _, α0, ρ, S0, .refl _ _, hE.mono x0, s0, by simpa using h0.ext x0⟩, ?_⟩
    rintro i m σ1 H1 ⟨rfl, hi, α1, ρ1, S1, x1, e1, s1, h1⟩
    obtain ⟨ok1, ok2⟩ := ok H1 x1.le i
    by_cases hlt : i < ds.length
    · have hd : ds[i]? = some ds[i] := by simp [hlt]
      obtain ⟨go, yl⟩ := ok1 _ hd
      have hdrop : ds.drop i = ds[i] :: ds.drop (i + 1) := List.drop_eq_getElem_cons hlt
      rw [hdrop] at h1
      refine .inr ⟨go, fun σ2 H2 => ∃ α2 ρ2 S2, Ext α0 α2 H0 H2 ∧ RelE (rc X) α2 H2 ρ2 σ2 ∧ RelS (rc X) α2 H2 S2 ∧ wpS (rc X) W D α0 H0 (forL g f (ds.drop (i + 1)) ρ2 S2), ?_, fun x H2 y => ?_⟩
      · rintro σ2 H2 ⟨α2, ρ2, S2, x2, e2, s2, h2⟩
        exact ⟨ds.length - (i + 1), by omega, rfl, hlt, α2, ρ2, S2, x2, e2, s2, h2⟩
      · obtain ⟨sm, rd⟩ := yl x H2 y
        have x12 : Ext α1 α1 H1 H2 := .of_same sm
        exact step_ok (x1.trans x12) (e1.mono x12) (s1.same sm) rd h1 fun ρ3 S3 h3 σ3 H3 α3 x3 e3 s3 => ⟨α3, ρ3, S3, x3, e3, s3, h3⟩
    · have hi2 : i = ds.length := by omega
      subst hi2
      refine .inl ⟨ok2 (by simp), ?_⟩
      rw [List.drop_length] at h1
      exact h1 σ1 H1 α1 x1 e1 s1
  | at_ n =>
    dsimp only at h0
    obtain ⟨a, ea, rfl⟩ := ok
    refine ⟨fun i m σ1 H1 => ∃ α1 ρ1 S1, Ext α0 α1 H0 H1 ∧ RelE (rc X) α1 H1 ρ1 σ1 ∧ RelS (rc X) α1 H1 S1 ∧ wpS (rc X) W D α0 H0 (forN g f n m i ρ1 S1),
      ⟨lenAt S0 n, α0, ρ, S0, .refl _ _, hE.mono x0, s0, h0.ext x0⟩, ?_⟩
    rintro i m σ1 H1 ⟨α1, ρ1, S1, x1, e1, s1, h1⟩
    have h2 := h1
    rw [forN.eq_def] at h2
    dsimp only at h2
    cases hn : liAt S1 n with
    | none => rw [hn] at h2; exact h2.elim
    | some ds =>
      match () with
      | () =>
        rw [hn] at h2
        dsimp only at h2
        obtain ⟨b, xs, eb, hb, r⟩ := s1.li n ds hn
        have eb' := pre_get x1.pre ea
        rw [eb'] at eb
        cases eb
        have sq : SqL X.K H1 a xs := .inl (.inl hb)
        cases hd : ds[i]? with
        | none =>
          rw [hd] at h2
          refine .inl ⟨⟨xs, sq, ?_⟩, h2 σ1 H1 α1 x1 e1 s1⟩
          rw [← r.length]
          exact List.getElem?_eq_none_iff.mp hd
        | some d =>
          rw [hd] at h2
          cases m with
          | zero => exact h2.elim
          | succ k =>
            obtain ⟨x, ex, rx⟩ := r.get hd
            refine .inr ⟨⟨xs, x, sq, ex⟩, fun σ2 H2 => ∃ α2 ρ2 S2, Ext α0 α2 H0 H2 ∧ RelE (rc X) α2 H2 ρ2 σ2 ∧ RelS (rc X) α2 H2 S2 ∧ wpS (rc X) W D α0 H0 (forN g f n k (i + 1) ρ2 S2), ?_, fun y H2 yy => ?_⟩
            · rintro σ2 H2 ⟨α2, ρ2, S2, x2, e2, s2, h3⟩
              exact ⟨k, by omega, α2, ρ2, S2, x2, e2, s2, h3⟩
            · obtain ⟨rfl, fy⟩ := yy
              have ey := fy xs sq
              rw [ex] at ey
              cases ey
              exact step_ok x1 e1 s1 rx h2 fun ρ3 S3 h3 σ3 H3 α3 x3 e3 s3 => ⟨α3, ρ3, S3, x3, e3, s3, h3⟩
def whM (t : TM) (body : SM) : Nat → MEnv → Sto → RS
  | 0, _, _ => .bad
  | k + 1, ρ, S => ofR (t ρ S) ρ fun b S1 => if b = true then onward (body ρ S1) (whM t body k) else .nx ρ S1
theorem ss_while {c : Expr} {body : List Stmt} {t : TM} {f : SM} (n : Nat) (hp : PassesOwn (model X.prog X.w) X.A X.env X.xe) (hc : ST X W c t) (hb : SSs X W body f) : SS X W (.While c body [] pos) (whM t f n) := by
  refine PS.imp (ps_while hp hc hb) fun D σ H ⟨α, ρ, S, hE, hS, q⟩ => ?_
  refine ⟨fun m σ1 H1 => ∃ α1 ρ1 S1, RelE (rc X) α1 H1 ρ1 σ1 ∧ RelS (rc X) α1 H1 S1 ∧ wpS (rc X) W D α1 H1 (whM t f m ρ1 S1), ⟨n, α, ρ, S, hE, hS, q⟩, ?_⟩
  rintro m σ1 H1 ⟨α1, ρ1, S1, e1, s1, h1⟩
  cases m with
  | zero => exact h1.elim
  | succ k =>
    have h2 : wpS (rc X) W D α1 H1 (ofR (t ρ1 S1) ρ1 fun b S2 => if b = true then onward (f ρ1 S2) (whM t f k) else .nx ρ1 S2) := h1
    refine ⟨α1, ρ1, S1, e1, s1, ?_⟩
    refine wpR_mono (wpS_ofR e1 h2) (fun b S2 h3 H2 α2 x2 s2 => ?_) fun _ _ z => z
    cases b with
    | true =>
      refine iteT ⟨fun σ3 H3 => ∃ α3 ρ3 S3, RelE (rc X) α3 H3 ρ3 σ3 ∧ RelS (rc X) α3 H3 S3 ∧ wpS (rc X) W D α3 H3 (whM t f k ρ3 S3), fun σ3 H3 ⟨α3, ρ3, S3, e3, s3, h4⟩ => ⟨k, by omega, α3, ρ3, S3, e3, s3, h4⟩, ?_⟩
      exact ⟨α2, ρ1, S2, e1.mono x2, s2, wpS.ext x2 (onward_ok h3 fun ρ3 S3 h4 σ3 H3 α3 x3 e3 s3 => ⟨α3, ρ3, S3, e3, s3, h4.ext x3⟩)⟩
    | false => exact iteF (h3 σ1 H2 α2 x2 (e1.mono x2) s2)
end
end M

namespace M
open PySem PySem.Spec PyProof.Rows L2

/-! ### what is walked -/
section
variable {X : Cx} {W : WX} {tg e : Expr}
theorem ItOk.listF {c : RC} {α : List Addr} {H : Hp} {a : Addr} {xs : List V} {ds : List D} (h : KlL c.K H a xs) (r : Reps c H ds xs) : ItOk c α (Itl c.K a) H (.fix ds) := by
  intro H1 l i
  have sq : SqL c.K H1 a xs := (l.klL h).seq
  refine ⟨fun d hd => ?_, fun hn => ⟨xs, sq, by rw [← r.length]; exact List.getElem?_eq_none_iff.mp hn⟩⟩
  obtain ⟨x, ex, rx⟩ := r.get hd
  refine ⟨⟨xs, x, sq, ex⟩, fun y H2 ⟨e2, f⟩ => ?_⟩
  subst e2
  have e3 := f xs sq
  rw [ex] at e3
  cases e3
  exact ⟨Same.refl _, rx.mono l⟩
theorem ItOk.tup {c : RC} {α : List Addr} {H : Hp} {a : Addr} {xs : List V} {ds : List D} (h : SqT c.K H a xs) (r : Reps c H ds xs) : ItOk c α (Itt c.K a) H (.fix ds) := by
  intro H1 l i
  have sq : SqT c.K H1 a xs := l.sqT h
  refine ⟨fun d hd => ?_, fun hn => ⟨xs, sq, by rw [← r.length]; exact List.getElem?_eq_none_iff.mp hn⟩⟩
  obtain ⟨x, ex, rx⟩ := r.get hd
  refine ⟨⟨xs, x, sq, ex⟩, fun y H2 ⟨e2, f⟩ => ?_⟩
  subst e2
  have e3 := f xs sq
  rw [ex] at e3
  cases e3
  exact ⟨Same.refl _, rx.mono l⟩
def chars (x : PySem.Str) : List D := x.cps.toList.map fun n => .str ⟨#[n]⟩
theorem ItOk.str {c : RC} {α : List Addr} {H : Hp} {x : PySem.Str} : ItOk c α (Its x) H (.fix (chars x)) := by
  intro H1 l i
  refine ⟨fun d hd => ?_, fun hn => ?_⟩
  · unfold chars at hd
    rw [List.getElem?_map] at hd
    cases q : x.cps.toList[i]? with
    | none => rw [q] at hd; cases hd
    | some n =>
      rw [q] at hd
      cases hd
      have q2 : x.cps[i]? = some n := by simpa using q
      refine ⟨(Array.getElem?_eq_some_iff.mp q2).1, fun y H2 ⟨e2, n2, e3, e4⟩ => ?_⟩
      subst e2
      rw [q2] at e3
      cases e3
      exact ⟨Same.refl _, by simp only [Rep]; exact e4⟩
  · unfold chars at hn
    have := List.getElem?_eq_none_iff.mp hn
    rw [List.length_map] at this
    show x.cps.size ≤ i
    simpa using this
/-- a list, a tuple, a text -/
def mIt (f : VM) : IM := fun ρ S => (mFz f ρ S).bind fun x S1 => match x with
  | .v (.lst ds) => .ok (.fix ds) S1
  | .v (.kl ds) => .ok (.fix ds) S1
  | .v (.tup ds) => .ok (.fix ds) S1
  | .v (.str z) => .ok (.fix (chars z)) S1
  | .l n => (match liAt S1 n with
    | some _ => .ok (.at_ n) S1
    | _ => .bad)
  | _ => .bad
theorem si_any {f : VM} (h : SV X W e f) : SI X W tg e (mIt f) := by
  refine ⟨fun pins s σ H Rw I ⟨α, ρ, S, hE, hS, q⟩ => ?_⟩
  have q2 := q
  unfold mIt at q2
  -- which of them it is, is known ahead
  cases hf : mFz f ρ S with
  | bad =>
    rw [hf] at q2
    exact q2.elim
  | er e' S1 =>
    rw [hf] at q2
    refine (pi_list (tg := tg) (sv_fz h)).run pins s σ H Rw I ⟨α, ρ, S, hE, hS, ?_⟩
    rw [hf]
    exact q2
  | ok x S1 =>
    rw [hf] at q2
    have q3 : wpR (match x with
      | .v (.lst ds) => R.ok (Items.fix ds) S1
      | .v (.kl ds) => .ok (.fix ds) S1
      | .v (.tup ds) => .ok (.fix ds) S1
      | .v (.str z) => .ok (.fix (chars z)) S1
      | .l n => (match liAt S1 n with
        | some _ => .ok (.at_ n) S1
        | _ => .bad)
      | _ => .bad) _ _ := q2
    cases x with
    | n ds => exact q3.elim
    | l n =>
      dsimp only at q3
      refine (pi_list (tg := tg) (sv_fz h)).run pins s σ H Rw I ⟨α, ρ, S, hE, hS, ?_⟩
      rw [hf]
      cases hn : liAt S1 n with
      | none => rw [hn] at q3; exact q3.elim
      | some ds =>
        match () with
        | () =>
          rw [hn] at q3
          intro v H1 α1 x1 s1 r1 f1
          obtain ⟨a, e1, rfl⟩ := r1
          obtain ⟨b, xs, e2, ea, r⟩ := s1.li n ds hn
          rw [e1] at e2
          cases e2
          exact ⟨a, rfl, ⟨xs, .inl (.inl ea)⟩, q3 _ H1 α1 x1 s1 ⟨a, e1, rfl⟩⟩
    | v d =>
      cases d with
      | lst ds =>
        refine (pi_list (tg := tg) (sv_fz h)).run pins s σ H Rw I ⟨α, ρ, S, hE, hS, ?_⟩
        rw [hf]
        intro v H1 α1 x1 s1 r1 f1
        have r1' : Rep (rc X) H1 (.lst ds) v := r1
        simp only [Rep] at r1'
        obtain ⟨a, xs, rfl, q, r⟩ := r1'
        exact ⟨a, rfl, ⟨xs, .inl q.rd⟩, q3 _ H1 α1 x1 s1 (.listF (.inl q) r)⟩
      | kl ds =>
        refine (pi_list (tg := tg) (sv_fz h)).run pins s σ H Rw I ⟨α, ρ, S, hE, hS, ?_⟩
        rw [hf]
        intro v H1 α1 x1 s1 r1 f1
        have r1' : Rep (rc X) H1 (.kl ds) v := r1
        simp only [Rep] at r1'
        obtain ⟨a, xs, rfl, q, r⟩ := r1'
        exact ⟨a, rfl, ⟨xs, q.seq⟩, q3 _ H1 α1 x1 s1 (.listF q r)⟩
      | tup ds =>
        refine (pi_tup (tg := tg) (sv_fz h)).run pins s σ H Rw I ⟨α, ρ, S, hE, hS, ?_⟩
        rw [hf]
        intro v H1 α1 x1 s1 r1 f1
        have r1' : Rep (rc X) H1 (.tup ds) v := r1
        simp only [Rep] at r1'
        obtain ⟨a, xs, rfl, q, r⟩ := r1'
        exact ⟨a, rfl, ⟨xs, tupQ q⟩, q3 _ H1 α1 x1 s1 (.tup (tupQ q) r)⟩
      | str z =>
        refine (pi_str (tg := tg) (sv_fz h)).run pins s σ H Rw I ⟨α, ρ, S, hE, hS, ?_⟩
        rw [hf]
        intro v H1 α1 x1 s1 r1 f1
        have r1' : Rep (rc X) H1 (.str z) v := r1
        simp only [Rep] at r1'
        exact ⟨z, r1', q3 _ H1 α1 x1 s1 .str⟩
      | _ => exact q3.elim
/-- lo, lo + 1, .. -/
def upto (lo : Int) (n : Nat) : List D := (List.range n).map fun i => .int (lo + (i : Nat))
theorem upto_get {lo : Int} {n i : Nat} {d : D} (h : (upto lo n)[i]? = some d) : i < n ∧ d = .int (lo + (i : Nat)) := by
  unfold upto at h
  rw [List.getElem?_map] at h
  by_cases hi : i < n
  · rw [List.getElem?_range hi] at h
    cases h
    exact ⟨hi, rfl⟩
  · rw [List.getElem?_eq_none (by simpa using hi)] at h
    cases h
theorem upto_none {lo : Int} {n i : Nat} (h : (upto lo n)[i]? = none) : n ≤ i := by
  have := List.getElem?_eq_none_iff.mp h
  simpa [upto] using this
theorem ItOk.rng {c : RC} {α : List Addr} {H : Hp} {lo : Int} {n : Nat} : ItOk c α (Itr lo n) H (.fix (upto lo n)) := by
  intro H1 l i
  refine ⟨fun d hd => ?_, fun hn => upto_none hn⟩
  obtain ⟨hi, rfl⟩ := upto_get hd
  exact ⟨hi, fun x H2 ⟨e1, e2⟩ => ⟨by subst e1; exact Same.refl _, by simp only [Rep]; exact e2⟩⟩
/-- i is small; written so that nothing is unfolded where i is not known -/
def fitsN (b : Nat) : Int → Bool
  | .ofNat n => Nat.ble n b
  | .negSucc n => Nat.ble n b
theorem fitsN_iff {b : Nat} : ∀ {i : Int}, fitsN b i = true ↔ -((b : Int) + 1) ≤ i ∧ i ≤ b
  | .ofNat n => by
    show Nat.ble n b = true ↔ _
    rw [Nat.ble_eq]
    simp only [Int.ofNat_eq_natCast]
    omega
  | .negSucc n => by
    show Nat.ble n b = true ↔ _
    rw [Nat.ble_eq, Int.negSucc_eq]
    omega
def fits62 (i : Int) : Bool := fitsN 4611686018427387903 i
theorem fits62_of {i : Int} (h : fits62 i = true) : -(2 ^ 62) ≤ i ∧ i < 2 ^ 62 := by
  have := fitsN_iff.mp h
  exact ⟨by omega, by omega⟩
theorem fits62_iff {i : Int} : fits62 i = true ↔ -4611686018427387904 ≤ i ∧ i < 4611686018427387904 := by
  unfold fits62
  rw [fitsN_iff]
  omega
def rng1 (xs : List Val) (S : Sto) : R Items := match xs with
  | [.v (.int j)] => if fits62 j then .ok (.fix (upto 0 j.toNat)) S else .bad
  | _ => .bad
def rng2 (xs : List Val) (S : Sto) : R Items := match xs with
  | [.v (.int i), .v (.int j)] => if fits62 i && fits62 j then .ok (.fix (upto i (j - i).toNat)) S else .bad
  | _ => .bad
def mRng (k : List Val → Sto → R Items) (g : AM) : IM := fun ρ S => (g ρ S).bind k
theorem RepAs.one {c : RC} {α : List Addr} {H : Hp} {x : Val} {vs : List V} (r : RepAs c α H [x] vs) : ∃ v, vs = [v] ∧ RepA c α H x v := by
  cases r with
  | cons h t =>
    cases t
    exact ⟨_, rfl, h⟩
theorem RepAs.two {c : RC} {α : List Addr} {H : Hp} {x y : Val} {vs : List V} (r : RepAs c α H [x, y] vs) : ∃ v w, vs = [v, w] ∧ RepA c α H x v ∧ RepA c α H y w := by
  cases r with
  | cons h t =>
    obtain ⟨w, rfl, hw⟩ := t.one
    exact ⟨_, w, rfl, h, hw⟩
theorem RepAs.three {c : RC} {α : List Addr} {H : Hp} {x y z : Val} {vs : List V} (r : RepAs c α H [x, y, z] vs) : ∃ v w u, vs = [v, w, u] ∧ RepA c α H x v ∧ RepA c α H y w ∧ RepA c α H z u := by
  cases r with
  | cons h t =>
    obtain ⟨w, u, rfl, hw, hu⟩ := t.two
    exact ⟨_, w, u, rfl, h, hw, hu⟩
theorem RepA.int {c : RC} {α : List Addr} {H : Hp} {i : Int} {v : V} (r : RepA c α H (.v (.int i)) v) : v = .int i := by
  have r' : Rep c H (.int i) v := r
  simp only [Rep] at r'
  exact r'
theorem si_rng1 {g : AM} {a : Expr} (h : PI X tg e (iRng1 (tA (rc X) W g))) : SI X W tg e (mRng rng1 g) := by
  refine PI.imp h fun σ H R ⟨α, ρ, S, hE, hS, q⟩ => ⟨α, ρ, S, hE, hS, ?_⟩
  refine wpR_mono (wpR_bind q) (fun xs S1 h1 vs H1 α1 x1 s1 r1 => ?_) fun _ _ z => z
  unfold rng1 at h1
  split at h1
  · rename_i j
    by_cases hf : fits62 j = true
    · rw [if_pos hf] at h1
      obtain ⟨v, rfl, hv⟩ := r1.one
      have := hv.int
      subst this
      obtain ⟨f1, f2⟩ := fits62_of hf
      exact ⟨j, rfl, f1, f2, h1 _ H1 α1 x1 s1 .rng⟩
    · rw [if_neg hf] at h1
      exact h1.elim
  · exact h1.elim
theorem si_rng2 {g : AM} {a : Expr} (h : PI X tg e (iRng2 (tA (rc X) W g))) : SI X W tg e (mRng rng2 g) := by
  refine PI.imp h fun σ H R ⟨α, ρ, S, hE, hS, q⟩ => ⟨α, ρ, S, hE, hS, ?_⟩
  refine wpR_mono (wpR_bind q) (fun xs S1 h1 vs H1 α1 x1 s1 r1 => ?_) fun _ _ z => z
  unfold rng2 at h1
  split at h1
  · rename_i i j
    by_cases hf : (fits62 i && fits62 j) = true
    · rw [if_pos hf] at h1
      rw [Bool.and_eq_true] at hf
      obtain ⟨v, w, rfl, hv, hw⟩ := r1.two
      have := hv.int
      subst this
      have := hw.int
      subst this
      obtain ⟨f1, f2⟩ := fits62_of hf.1
      obtain ⟨f3, f4⟩ := fits62_of hf.2
      exact ⟨i, j, rfl, ⟨f1, f2, f3, f4⟩, h1 _ H1 α1 x1 s1 .rng⟩
    · rw [if_neg hf] at h1
      exact h1.elim
  · exact h1.elim

/-! ### targets of a comprehension: own names alone -/
abbrev GP := D → MEnv → Option MEnv
abbrev GPs := List D → MEnv → Option MEnv
def wpO {α : Type} (r : Option α) (k : α → Prop) : Prop := match r with
  | some a => k a
  | none => False
def tGw (c : RC) (vs : List Nat) (f : GP) : TG := fun v σ H Q => ∃ α ρ d, RelE c α H ρ σ ∧ Rep c H d v ∧ wpO (f d ρ) fun ρ' => ∀ σ', L2.wipe σ' vs = L2.wipe σ vs → RelE c α H ρ' σ' → Q σ' H
def tGsw (c : RC) (ws : List Nat) (f : GPs) : TGs := fun vs σ H Q => ∃ α ρ ds, RelE c α H ρ σ ∧ Reps c H ds vs ∧ wpO (f ds ρ) fun ρ' => ∀ σ', L2.wipe σ' ws = L2.wipe σ ws → RelE c α H ρ' σ' → Q σ' H
def SGw (X : Cx) (vs : List Nat) (tg : Expr) (f : GP) : Prop := PG X tg (tGw (rc X) vs f)
def SGsw (X : Cx) (vs : List Nat) (tgs : List Expr) (f : GPs) : Prop := PGs X tgs (tGsw (rc X) vs f)
theorem wipe_get (τ : L2.St) (vs : List Nat) (j : Nat) : (L2.wipe τ vs)[j]? = if j ∈ vs then (τ[j]?).map (fun _ => none) else τ[j]? := by
  induction vs with
  | nil => simp [L2.wipe]
  | cons v vs ih =>
    unfold L2.wipe
    by_cases hj : v = j
    · subst hj
      rw [List.getElem?_set, if_pos rfl, if_pos List.mem_cons_self, L2.wipe_length]
      by_cases hl : v < τ.length
      · rw [if_pos hl, List.getElem?_eq_getElem hl]
        rfl
      · rw [if_neg hl, List.getElem?_eq_none (by omega)]
        rfl
    · rw [List.getElem?_set_ne hj, ih]
      by_cases hm : j ∈ vs
      · rw [if_pos hm, if_pos (List.mem_cons_of_mem _ hm)]
      · rw [if_neg hm, if_neg (by
          intro z
          rcases List.mem_cons.mp z with z | z
          · exact hj z.symm
          · exact hm z)]
theorem wipe_set' {σ : L2.St} {i : Nat} {x : Option V} {vs : List Nat} (hi : i ∈ vs) : L2.wipe (σ.set i x) vs = L2.wipe σ vs := by
  apply List.ext_getElem?
  intro j
  rw [wipe_get, wipe_get]
  by_cases hm : j ∈ vs
  · rw [if_pos hm, if_pos hm]
    by_cases hij : i = j
    · subst hij
      rw [List.getElem?_set, if_pos rfl]
      by_cases hl : i < σ.length
      · rw [if_pos hl, List.getElem?_eq_getElem hl]
        rfl
      · rw [if_neg hl, List.getElem?_eq_none (by omega)]
    · rw [List.getElem?_set_ne hij]
  · rw [if_neg hm, if_neg hm]
    have hij : i ≠ j := fun e => hm (e ▸ hi)
    rw [List.getElem?_set_ne hij]
theorem wipe_wipe {σ : L2.St} {vs : List Nat} : L2.wipe (L2.wipe σ vs) vs = L2.wipe σ vs := by
  apply List.ext_getElem?
  intro j
  rw [wipe_get, wipe_get]
  by_cases hm : j ∈ vs
  · rw [if_pos hm, if_pos hm]
    cases σ[j]? <;> rfl
  · rw [if_neg hm]
def pN (i : Nat) : GP := fun d ρ => some (ρ.set i (some (.v d)))
def psN : GPs := fun ds ρ => match ds with
  | [] => some ρ
  | _ => none
def psC (f : GP) (g : GPs) : GPs := fun ds ρ => match ds with
  | d :: r => (f d ρ).bind fun ρ1 => g r ρ1
  | [] => none
def pT (n : Nat) (g : GPs) : GP := fun d ρ => match d with
  | .tup ds => if ds.length = n then g ds ρ else none
  | _ => none
theorem sgw_name {i : Nat} {vs : List Nat} (hi : i ∈ vs) (h : PG X e (gName i)) : SGw X vs e (pN i) := by
  refine PG.imp h fun v σ H Q ⟨α, ρ, d, hE, r, q⟩ => ?_
  exact q _ (wipe_set' hi) (hE.set (x := .v d) r i)
theorem sgsw_nil {vs : List Nat} : SGsw X vs [] psN := by
  refine PGs.imp pgs_nil fun ws σ H Q ⟨α, ρ, ds, hE, r, q⟩ => ?_
  cases ds with
  | nil =>
    simp only [Reps] at r
    exact ⟨r, q σ rfl hE⟩
  | cons d r => exact q.elim
theorem sgsw_cons {vs : List Nat} {es : List Expr} {f : GP} {g : GPs} (h : SGw X vs e f) (t : SGsw X vs es g) (hs : (assignEach (e :: es) X.env).map (·.2) = assign e X.env :: (assignEach es X.env).map (·.2) := by rfl) : SGsw X vs (e :: es) (psC f g) := by
  refine PGs.imp (pgs_cons h t hs) fun ws σ H Q ⟨α, ρ, ds, hE, r, q⟩ => ?_
  cases ds with
  | nil => exact q.elim
  | cons d ds =>
    simp only [Reps] at r
    obtain ⟨v, vs', rfl, r1, r2⟩ := r
    refine ⟨v, vs', rfl, α, ρ, d, hE, r1, ?_⟩
    unfold psC at q
    dsimp only at q
    cases hf : f d ρ with
    | none => rw [hf] at q; exact q.elim
    | some ρ1 =>
      rw [hf] at q
      intro σ1 w1 e1
      refine ⟨α, ρ1, ds, e1, r2, ?_⟩
      have q' : wpO (g ds ρ1) fun ρ' => ∀ σ', L2.wipe σ' vs = L2.wipe σ vs → RelE (rc X) α H ρ' σ' → Q σ' H := q
      cases hg : g ds ρ1 with
      | none => rw [hg] at q'; exact q'.elim
      | some ρ2 =>
        rw [hg] at q'
        exact fun σ2 w2 e2 => q' σ2 (w2.trans w1) e2
theorem sgw_tup {vs : List Nat} {es : List Expr} {k n : Nat} {g : GPs} {pos : Pos} (hc : X.calm = true) (h : SGsw X vs es g) (hn : (assignEach es X.env).length = n := by rfl) (hst : (assignEach es X.env).findIdx? (·.1) = none := by rfl) : SGw X vs (.Tuple es k pos) (pT n g) := by
  refine PG.imp (pg_tup hc h hn hst) fun v σ H Q ⟨α, ρ, d, hE, r, q⟩ => ?_
  cases d with
  | tup ds =>
    simp only [Rep] at r
    obtain ⟨a, xs, rfl, sq, r⟩ := r
    unfold pT at q
    dsimp only at q
    by_cases hl : ds.length = n
    · rw [if_pos hl] at q
      exact ⟨a, xs, rfl, tupQ sq, by rw [← r.length]; exact hl, α, ρ, ds, hE, r, q⟩
    · rw [if_neg hl] at q
      exact q.elim
  | _ => exact q.elim

/-! ### comprehensions -/
/-- within a comprehension nothing may be raised -/
abbrev W0 : WX := fun _ _ _ _ => False
def lcTurn {β : Type} (ρ : MEnv) (g : GP) (tt : TM) (te : VM) (d : D) (acc : List D) (S : Sto) (k : List D → Sto → R β) : R β := match g d ρ with
  | none => .bad
  | some ρ1 => (match tt ρ1 S with
    | .ok b S2 => if b = true then (match te ρ1 S2 with
      | .ok (.v y) S3 => if acc.length < lim then k (acc ++ [y]) S3 else .bad
      | _ => .bad) else k acc S2
    | _ => .bad)
def lcL (ρ : MEnv) (g : GP) (tt : TM) (te : VM) : List D → List D → Sto → R Val
  | [], acc, S => .ok (.n (.li acc)) S
  | d :: ds, acc, S => lcTurn ρ g tt te d acc S (lcL ρ g tt te ds)
def lcN (ρ : MEnv) (g : GP) (tt : TM) (te : VM) (n : Nat) : Nat → Nat → List D → Sto → R Val
  | k, i, acc, S => match liAt S n with
    | some ds => (match ds[i]? with
      | none => .ok (.n (.li acc)) S
      | some d => (match k with
        | 0 => .bad
        | k + 1 => lcTurn ρ g tt te d acc S (lcN ρ g tt te n k (i + 1))))
    | _ => .bad
def mLC (it : IM) (g : GP) (tt : TM) (te : VM) (vs : List Nat) : VM := fun ρ S => (it ρ S).bind fun t S1 => match t with
  | .fix ds => lcL (wipeM ρ vs) g tt te ds [] S1
  | .at_ n => lcN (wipeM ρ vs) g tt te n (lenAt S1 n) 0 [] S1
def mYes : TM := fun _ S => .ok true S
theorem lcTurn_ok {β : Type} {c : RC} {d : D} {vs : List Nat} {α0 α1 : List Addr} {H0 H1 : Hp} {D' : Addr} {ρ : MEnv} {g : GP} {tt : TM} {te : VM} {acc : List D} {xs : List V} {S : Sto} {σ : L2.St} {x : V} {k : List D → Sto → R β} {er : Exc → Sto → Prop} {fin : β → Sto → Prop} {Nx : Hp → Prop}
    (hD : H0 D' = none) (x1 : Ext α0 α1 H0 H1) (nD : D' ∉ α1) (eD : H1 D' = some (.lst xs)) (e1 : RelE c α1 H1 ρ (L2.wipe σ vs)) (s1 : RelS c α1 H1 S) (ra : Reps c H1 acc xs) (rd : Rep c H1 d x)
    (h : wpR (lcTurn ρ g tt te d acc S k) fin er)
    (hN : ∀ acc' S' xs' H' α', wpR (k acc' S') fin er → Ext α0 α' H0 H' → D' ∉ α' → H' D' = some (.lst xs') → RelS c α' H' S' → Reps c H' acc' xs' → (∃ β, α' = α1 ++ β) → LeH H1 H' → Nx H') :
    tGw c vs g x (L2.wipe σ vs) H1 fun σ2 H2 => L2.wipe σ2 vs = L2.wipe σ vs ∧ tT c W0 tt σ2 H2 fun b H3 =>
      if b = true then tV c W0 te σ2 H3 fun y H4 => ∃ acc, H4 D' = some (.lst acc) ∧ acc.length < sizeLine ∧ Nx (upd H4 D' (.lst (acc ++ [y]))) else Nx H3 := by
  unfold lcTurn at h
  refine ⟨α1, ρ, d, e1, rd, ?_⟩
  cases hg : g d ρ with
  | none => rw [hg] at h; exact h.elim
  | some ρ1 =>
    rw [hg] at h
    dsimp only at h
    intro σ2 w2 e2
    refine ⟨w2.trans wipe_wipe, α1, ρ1, S, e2, s1, ?_⟩
    cases ht : tt ρ1 S with
    | bad => rw [ht] at h; exact h.elim
    | er e S2 => rw [ht] at h; exact h.elim
    | ok b S2 =>
      rw [ht] at h
      dsimp only at h
      intro H3 α3 x3 s3
      have eD3 : H3 D' = some (.lst xs) := x3.fr _ _ eD nD
      have nD3 : D' ∉ α3 := fun hm => by
        have := x3.nw _ hm nD
        rw [eD] at this
        cases this
      cases b with
      | false =>
        rw [if_neg Bool.false_ne_true] at h
        exact iteF (hN acc S2 xs H3 α3 h (x1.trans x3) nD3 eD3 s3 (ra.mono x3.le) x3.pre x3.le)
      | true =>
        rw [if_pos rfl] at h
        refine iteT ⟨α3, ρ1, S2, e2.mono x3, s3, ?_⟩
        cases hv : te ρ1 S2 with
        | bad => rw [hv] at h; exact h.elim
        | er e S4 => rw [hv] at h; exact h.elim
        | ok z S4 =>
          rw [hv] at h
          cases z with
          | l n => exact h.elim
          | n ds => exact h.elim
          | v y =>
            dsimp only at h
            by_cases hl : acc.length < lim
            · rw [if_pos hl] at h
              intro v H4 α4 x4 s4 r4 f4
              have eD4 : H4 D' = some (.lst xs) := x4.fr _ _ eD3 nD3
              have nD4 : D' ∉ α4 := fun hm => by
                have := x4.nw _ hm nD3
                rw [eD3] at this
                cases this
              have x14 : Ext α0 α4 H0 H4 := (x1.trans x3).trans x4
              have le5 : LeH H4 (upd H4 D' (.lst (xs ++ [v]))) := fun b => ⟨fun ys q => by rw [upd_ne (fun z => by rw [z, eD4] at q; cases q)]; exact q, fun u w q => by rw [upd_ne (fun z => by rw [z, eD4] at q; cases q)]; exact q⟩
              refine ⟨xs, eD4, by rw [← ra.length, lim_eq]; exact hl, hN (acc ++ [y]) S4 (xs ++ [v]) _ α4 h ⟨x14.pre, fun b u q nb => ?_, x14.nw, x14.le.trans le5⟩ nD4 upd_same ?_ ?_ (x3.trans x4).pre ((x3.trans x4).le.trans le5)⟩
              · have hb : b ≠ D' := fun z => by rw [z, hD] at q; cases q
                rw [upd_ne hb]
                exact x14.fr b u q nb
              · refine ⟨s4.len, s4.nd, fun b hb => ?_, fun n ds q => ?_⟩
                · have hb' : b ≠ D' := fun z => nD4 (z ▸ hb)
                  rw [upd_ne hb']
                  exact s4.tr b hb
                · obtain ⟨b, q1, r⟩ := s4.at_ n ds q
                  have hb' : b ≠ D' := fun z => nD4 (z ▸ List.mem_of_getElem? q1)
                  exact ⟨b, q1, r.mono le5 fun u q => by rw [upd_ne hb']; exact q⟩
              · exact ((ra.mono (x3.le.trans x4.le)).append (.one r4)).mono le5
            · rw [if_neg hl] at h
              exact h.elim
theorem lc_of {it : IM} {g : GP} {tt : TM} {te : VM} {vs : List Nat} {σ : L2.St} {H : Hp} {Q : VK} (h : tV (rc X) W (mLC it g tt te vs) σ H Q) : tLc (tI (rc X) W it) (tGw (rc X) vs g) (tT (rc X) W0 tt) (tV (rc X) W0 te) vs σ H Q := by
  obtain ⟨α, ρ, S, hE, hS, q⟩ := h
  refine ⟨α, ρ, S, hE, hS, ?_⟩
  refine wpR_mono (wpR_bind q) (fun t S0 h0 J H0 α0 x0 s0 ok Dd hDd => ?_) fun _ _ z => z
  have hD : H0 Dd = none := hDd
  have nD : Dd ∉ α0 := s0.new hD
  have smD : Same H0 (upd H0 Dd (.lst [])) := same_upd hD
  have fD : H Dd = none := by
    cases q : H Dd with
    | none => rfl
    | some o =>
      by_cases hm : Dd ∈ α
      · obtain ⟨β, rfl⟩ := x0.pre
        exact absurd (List.mem_append_left _ hm) nD
      · have := x0.fr _ _ q hm
        rw [hD] at this
        cases this
  -- the end
  have fin : ∀ {acc : List D} {S1 : Sto} {xs : List V} {H1 : Hp} {α1 : List Addr}, okV (rc X) Q α H (.n (.li acc)) S1 → Ext α0 α1 H0 H1 → Dd ∉ α1 → H1 Dd = some (.lst xs) → RelS (rc X) α1 H1 S1 → Reps (rc X) H1 acc xs → Q (.ref Dd) H1 :=
    fun {acc S1 xs H1 α1} k x1 nd ed s1 r => k _ H1 α1 (x0.trans x1) s1 ⟨Dd, rfl, ⟨xs, ed, r⟩, nd⟩ fun a e => by
      cases e
      exact fD
  cases t with
  | fix ds =>
    dsimp only at h0
    refine ⟨fun i m H1 => m = ds.length - i ∧ i ≤ ds.length ∧ ∃ α1 S1 acc xs, Ext α0 α1 H0 H1 ∧ Dd ∉ α1 ∧ H1 Dd = some (.lst xs) ∧ RelS (rc X) α1 H1 S1 ∧ Reps (rc X) H1 acc xs ∧ wpR (lcL (wipeM ρ vs) g tt te (ds.drop i) acc S1) (okV (rc X) Q α H) (okE (rc X) W σ α H),
      ⟨ds.length, by simp, Nat.zero_le _, α0, S0, [], [], .of_same smD, nD, upd_same, s0.same smD, .nil, by simpa using h0⟩, ?_⟩
    rintro i m H1 ⟨rfl, hi, α1, S1, acc, xs, x1, nd, ed, s1, ra, h1⟩
    obtain ⟨ok1, ok2⟩ := ok H1 x1.le i
    by_cases hlt : i < ds.length
    · have hd : ds[i]? = some ds[i] := by simp [hlt]
      obtain ⟨go, yl⟩ := ok1 _ hd
      have hdrop : ds.drop i = ds[i] :: ds.drop (i + 1) := List.drop_eq_getElem_cons hlt
      rw [hdrop] at h1
      refine .inr ⟨go, fun H2 => ∃ α2 S2 acc2 xs2, Ext α0 α2 H0 H2 ∧ Dd ∉ α2 ∧ H2 Dd = some (.lst xs2) ∧ RelS (rc X) α2 H2 S2 ∧ Reps (rc X) H2 acc2 xs2 ∧ wpR (lcL (wipeM ρ vs) g tt te (ds.drop (i + 1)) acc2 S2) (okV (rc X) Q α H) (okE (rc X) W σ α H), ?_, fun x H2 y => ?_⟩
      · rintro H2 ⟨α2, S2, acc2, xs2, z⟩
        exact ⟨ds.length - (i + 1), by omega, rfl, hlt, α2, S2, acc2, xs2, z⟩
      · obtain ⟨sm, rd⟩ := yl x H2 y
        have x12 : Ext α1 α1 H1 H2 := .of_same sm
        have hw : RelE (rc X) α1 H2 (wipeM ρ vs) (L2.wipe σ vs) := ((hE.mono x0).mono (x1.trans x12)).wipe vs
        exact lcTurn_ok (σ := σ) hD (x1.trans x12) nd (sm _ _ ed) hw (s1.same sm) (ra.mono x12.le) rd h1 fun acc' S' xs' H' α' z1 z2 z3 z4 z5 z6 _ _ => ⟨α', S', acc', xs', z2, z3, z4, z5, z6, z1⟩
    · have hi2 : i = ds.length := by omega
      subst hi2
      rw [List.drop_length] at h1
      exact .inl ⟨ok2 (by simp), fin h1 x1 nd ed s1 ra⟩
  | at_ n =>
    dsimp only at h0
    obtain ⟨a, ea, rfl⟩ := ok
    refine ⟨fun i m H1 => ∃ α1 S1 acc xs, Ext α0 α1 H0 H1 ∧ Dd ∉ α1 ∧ H1 Dd = some (.lst xs) ∧ RelS (rc X) α1 H1 S1 ∧ Reps (rc X) H1 acc xs ∧ wpR (lcN (wipeM ρ vs) g tt te n m i acc S1) (okV (rc X) Q α H) (okE (rc X) W σ α H),
      ⟨lenAt S0 n, α0, S0, [], [], .of_same smD, nD, upd_same, s0.same smD, .nil, h0⟩, ?_⟩
    rintro i m H1 ⟨α1, S1, acc, xs, x1, nd, ed, s1, ra, h1⟩
    have h2 := h1
    rw [lcN.eq_def] at h2
    dsimp only at h2
    cases hn : liAt S1 n with
    | none => rw [hn] at h2; exact h2.elim
    | some ds =>
      match () with
      | () =>
        rw [hn] at h2
        dsimp only at h2
        obtain ⟨b, ys, eb, hb, r⟩ := s1.li n ds hn
        have eb' := pre_get x1.pre ea
        rw [eb'] at eb
        cases eb
        have sq : SqL X.K H1 a ys := .inl (.inl hb)
        cases hd : ds[i]? with
        | none =>
          rw [hd] at h2
          refine .inl ⟨⟨ys, sq, ?_⟩, fin h2 x1 nd ed s1 ra⟩
          rw [← r.length]
          exact List.getElem?_eq_none_iff.mp hd
        | some d =>
          rw [hd] at h2
          cases m with
          | zero => exact h2.elim
          | succ k =>
            obtain ⟨x, ex, rx⟩ := r.get hd
            refine .inr ⟨⟨ys, x, sq, ex⟩, fun H2 => ∃ α2 S2 acc2 xs2, Ext α0 α2 H0 H2 ∧ Dd ∉ α2 ∧ H2 Dd = some (.lst xs2) ∧ RelS (rc X) α2 H2 S2 ∧ Reps (rc X) H2 acc2 xs2 ∧ wpR (lcN (wipeM ρ vs) g tt te n k (i + 1) acc2 S2) (okV (rc X) Q α H) (okE (rc X) W σ α H), ?_, fun y H2 yy => ?_⟩
            · rintro H2 ⟨α2, S2, acc2, xs2, z⟩
              exact ⟨k, by omega, α2, S2, acc2, xs2, z⟩
            · obtain ⟨rfl, fy⟩ := yy
              have ey := fy ys sq
              rw [ex] at ey
              cases ey
              have hw : RelE (rc X) α1 H2 (wipeM ρ vs) (L2.wipe σ vs) := ((hE.mono x0).mono x1).wipe vs
              exact lcTurn_ok (σ := σ) hD x1 nd ed hw s1 ra rx h2 fun acc' S' xs' H' α' z1 z2 z3 z4 z5 z6 _ _ => ⟨α', S', acc', xs', z2, z3, z4, z5, z6, z1⟩
def STs (X : Cx) (W : WX) (ifs : List Expr) (f : TM) : Prop := PTs X ifs (tT (rc X) W f)
theorem PTs.imp {ifs : List Expr} {t t' : TT} (h : PTs X ifs t) (i : ∀ σ H Q, t' σ H Q → t σ H Q) : PTs X ifs t' := ⟨fun pins s σ H Q I q => h.run pins s σ H Q I (i σ H Q q)⟩
theorem sts_nil : STs X W [] mYes := PTs.imp pts_nil fun σ H Q ⟨α, ρ, S, hE, hS, q⟩ => q H α (.refl _ _) hS
theorem sts_one {f : TM} {c : Expr} (h : ST X W c f) : STs X W [c] f := pts_one h
end
end M

namespace M
open PySem PySem.Spec PyProof.Rows L2

/-! ### a def as a plain function -/
def okX (c : RC) (E : XK) (α : List Addr) (H : Hp) : Exc → Sto → Prop := fun e S => ∀ cls od H' α', Ext α α' H H' → RelS c α' H' S → ExcRep c H' e cls od → E cls od H'
def spM (c : RC) (g : MFn) : Sp := fun vs H Q E => ∃ α S xs, RelS c α H S ∧ RepAs c α H xs vs ∧ wpR (g xs S) (okV c Q α H) (okX c E α H)
/-- of a value at a def's end: b places stood at its beginning -/
def fin (b : Nat) (x : Val) (S : Sto) : R Val := match x with
  | .l n => if n < b then .ok (.l n) (S.take b) else (match S[n]? with
    | some (some o) => .ok (.n o) (S.take b)
    | _ => .bad)
  | x => .ok x (S.take b)
def leave (b : Nat) : RS → R Val
  | .nx _ S => fin b (.v .non) S
  | .rt x S => fin b x S
  | .er e _ S => .er e (S.take b)
  | _ => .bad
def noN : Val → Bool
  | .n _ => false
  | _ => true
def mkFn (np n : Nat) (body : SM) : MFn := fun xs S => if xs.length = np then leave S.length (body (xs.map some ++ List.replicate (n - np) none) S) else .bad

/-- FnOk where nothing is being shown (no guard is up) -/
structure FnG (P : Program) (w : World) (K : PySem.W.Frag) (mg : PySem.Str → Option Value) (base : Heap) (k : Nat) (f : Addr) (fd : FuncData) (ps : List PySem.Str) (sp : Sp) : Prop where
  len : ∀ vs H Q E, sp vs H Q E → vs.length = ps.length
  run : ∀ (A : Around) (outer : List Env) (s : Shared) (H : Hp) (args : Args) (us : List Value) (vs : List V) (Q : VK) (E : XK), Room k A → A.guards = some [] → Env0 P w K mg base A outer s H → BindsTo s fd args (ps.zip us) → Vals vs us → sp vs H Q E →
    codeAny (model P w) A (.call (.ref f) args) (CR (L2.CX P w) outer P w H s Q E) s
section
variable {P : Program} {w : World} {K : PySem.W.Frag} {mg : PySem.Str → Option Value} {base : Heap}
theorem FnG.mono {j k : Nat} {f : Addr} {fd : FuncData} {ps : List PySem.Str} {sp : Sp} (F : FnG P w K mg base j f fd ps sp) (h : j ≤ k) : FnG P w K mg base k f fd ps sp :=
  ⟨F.len, fun A outer s H args us vs Q E hr => F.run A outer s H args us vs Q E (hr.mono h)⟩
theorem FnG.imp {k : Nat} {f : Addr} {fd : FuncData} {ps : List PySem.Str} {sp sp' : Sp} (F : FnG P w K mg base k f fd ps sp) (h : ∀ vs H Q E, sp' vs H Q E → sp vs H Q E) : FnG P w K mg base k f fd ps sp' :=
  ⟨fun vs H Q E q => F.len vs H Q E (h _ _ _ _ q), fun A outer s H args us vs Q E hr hg he hb hv hs => F.run A outer s H args us vs Q E hr hg he hb hv (h _ _ _ _ hs)⟩
/-- the def at f, by its body -/
theorem fnG_of {k : Nat} {f : Addr} {name qual : PySem.Str} {params : Arguments} {body : List Stmt} {scope : Scope} {dV kV doc pm cdv ct oc : Value} {an od : Option Addr} {osl : Array (Option Value)} {N ps : List PySem.Str} {sp : Sp}
    (lk : K.lookup f = some ⟨oc, od, .func (PySem.W.fnOf name qual params body scope dV kV doc pm an cdv ct), osl⟩) (hcd : PySem.W.codeIn K cdv qual = true) (S : FnScope N ps scope) (len : ∀ vs H Q E, sp vs H Q E → vs.length = ps.length)
    (hbody : ∀ (A : Around) (outer : List Env) (s : Shared) (H : Hp) (vs : List V) (Q : VK) (E : XK), Room k (A.deeper (envOfC qual scope s.heap.objs.size f cdv)) → A.guards = some [] → sp vs H Q E →
      ∃ t, PSs (cxOf (L2.CX P w) P w K mg base N qual scope f cdv A outer s H E) body t ∧ t { nx := fun _ H' => Q .non H', rt := Q } (start N vs) H) :
    FnG P w K mg base (k + 1) f (PySem.W.fnOf name qual params body scope dV kV doc pm an cdv ct) ps sp := by
  refine ⟨len, fun A outer s H args us vs Q E hr hgd e0 hb rel hsp => ?_⟩
  have kin : K.In s.heap := e0.mod.kin.keeps fun b o q => (e0.bs b o q).1
  have nol : s.heap.NoLimit := e0.mod.nolimit.keeps fun b o q => (e0.bs b o q).1
  have slots : ∀ y ∈ ps.zip us, scope.names.lookup y.1 = some .local ∨ (scope.names.lookup y.1 = some .cell ∧ ((cellsFrom (s.heap.objs.size + 1) scope.names []).lookup y.1).isSome = true) := by
    rintro ⟨n, v⟩ hy
    rcases S.par n (List.of_mem_zip hy).1 with loc | cel
    · exact .inl loc
    · exact .inr ⟨cel, PySem.W.cellsFrom_some _ _ _ (.inl cel)⟩
  refine codeAny_call_function hr.depth (kin _ _ lk) rfl S.co S.gen rfl (PySem.W.codeRec_of kin hcd) (hb _ _ _ _ (wpAny_newFunctionEnv_cells S.kind slots fun env he s1 x => ?_))
  subst he
  obtain ⟨t, ht, hq⟩ := hbody A outer s H vs Q E (hr.deeper _) hgd hsp
  have I := inv_start (CX := L2.CX P w) (E := E) (f := f) (cd := cdv) (qual := qual) S hr.hd e0 (len _ _ _ _ hsp) rel x
  refine ⟨nol.keeps x.toInCall.keep, codeAny_func (wpAny_mono (ht.run [] s1 (start N vs) H _ I hq) (fun fl s' hs => ?_) fun e s' hs => hs)⟩
  cases fl with
  | ret u =>
    obtain ⟨v, σ', H', J, rv, q⟩ := hs
    exact ⟨v, H', J.os, J.bare, J.base, J.hok, rv, q⟩
  | next =>
    obtain ⟨σ', H', J, q⟩ := hs
    exact ⟨V.non, H', J.os, J.bare, J.base, J.hok, rfl, q⟩
  | brk =>
    obtain ⟨_, _, _, q⟩ := hs
    exact q.elim
  | cont =>
    obtain ⟨_, _, _, q⟩ := hs
    exact q.elim

/-! ### the end of a body -/
theorem fin_ok {c : RC} {Q : VK} {α : List Addr} {H : Hp} {x : Val} {S' : Sto} {er : Exc → Sto → Prop} (h : wpR (fin α.length x S') (okV c Q α H) er) :
    ∀ v H' α', Ext α α' H H' → RelS c α' H' S' → RepX c α' H' x v → Fresh H x v → Q v H' := by
  intro v H' α' xt s r f
  obtain ⟨β, rfl⟩ := xt.pre
  have x0 : Ext α α H H' := ⟨⟨[], by simp⟩, xt.fr, fun a h n => absurd h n, xt.le⟩
  have hb : α.length ≤ S'.length := by rw [← s.len]; simp
  have s0 : RelS c α H' (S'.take α.length) := by
    refine ⟨by rw [List.length_take]; omega, (List.nodup_append.mp s.nd).1, fun a ha => s.tr a (List.mem_append_left _ ha), fun n ds e => ?_⟩
    have hn : n < α.length := by
      have := (List.getElem?_eq_some_iff.mp e).1
      rw [List.length_take] at this
      omega
    rw [List.getElem?_take_of_lt hn] at e
    obtain ⟨a, e1, r⟩ := s.at_ n ds e
    rw [List.getElem?_append_left hn] at e1
    exact ⟨a, e1, r⟩
  cases x with
  | v d => exact h v H' α x0 s0 r trivial
  | n ds =>
    obtain ⟨a, rfl, r, na⟩ := r
    exact h _ H' α x0 s0 ⟨a, rfl, r, fun hm => na (List.mem_append_left _ hm)⟩ f
  | l n =>
    obtain ⟨a, ea, rfl⟩ := r
    have h' : wpR (if n < α.length then R.ok (Val.l n) (S'.take α.length) else (match S'[n]? with
      | some (some o) => R.ok (Val.n o) (S'.take α.length)
      | _ => .bad)) (okV c Q α H) er := h
    by_cases hn : n < α.length
    · rw [if_pos hn] at h'
      rw [List.getElem?_append_left hn] at ea
      exact h' _ H' α x0 s0 ⟨a, ea, rfl⟩ trivial
    · rw [if_neg hn] at h'
      cases hS : S'[n]? with
      | none => rw [hS] at h'; exact h'.elim
      | some o =>
        cases o with
        | none => rw [hS] at h'; exact h'.elim
        | some ds =>
          rw [hS] at h'
          obtain ⟨b, eb, r⟩ := s.at_ n ds hS
          rw [ea] at eb
          cases eb
          have na : a ∉ α := fun hm => by
            obtain ⟨j, hj, ej⟩ := List.mem_iff_getElem.mp hm
            have e2 : (α ++ β)[j]? = some a := by
              rw [List.getElem?_append_left hj, List.getElem?_eq_getElem hj, ej]
            have := nodup_at s.nd ea e2
            omega
          refine h' _ H' α x0 s0 ⟨a, rfl, r, na⟩ fun b e => ?_
          cases e
          exact xt.nw a (List.mem_of_getElem? ea) na
theorem start_rel {c : RC} {α : List Addr} {H : Hp} {N : List PySem.Str} {xs : List Val} {vs : List V} (r : RepAs c α H xs vs) (h : xs.length ≤ N.length) : RelE c α H (xs.map some ++ List.replicate (N.length - xs.length) none) (start N vs) := by
  have hl := r.length
  refine ⟨?_, fun i x e => ?_⟩
  · unfold L2.start
    simp only [List.length_append, List.length_map, List.length_replicate]
    omega
  · by_cases hi : i < xs.length
    · rw [List.getElem?_append_left (by simpa using hi), List.getElem?_map] at e
      cases q : xs[i]? with
      | none => rw [q] at e; cases e
      | some y =>
        rw [q] at e
        cases e
        obtain ⟨v, ev, rv⟩ := r.get q
        refine ⟨v, ?_, rv⟩
        unfold L2.start
        rw [List.getElem?_append_left (by rw [List.length_map]; omega), List.getElem?_map, ev]
        rfl
    · rw [List.getElem?_append_right (by simpa using hi), List.getElem?_replicate] at e
      split at e <;> cases e
/-- THE RULE for a def: its body's plain function -/
theorem def_ok {x qual : PySem.Str} {st : Stmt} {f : Addr} {fd : FuncData} {N ps : List PySem.Str} {k : Nat} (body : SM) (F : Fun K x qual st f fd) (S : FnScope N ps (defScope st))
    (hbody : ∀ (cdv : Value) (A : Around) (outer : List Env) (s : Shared) (H : Hp) (E : XK), Room k (A.deeper (envOfC qual (defScope st) s.heap.objs.size f cdv)) → A.guards = some [] →
      SSs (cxOf (L2.CX P w) P w K mg base N qual (defScope st) f cdv A outer s H E) (fun cls d _ H => E cls d H) (defBody st) body) : FnG P w K mg base (k + 1) f fd ps (spM ⟨K, mg⟩ (mkFn ps.length N.length body)) := by
  obtain ⟨oc, od, kV, doc, pm, an, cdv, ct, osl, rfl, lk, hcd⟩ := F.ex
  refine fnG_of lk hcd S (fun vs H Q E ⟨α, S, xs, _, r, h⟩ => ?_) fun A outer s H vs Q E hr hgd ⟨α, S0, xs, s0, r, h⟩ => ⟨_, hbody cdv A outer s H E hr hgd, ?_⟩
  · unfold mkFn at h
    by_cases hl : xs.length = ps.length
    · rw [← r.length]
      exact hl
    · rw [if_neg hl] at h
      exact h.elim
  · unfold mkFn at h
    by_cases hl : xs.length = ps.length
    · rw [if_pos hl] at h
      have hN : ps.length ≤ N.length := by
        have := congrArg List.length S.pre
        rw [List.length_take] at this
        omega
      refine ⟨α, _, S0, start_rel r (by omega), s0, ?_⟩
      rw [hl]
      rw [← s0.len] at h
      cases hb : body (xs.map some ++ List.replicate (N.length - ps.length) none) S0 with
      | bad => rw [hb] at h; exact h.elim
      | bk ρ S1 => rw [hb] at h; exact h.elim
      | ct ρ S1 => rw [hb] at h; exact h.elim
      | nx ρ S1 =>
        rw [hb] at h
        have h2 : wpR (fin α.length (.v .non) S1) (okV ⟨K, mg⟩ Q α H) (okX ⟨K, mg⟩ E α H) := h
        exact fun σ' H' α' x e s => fin_ok h2 .non H' α' x s (by simp only [RepX, Rep]) trivial
      | rt y S1 =>
        rw [hb] at h
        have h2 : wpR (fin α.length y S1) (okV ⟨K, mg⟩ Q α H) (okX ⟨K, mg⟩ E α H) := h
        exact fin_ok h2
      | er e ρ S1 =>
        rw [hb] at h
        intro cls od σ' H' α' xt _ s re
        obtain ⟨β, rfl⟩ := xt.pre
        refine h cls od H' α ⟨⟨[], by simp⟩, xt.fr, fun a h n => absurd h n, xt.le⟩ ⟨?_, (List.nodup_append.mp s.nd).1, fun a ha => s.tr a (List.mem_append_left _ ha), fun n ds e => ?_⟩ re
        · have : α.length ≤ S1.length := by rw [← s.len]; simp
          rw [List.length_take]
          omega
        · have hn : n < α.length := by
            have := (List.getElem?_eq_some_iff.mp e).1
            rw [List.length_take] at this
            omega
          rw [List.getElem?_take_of_lt hn] at e
          obtain ⟨a, e1, r2⟩ := s.at_ n ds e
          rw [List.getElem?_append_left hn] at e1
          exact ⟨a, e1, r2⟩
    · rw [if_neg hl] at h
      exact h.elim
/-- where nothing is promised -/
theorem fnG_bad {f : Addr} {fd : FuncData} {ps : List PySem.Str} {k : Nat} : FnG P w K mg base k f fd ps (spM ⟨K, mg⟩ fun _ _ => .bad) :=
  ⟨fun vs H Q E ⟨α, S, xs, _, r, h⟩ => h.elim, fun A outer s H args us vs Q E hr hg he hb hv ⟨α, S, xs, _, r, h⟩ => h.elim⟩
end

/-! ### calls -/
section
variable {X : Cx} {W : WX} {k : Nat} {f : Addr} {fd : FuncData} {ps : List PySem.Str} {g : MFn} {x : PySem.Str} {p pos : Pos} {e : Expr} {es : List Expr}
theorem run_fnG {sp : Sp} {pins : List (Addr × Obj)} {σ : L2.St} {H : Hp} {s : Shared} {Q : VK} {us : List Value} {vs : List V} (F : FnG X.prog X.w X.K X.mg X.base k f fd ps sp) (hr : Room k X.A) (hgd : X.A.guards = some []) (hb : Binds X.K fd ps []) (tk : Takes X W)
    (I : Inv X pins σ H s) (r : Vals vs us) (h : sp vs H Q (WE W σ)) : wpAny (model X.prog X.w) X.A (call (.ref f) us) (EP X pins σ Q) X.xe s := by
  have hl : us.length = ps.length := by rw [← r.length]; exact F.len _ _ _ _ h
  have bs := hb s us I.kIn (by simpa using hl)
  rw [List.append_nil] at bs
  refine wpAny_call (codeAny_mono (F.run X.A X.stack s H ⟨us, []⟩ us vs Q (WE W σ) hr hgd I.env0 bs r h) fun res s' hq => ?_)
  cases res with
  | error e => exact passAt tk σ pins H s e s' I hq
  | ok fl =>
    cases fl with
    | ret u => exact I.after hq
    | next => exact hq.elim
    | brk => exact hq.elim
    | cont => exact hq.elim
def mCall (g : MFn) (fs : AM) : VM := fun ρ S => (fs ρ S).bind fun xs S1 => g xs S1
theorem call_of {fs : AM} {σ : L2.St} {H : Hp} {Q : VK} (h : tV (rc X) W (mCall g fs) σ H Q) : tA (rc X) W fs σ H fun vs H1 => spM (rc X) g vs H1 Q (WE W σ) := by
  obtain ⟨α, ρ, S, hE, hS, q⟩ := h
  refine ⟨α, ρ, S, hE, hS, ?_⟩
  refine wpR_mono (wpR_bind q) (fun xs S1 h1 vs H1 α1 x1 s1 r1 => ?_) fun _ _ z => z
  exact ⟨α1, S1, xs, s1, r1, wpR_mono h1 (fun z S' k => k.mono x1) fun e S' k => k.mono x1⟩
theorem sv_call {fs : AM} (F : FnG X.prog X.w X.K X.mg X.base k f fd ps (spM (rc X) g)) (hr : Room k X.A) (hgd : X.A.guards = some []) (hg : Gl X x) (hm : X.mg x = some (.ref f)) (hk : PySem.W.keepIn X.K (.ref f) = true) (hb : Binds X.K fd ps []) (tk : Takes X W)
    (ha : SA X W (e :: es) fs) (hdb : (x == ("__debug__" : PySem.Str)) = false := by decide) (he : starEach (e :: es) X.env = (false, eval e X.env) :: starEach es X.env := by rfl) (hpl : (backTo pos (starEach es X.env)).any (·.1) = false := by rfl) :
    SV X W (.Call (.Name x p) (e :: es) [] pos) (mCall g fs) := by
  refine ⟨fun pins s σ H Q I h => ?_⟩
  refine wpAny_Call_Name_kw (ld_glob I hg hm ?_ hdb)
  refine PySem.W.callWith_K (h₀ := X.base) I.ok.mod.kin hk (thn (ha.run pos pins s σ H _ I (call_of h)) fun us s1 ⟨vs, H1, I1, r, q⟩ => ⟨I1.kIn, ?_⟩) he hpl
  exact run_fnG F hr hgd hb tk I1 r q
end
end M

namespace M
open PySem PySem.Spec PyProof.Rows L2

/-! ### dicts: keys, what a dict holds -/
abbrev DKey := L2.Key
def keyD : D → Option DKey
  | .int i => some (.inl i)
  | .str x => some (.inr x)
  | _ => none
def keysD : List D → Option (List DKey)
  | [] => some []
  | d :: r => match keyD d, keysD r with
    | some k, some ks => some (k :: ks)
    | _, _ => none
def unKey : DKey → D
  | .inl i => .int i
  | .inr x => .str x
def lookK {κ : Type} [DecidableEq κ] : List κ → List D → κ → Option D
  | a :: ks, v :: vs, k => if a = k then some v else lookK ks vs k
  | _, _, _ => none
def replK {κ : Type} [DecidableEq κ] : List κ → List D → κ → D → List D
  | a :: ks, v :: vs, k, x => (if a = k then x else v) :: replK ks vs k x
  | _, _, _, _ => []
def hasK {κ : Type} [DecidableEq κ] : List κ → κ → Bool
  | [], _ => false
  | a :: ks, k => if a = k then true else hasK ks k
def putKs {κ : Type} [DecidableEq κ] (ks : List κ) (k : κ) : List κ := if hasK ks k = true then ks else ks ++ [k]
def putVs {κ : Type} [DecidableEq κ] (ks : List κ) (vs : List D) (k : κ) (x : D) : List D := if hasK ks k = true then replK ks vs k x else vs ++ [x]
/-- what d holds at k; none: this is no dict, or no key of it -/
def getDk : D → D → Option (Option D)
  | .fdk ks vs, k => (keyD k).map fun k => lookK ks vs k
  | .fdt ks vs, .tup ds => (keysD ds).map fun k => lookK ks vs k
  | _, _ => none

section
variable {κ : Type} [DecidableEq κ]
theorem lookK_rep {c : RC} {H : Hp} : ∀ {ks : List κ} {vs : List D} {xs : List V} {k : κ}, ks.length = xs.length → Reps c H vs xs →
    (∀ d, lookK ks vs k = some d → ∃ x, valV (ks.zip xs) k = some x ∧ Rep c H d x) ∧ (lookK ks vs k = none → valV (ks.zip xs) k = none)
  | [], vs, xs, k, hl, r => by
    constructor
    · intro d h
      simp [lookK] at h
    · intro _
      rfl
  | a :: ks, vs, [], k, hl, r => by simp at hl
  | a :: ks, vs, x :: xs, k, hl, r => by
    cases vs with
    | nil => simp only [Reps] at r; cases r
    | cons v vs =>
      simp only [Reps] at r
      obtain ⟨x', t, e, q, r⟩ := r
      cases e
      simp only [List.length_cons, Nat.add_right_cancel_iff] at hl
      have ih := lookK_rep (k := k) hl r
      show (∀ d, (if a = k then some v else lookK ks vs k) = some d → ∃ x', valV ((a, x) :: ks.zip xs) k = some x' ∧ Rep c H d x') ∧ ((if a = k then some v else lookK ks vs k) = none → valV ((a, x) :: ks.zip xs) k = none)
      by_cases ha : a = k
      · rw [if_pos ha, L2.valV_pos (p := (a, x)) ha]
        exact ⟨fun d h => by cases h; exact ⟨x, rfl, q⟩, nofun⟩
      · rw [if_neg ha, L2.valV_neg (p := (a, x)) ha]
        exact ih
theorem hasK_any : ∀ {ks : List κ} {xs : List V} {k : κ}, ks.length = xs.length → ((ks.zip xs).any fun kv => decide (kv.1 = k)) = hasK ks k
  | [], _, _, _ => rfl
  | a :: ks, [], _, h => by simp at h
  | a :: ks, x :: xs, k, h => by
    simp only [List.length_cons, Nat.add_right_cancel_iff] at h
    simp only [List.zip_cons_cons, List.any_cons, hasK, hasK_any (k := k) h]
    by_cases e : a = k <;> simp [e]
theorem repl_zip {c : RC} {H : Hp} {d : D} {y : V} (q : Rep c H d y) : ∀ {ks : List κ} {vs : List D} {xs : List V} {k : κ}, ks.length = xs.length → Reps c H vs xs →
    ∃ xs', (ks.zip xs).map (fun kv => if kv.1 = k then (kv.1, y) else kv) = ks.zip xs' ∧ ks.length = xs'.length ∧ Reps c H (replK ks vs k d) xs'
  | [], vs, xs, k, hl, r => by
    refine ⟨[], rfl, rfl, ?_⟩
    show Reps c H (replK [] vs k d) []
    unfold replK
    exact .nil
  | a :: ks, vs, [], k, hl, r => by simp at hl
  | a :: ks, vs, x :: xs, k, hl, r => by
    cases vs with
    | nil => simp only [Reps] at r; cases r
    | cons v vs =>
      simp only [Reps] at r
      obtain ⟨x', t, e, q', r⟩ := r
      cases e
      simp only [List.length_cons, Nat.add_right_cancel_iff] at hl
      obtain ⟨xs', e1, e2, e3⟩ := repl_zip q (k := k) hl r
      refine ⟨(if a = k then y else x) :: xs', ?_, by simp [e2], ?_⟩
      · simp only [List.zip_cons_cons, List.map_cons, e1]
        by_cases ha : a = k <;> simp [ha]
      · show Reps c H ((if a = k then d else v) :: replK ks vs k d) _
        by_cases ha : a = k
        · rw [if_pos ha, if_pos ha]
          exact .cons q e3
        · rw [if_neg ha, if_neg ha]
          exact .cons q' e3
theorem put_zip {c : RC} {H : Hp} {d : D} {y : V} {ks : List κ} {vs : List D} {xs : List V} {k : κ} (q : Rep c H d y) (hl : ks.length = xs.length) (r : Reps c H vs xs) :
    ∃ xs', putK (ks.zip xs) k y = (putKs ks k).zip xs' ∧ (putKs ks k).length = xs'.length ∧ Reps c H (putVs ks vs k d) xs' := by
  unfold putK putKs putVs
  rw [hasK_any hl]
  by_cases hk : hasK ks k = true
  · rw [if_pos hk, if_pos hk, if_pos hk]
    exact repl_zip q hl r
  · rw [if_neg hk, if_neg hk, if_neg hk]
    refine ⟨xs ++ [y], ?_, by simp [hl], r.append (.one q)⟩
    rw [List.zip_append hl]
    rfl
end
theorem keyD_rep {c : RC} {H : Hp} {d : D} {k : DKey} {v : V} (h : keyD d = some k) (r : Rep c H d v) : v = kV k := by
  cases d with
  | int i =>
    cases h
    simp only [Rep] at r
    exact r
  | str x =>
    cases h
    simp only [Rep] at r
    exact r
  | _ => cases h
theorem keysD_rep {c : RC} {H : Hp} : ∀ {ds : List D} {ks : List DKey} {xs : List V}, keysD ds = some ks → Reps c H ds xs → xs = ks.map kV
  | [], ks, xs, h, r => by
    simp only [keysD] at h
    cases h
    simp only [Reps] at r
    subst r
    rfl
  | d :: ds, ks, xs, h, r => by
    simp only [Reps] at r
    obtain ⟨x, t, rfl, q, r⟩ := r
    simp only [keysD] at h
    cases h1 : keyD d with
    | none => rw [h1] at h; cases h
    | some k =>
      cases h2 : keysD ds with
      | none => rw [h1, h2] at h; cases h
      | some ks' =>
        rw [h1, h2] at h
        cases h
        rw [keyD_rep h1 q, keysD_rep h2 r]
        rfl
def RelDV (c : RC) (H : Hp) : Option D → Option V → Prop
  | some d, some z => Rep c H d z
  | none, none => True
  | _, _ => False
theorem RelDV.isSome {c : RC} {H : Hp} {r : Option D} {o : Option V} (h : RelDV c H r o) : r.isSome = o.isSome := by
  cases r <;> cases o <;> first | rfl | exact h.elim
theorem lookK_rel {κ : Type} [DecidableEq κ] {c : RC} {H : Hp} {ks : List κ} {vs : List D} {xs : List V} {k : κ} (hl : ks.length = xs.length) (hr : Reps c H vs xs) : RelDV c H (lookK ks vs k) (valV (ks.zip xs) k) := by
  obtain ⟨h1, h2⟩ := lookK_rep (k := k) hl hr
  cases hk : lookK ks vs k with
  | none =>
    rw [h2 hk]
    trivial
  | some d =>
    obtain ⟨z, e, q⟩ := h1 d hk
    rw [e]
    exact q
/-- a look-up -/
theorem getDk_rep {c : RC} {H : Hp} {p q : D} {x y : V} {r : Option D} (h : getDk p q = some r) (rx : RepP c H p x) (ry : RepP c H q y) : ∃ a o, x = .ref a ∧ DGet H a y o ∧ RelDV c H r o := by
  cases p with
  | fdk ks vs =>
    obtain ⟨a, xs, rfl, hd, hl, hr⟩ := rx
    have h' : (keyD q).map (fun k => lookK ks vs k) = some r := h
    cases hk : keyD q with
    | none => rw [hk] at h'; cases h'
    | some k =>
      rw [hk] at h'
      cases h'
      have ry' : Rep c H q y := by
        cases q with
        | int i => exact ry
        | str z => exact ry
        | _ => cases hk
      exact ⟨a, _, rfl, .inl ⟨_, k, hd, keyD_rep hk ry', rfl⟩, lookK_rel hl hr⟩
  | fdt ks vs =>
    obtain ⟨a, xs, rfl, hd, hl, hr⟩ := rx
    cases q with
    | tup ds =>
      have h' : (keysD ds).map (fun k => lookK ks vs k) = some r := h
      cases hk : keysD ds with
      | none => rw [hk] at h'; cases h'
      | some k =>
        rw [hk] at h'
        cases h'
        obtain ⟨b, ys, rfl, hb, hry⟩ := ry.tupS
        rw [keysD_rep hk hry] at hb
        exact ⟨a, _, rfl, .inr ⟨_, k, b, hd, rfl, hb, rfl⟩, lookK_rel hl hr⟩
    | _ => cases h
  | _ => cases h

/-! ### d[k], k in d, by values -/
section
variable {X : Cx}
def rDGetV : R2 := fun x y H Q => ∃ a v, x = .ref a ∧ DGet H a y (some v) ∧ Q v H
theorem ix_dict (hu : X.A.units + 1 < cLine) : IxR X rDGetV := by
  intro value slice pins s σ H x y v u Q I rx ry h hs
  obtain ⟨a, z, rfl, g, q⟩ := h
  obtain rfl : v = Value.ref a := rx
  exact tail_any (dict_typeIs I g) PySem.F.slot_dict_getitem.lookup (d_getItem hu I g ry fun w' s3 I3 rw' => ⟨z, H, I3, rw', q⟩) hs
def rDInV (neg : Bool) : R2 := fun x y H Q => ∃ a o, y = .ref a ∧ DGet H a x o ∧ Q (.bl (if neg then !o.isSome else o.isSome)) H
theorem op_dInV (hu : X.A.units + 1 < cLine) : OpR X (compareOp .In) (rDInV false) := by
  intro pins s σ H x y v u Q I rx ry h
  obtain ⟨a, o, rfl, g, q⟩ := h
  obtain rfl : u = Value.ref a := ry
  exact d_in hu I g rx fun s3 I3 => ⟨.bl o.isSome, H, I3, rfl, q⟩
theorem op_dNotInV (hu : X.A.units + 1 < cLine) : OpR X (compareOp .NotIn) (rDInV true) := by
  intro pins s σ H x y v u Q I rx ry h
  obtain ⟨a, o, rfl, g, q⟩ := h
  obtain rfl : u = Value.ref a := ry
  exact d_notIn hu I g rx fun s3 I3 => ⟨.bl (!o.isSome), H, I3, rfl, q⟩
end
end M

namespace M
open PySem PySem.Spec PyProof.Rows L2

/-! ### ints -/
def gI (f : Int → Int → Option Val) : D → D → Option Val
  | .int i, .int j => f i j
  | _, _ => none
variable {X : Cx}
theorem og_int {C : Int → Int → Prop} {h : Int → Int → Int} {f : Int → Int → Option Val} (hf : ∀ i j z, f i j = some z → C i j ∧ z = .v (.int (h i j))) : OpG X (rI C fun i j => .int (h i j)) (gI f) := by
  intro H p q x y z Q rx ry hz k
  cases p with
  | int i =>
    cases q with
    | int j =>
      obtain ⟨hc, rfl⟩ := hf i j z hz
      exact ⟨i, j, rx.int, ry.int, hc, k.int⟩
    | _ => cases hz
  | _ => cases hz
theorem og_int0 {h : Int → Int → Int} : OpG X (rI0 fun i j => .int (h i j)) (gI fun i j => some (.v (.int (h i j)))) := by
  intro H p q x y z Q rx ry hz k
  cases p with
  | int i =>
    cases q with
    | int j =>
      cases hz
      exact ⟨i, j, rx.int, ry.int, k.int⟩
    | _ => cases hz
  | _ => cases hz
theorem og_bl0 {h : Int → Int → Bool} : OpG X (rI0 fun i j => .bl (h i j)) (gI fun i j => some (.v (.bl (h i j)))) := by
  intro H p q x y z Q rx ry hz k
  cases p with
  | int i =>
    cases q with
    | int j =>
      cases hz
      exact ⟨i, j, rx.int, ry.int, k.bl⟩
    | _ => cases hz
  | _ => cases hz
def gSub := gI fun i j => some (.v (.int (i - j)))
def big (i : Int) : Bool := fitsN 18446744073709551614 i
def gMulI := gI fun i j => if big i || big j then some (.v (.int (i * j))) else none
def gDiv := gI fun i j => if j ≠ 0 ∧ j.natAbs < 1073741824 then some (.v (.int (i.fdiv j))) else none
def gMod := gI fun i j => if j ≠ 0 then some (.v (.int (i.fmod j))) else none
def gPow := gI fun i j => if 0 ≤ j ∧ j ≤ 1000000 ∧ i.natAbs < 18446744073709551616 then some (.v (.int (i ^ j.toNat))) else none
def gShl := gI fun i j => if 0 ≤ j ∧ j ≤ 1000000 ∧ i.natAbs < 18446744073709551616 then some (.v (.int (i * 2 ^ j.toNat))) else none
def gShr := gI fun i j => if 0 ≤ j then some (.v (.int (i / 2 ^ j.toNat))) else none
def gAnd := gI fun i j => some (.v (.int (Builtin.bitAnd i j)))
def gOr := gI fun i j => some (.v (.int (Builtin.bitOr i j)))
def gXor := gI fun i j => some (.v (.int (Builtin.bitXor i j)))
theorem big_of {i : Int} (h : big i = true) : -(2 ^ 64) < i ∧ i < 2 ^ 64 := by
  have := fitsN_iff.mp h
  exact ⟨by omega, by omega⟩
theorem big_iff {i : Int} : big i = true ↔ -18446744073709551616 < i ∧ i < 18446744073709551615 := by
  unfold big
  rw [fitsN_iff]
  omega
theorem ite_some {c : Prop} [Decidable c] {α : Type} {a z : α} (h : (if c then some a else none) = some z) : c ∧ z = a := by
  by_cases hc : c
  · rw [if_pos hc] at h
    exact ⟨hc, (Option.some.inj h).symm⟩
  · rw [if_neg hc] at h
    cases h
theorem og_sub : OpG X (rI0 fun i j => .int (i - j)) gSub := og_int0
theorem og_mulI : OpG X (rI CMul fun i j => .int (i * j)) gMulI := og_int fun i j z h => by
  obtain ⟨hc, e⟩ := ite_some h
  rw [Bool.or_eq_true] at hc
  exact ⟨hc.elim (fun k => .inl (big_of k)) (fun k => .inr (big_of k)), e⟩
theorem og_div : OpG X (rI CDivN fun i j => .int (i.fdiv j)) gDiv := og_int fun i j z h => ⟨(ite_some h).1, (ite_some h).2⟩
theorem og_mod : OpG X (rI (fun _ j => j ≠ 0) fun i j => .int (i.fmod j)) gMod := og_int fun i j z h => ite_some h
theorem cpow_of {i j : Int} (h : 0 ≤ j ∧ j ≤ 1000000 ∧ i.natAbs < 18446744073709551616) : CPow i j := ⟨h.1, h.2.1, by have := h.2.2; omega⟩
theorem og_pow : OpG X (rI CPow fun i j => .int (i ^ j.toNat)) gPow := og_int fun i j z h => ⟨cpow_of (ite_some h).1, (ite_some h).2⟩
theorem og_shl : OpG X (rI CPow fun i j => .int (i * 2 ^ j.toNat)) gShl := og_int fun i j z h => ⟨cpow_of (ite_some h).1, (ite_some h).2⟩
theorem og_shr : OpG X (rI (fun _ j => 0 ≤ j) fun i j => .int (i / 2 ^ j.toNat)) gShr := og_int fun i j z h => ite_some h
theorem og_and : OpG X (rI0 fun i j => .int (Builtin.bitAnd i j)) gAnd := og_int0
theorem og_or : OpG X (rI0 fun i j => .int (Builtin.bitOr i j)) gOr := og_int0
theorem og_xor : OpG X (rI0 fun i j => .int (Builtin.bitXor i j)) gXor := og_int0

/-! ### + -/
def gAdd : D → D → Option Val
  | .int i, .int j => some (.v (.int (i + j)))
  | .str x, .str y => if x.length + y.length ≤ lim then some (.v (.str (x ++ y))) else none
  | .lst a, .lst b => if a.length + b.length ≤ lim then some (.n (.li (a ++ b))) else none
  | .tup a, .tup b => if a.length + b.length ≤ lim then some (.v (.tup (a ++ b))) else none
  | _, _ => none
theorem Rep.tup_mk {c : RC} {H : Hp} {ds : List D} {a : Addr} {xs : List V} (h : H a = some (.tup xs)) (r : Reps c H ds xs) : Rep c H (.tup ds) (.ref a) := by
  simp only [Rep]
  exact ⟨a, xs, rfl, h, r⟩
theorem rd_at {pins : List (Addr × Obj)} {σ : L2.St} {H : Hp} {s : Shared} {a : Addr} {xs : List V} (I : Inv X pins σ H s) (h : Rd H a (.lst xs)) : xs.length ≤ sizeLine ∧ ∃ its n, Vals xs its ∧ s.heap.get? a = some { cls := .type "list", data := .seq its.toArray n } := by
  have := h.ok I.hok
  exact this
/-- lists that are read -/
def rCatS : R2 := fun x y H Q => ∃ l b xs zs, x = .ref l ∧ y = .ref b ∧ Rd H l (.lst xs) ∧ Rd H b (.lst zs) ∧ xs.length + zs.length ≤ sizeLine ∧ ∀ p, H p = none → Q (.ref p) (upd H p (.lst (xs ++ zs)))
theorem op_catS : OpR X (binaryOp .Add) rCatS := by
  intro pins s σ H x y v u Q I rx ry h
  obtain ⟨l, b, xs, zs, rfl, rfl, hH, hB, hz, q⟩ := h
  cases rx
  cases ry
  obtain ⟨_, its, n, r, e⟩ := rd_at I hH
  obtain ⟨_, its2, n2, r2, e2⟩ := rd_at I hB
  have l1 := r.length
  have l2 := r2.length
  refine PySem.P.add_list e e2 ?_ (by rw [List.size_toArray, List.size_toArray]; omega)
  rw [show its.toArray ++ its2.toArray = (its ++ its2).toArray from by simp]
  exact ⟨.ref _, _, I.lnew (t' := s.toks) (r.append r2) (by rw [List.length_append]; exact hz), rfl, q _ I.fresh⟩
def rAdd (K : PySem.W.Frag) : R2 := fun x y H Q => (∃ i j, x = .int i ∧ y = .int j ∧ Q (.int (i + j)) H) ∨ (∃ i j, x = .str i ∧ y = .str j ∧ i.length + j.length ≤ sizeLine ∧ Q (.str (i ++ j)) H) ∨ rCatS x y H Q ∨ rCatA K x y H Q
theorem op_addA : OpR X (binaryOp .Add) (rAdd X.K) := op_add.or (op_add_str.or (op_catS.or op_catA))
theorem Reps.nil_of {c : RC} {H : Hp} {xs : List V} (r : Reps c H [] xs) : xs = [] := by
  simp only [Reps] at r
  exact r
theorem og_add : OpG X (rAdd X.K) gAdd := by
  intro H p q x y z Q rx ry hz k
  cases p with
  | int i =>
    cases q with
    | int j =>
      cases hz
      exact .inl ⟨i, j, rx.int, ry.int, k.int⟩
    | _ => cases hz
  | str i =>
    cases q with
    | str j =>
      obtain ⟨hc, rfl⟩ := ite_some hz
      exact .inr (.inl ⟨i, j, rx.str, ry.str, by rw [lim_eq]; exact hc, k.str⟩)
    | _ => cases hz
  | lst a =>
    cases q with
    | lst b =>
      obtain ⟨hc, rfl⟩ := ite_some hz
      obtain ⟨l, xs, rfl, h1, r1⟩ := rx
      obtain ⟨m, ys, rfl, h2, r2⟩ := ry
      exact .inr (.inr (.inl ⟨l, m, xs, ys, rfl, rfl, h1, h2, by rw [← r1.length, ← r2.length, lim_eq]; exact hc, k.new (r1.append r2)⟩))
    | _ => cases hz
  | tup a =>
    cases q with
    | tup b =>
      obtain ⟨hc, rfl⟩ := ite_some hz
      obtain ⟨l, xs, rfl, h1, r1⟩ := rx.tupS
      obtain ⟨m, ys, rfl, h2, r2⟩ := ry.tupS
      refine .inr (.inr (.inr ⟨l, m, xs, ys, rfl, rfl, tupQ h1, tupQ h2, by rw [← r1.length, ← r2.length, lim_eq]; exact hc, fun e => ?_, fun _ e => ?_, fun _ _ => k.newT (r1.append r2)⟩))
      · subst e
        have ha : a = [] := List.length_eq_zero_iff.mp r1.length
        subst ha
        exact k.old (Rep.tup_mk h2 r2)
      · subst e
        have hb : b = [] := List.length_eq_zero_iff.mp r2.length
        subst hb
        rw [List.append_nil] at k
        exact k.old (Rep.tup_mk h1 r1)
    | _ => cases hz
  | _ => cases hz
/-- a new list times an int -/
def mRepL (fa fb : VM) : VM := fun ρ S => (fa ρ S).bind fun x S1 => (fb ρ S1).bind fun y S2 => match x, y with
  | .n (.li ds), .v (.int k) => if fits62 k && decide (ds.length * k.toNat ≤ lim) then .ok (.n (.li (List.replicate k.toNat ds).flatten)) S2 else .bad
  | _, _ => .bad
theorem Reps.rep {c : RC} {H : Hp} {ds : List D} {xs : List V} (r : Reps c H ds xs) : ∀ n : Nat, Reps c H (List.replicate n ds).flatten (List.replicate n xs).flatten
  | 0 => .nil
  | n + 1 => by
    rw [List.replicate_succ, List.replicate_succ, List.flatten_cons, List.flatten_cons]
    exact r.append (Reps.rep r n)
theorem sv_repL {W : WX} {a b : Expr} {pos : Pos} {fa fb : VM} (ha : SV X W a fa) (hb : SV X W b fb) : SV X W (.BinOp a .Mult b pos) (mRepL fa fb) := by
  refine PE.imp (pe_op op_rep ha hb) fun σ H Q ⟨α, ρ, S, hE, hS, q⟩ => ⟨α, ρ, S, hE, hS, ?_⟩
  refine wpR_mono (wpR_bind q) (fun x S1 h1 v H1 α1 x1 s1 r1 f1 => ?_) fun _ _ z => z
  refine ⟨α1, ρ, S1, hE.mono x1, s1, ?_⟩
  refine wpR_mono (wpR_bind h1) (fun y S2 h2 w H2 α2 x2 s2 r2 f2 => ?_) fun _ _ z => z.mono x1
  have r1' := r1.mono x2
  split at h2
  · rename_i ds k
    by_cases hc : (fits62 k && decide (ds.length * k.toNat ≤ lim)) = true
    · rw [if_pos hc] at h2
      rw [Bool.and_eq_true, decide_eq_true_eq] at hc
      obtain ⟨a, rfl, ⟨xs, ea, r⟩, na⟩ := r1'
      have ew : w = .int k := by simpa only [RepX, Rep] using r2
      subst ew
      obtain ⟨k1, k2⟩ := fits62_of hc.1
      refine ⟨a, k, xs, rfl, rfl, ea, by omega, by omega, by rw [← r.length, lim_eq]; exact hc.2, ((okV.mono (x1.trans x2) h2).Z s2).new (r.rep k.toNat)⟩
    · rw [if_neg hc] at h2
      exact h2.elim
  · exact h2.elim

/-! ### data as the library tells it -/
mutual
def D.py : D → Option PyData
  | .non => some .none
  | .bl b => some (.bool b)
  | .int i => some (.int i)
  | .str x => some (.str x)
  | .tup ds => (D.pys ds).map .tuple
  | .lst ds => (D.pys ds).map .list
  | .fn _ => none
  | .kl _ => none
  | .raw _ => none
  | .fdk _ _ => none
  | .fdt _ _ => none
def D.pys : List D → Option (List PyData)
  | [] => some []
  | d :: ds => match D.py d, D.pys ds with
    | some p, some ps => some (p :: ps)
    | _, _ => none
end
mutual
theorem Rep.dp {c : RC} {H : Hp} : ∀ {d : D} {v : V} {p : PyData}, Rep c H d v → D.py d = some p → Dp c.K H v p
  | .non, v, p, r, h => by
    simp only [Rep] at r
    simp only [D.py] at h
    cases h
    subst r
    exact .non
  | .bl b, v, p, r, h => by
    simp only [Rep] at r
    simp only [D.py] at h
    cases h
    subst r
    exact .bl b
  | .int b, v, p, r, h => by
    simp only [Rep] at r
    simp only [D.py] at h
    cases h
    subst r
    exact .int b
  | .str b, v, p, r, h => by
    simp only [Rep] at r
    simp only [D.py] at h
    cases h
    subst r
    exact .str b
  | .tup ds, v, p, r, h => by
    simp only [Rep] at r
    obtain ⟨a, xs, rfl, q, r⟩ := r
    simp only [D.py] at h
    cases hp : D.pys ds with
    | none => rw [hp] at h; cases h
    | some ps =>
      rw [hp] at h
      cases h
      exact .tup (tupQ q) (Reps.dp r hp)
  | .lst ds, v, p, r, h => by
    simp only [Rep] at r
    obtain ⟨a, xs, rfl, q, r⟩ := r
    simp only [D.py] at h
    cases hp : D.pys ds with
    | none => rw [hp] at h; cases h
    | some ps =>
      rw [hp] at h
      cases h
      exact .lst (.inl q.rd) (Reps.dp r hp)
  | .fn _, _, _, _, h => by simp only [D.py] at h; cases h
  | .kl _, _, _, _, h => by simp only [D.py] at h; cases h
  | .raw _, _, _, _, h => by simp only [D.py] at h; cases h
  | .fdk _ _, _, _, _, h => by simp only [D.py] at h; cases h
  | .fdt _ _, _, _, _, h => by simp only [D.py] at h; cases h
theorem Reps.dp {c : RC} {H : Hp} : ∀ {ds : List D} {xs : List V} {ps : List PyData}, Reps c H ds xs → D.pys ds = some ps → DpAll c.K H xs ps
  | [], xs, ps, r, h => by
    simp only [Reps] at r
    simp only [D.pys] at h
    cases h
    subst r
    exact .nil
  | d :: ds, xs, ps, r, h => by
    simp only [Reps] at r
    obtain ⟨x, ys, rfl, q, t⟩ := r
    simp only [D.pys] at h
    cases hp : D.py d with
    | none => rw [hp] at h; cases h
    | some p =>
      cases hps : D.pys ds with
      | none => rw [hp, hps] at h; cases h
      | some ps' =>
        rw [hp, hps] at h
        cases h
        exact .cons (Rep.dp q hp) (Reps.dp t hps)
end
theorem RepP.dp {c : RC} {H : Hp} {d : D} {v : V} {p : PyData} (r : RepP c H d v) (h : D.py d = some p) : Dp c.K H v p := by
  cases d with
  | lst ds =>
    obtain ⟨a, xs, rfl, q, r⟩ := r
    simp only [D.py] at h
    cases hp : D.pys ds with
    | none => rw [hp] at h; cases h
    | some ps =>
      rw [hp] at h
      cases h
      exact .lst (.inl q) (Reps.dp r hp)
  | fdk _ _ => simp only [D.py] at h; cases h
  | fdt _ _ => simp only [D.py] at h; cases h
  | _ => exact Rep.dp r h
def gPy (f : PyData → PyData → Option Val) : D → D → Option Val := fun p q => match D.py p, D.py q with
  | some a, some b => if SeqAt.shaped a && SeqAt.shaped b then f a b else none
  | _, _ => none
theorem gPy_some {f : PyData → PyData → Option Val} {p q : D} {z : Val} (h : gPy f p q = some z) : ∃ a b, D.py p = some a ∧ D.py q = some b ∧ SeqAt.shaped a = true ∧ SeqAt.shaped b = true ∧ f a b = some z := by
  unfold gPy at h
  cases hp : D.py p with
  | none => rw [hp] at h; cases h
  | some a =>
    cases hq : D.py q with
    | none => rw [hp, hq] at h; cases h
    | some b =>
      rw [hp, hq] at h
      dsimp only at h
      by_cases hc : (SeqAt.shaped a && SeqAt.shaped b) = true
      · rw [if_pos hc] at h
        rw [Bool.and_eq_true] at hc
        exact ⟨a, b, rfl, rfl, hc.1, hc.2, h⟩
      · rw [if_neg hc] at h
        cases h
def eqE : PyData → PyData → Option Val := fun a b => some (.v (.bl (PyData.eqv a b)))
def neE : PyData → PyData → Option Val := fun a b => some (.v (.bl (!PyData.eqv a b)))
def gEq : D → D → Option Val
  | .str x, .str y => some (.v (.bl (decide (x = y))))
  | p, q => gPy eqE p q
def gNe : D → D → Option Val
  | .str x, .str y => some (.v (.bl (!decide (x = y))))
  | p, q => gPy neE p q
def rEqA (K : PySem.W.Frag) : R2 := fun x y H Q => rEq x y H Q ∨ rEqD K x y H Q
def rNeA (K : PySem.W.Frag) : R2 := fun x y H Q => rNe x y H Q ∨ rNeD K x y H Q
theorem op_eqA (hu : X.A.units + 64 < cLine) : OpR X (compareOp .Eq) (rEqA X.K) := op_eq.or (op_eqD hu)
theorem op_neA (hu : X.A.units + 64 < cLine) : OpR X (compareOp .NotEq) (rNeA X.K) := op_ne.or (op_neD hu)
theorem dec_str {i j : PySem.Str} : decide (V.str i = V.str j) = decide (i = j) := by
  rw [Bool.eq_iff_iff, decide_eq_true_eq, decide_eq_true_eq]
  exact ⟨fun h => V.str.inj h, fun h => by rw [h]⟩
theorem og_eqP {H : Hp} {p q : D} {x y : V} {z : Val} {Q : VK} (rx : RepP (rc X) H p x) (ry : RepP (rc X) H q y) (hz : gPy eqE p q = some z) (k : okZ (rc X) Q H z) : rEqA X.K x y H Q := by
  obtain ⟨a, b, h1, h2, s1, s2, hf⟩ := gPy_some hz
  cases hf
  exact .inr ⟨a, b, rx.dp h1, ry.dp h2, s1, s2, k.bl⟩
theorem og_neP {H : Hp} {p q : D} {x y : V} {z : Val} {Q : VK} (rx : RepP (rc X) H p x) (ry : RepP (rc X) H q y) (hz : gPy neE p q = some z) (k : okZ (rc X) Q H z) : rNeA X.K x y H Q := by
  obtain ⟨a, b, h1, h2, s1, s2, hf⟩ := gPy_some hz
  cases hf
  exact .inr ⟨a, b, rx.dp h1, ry.dp h2, s1, s2, k.bl⟩
theorem og_eq : OpG X (rEqA X.K) gEq := by
  intro H p q x y z Q rx ry hz k
  unfold gEq at hz
  split at hz
  · cases hz
    rw [rx.str, ry.str]
    exact .inl ⟨rfl, by rw [dec_str]; exact k.bl⟩
  · exact og_eqP rx ry hz k
theorem og_ne : OpG X (rNeA X.K) gNe := by
  intro H p q x y z Q rx ry hz k
  unfold gNe at hz
  split at hz
  · cases hz
    rw [rx.str, ry.str]
    exact .inl ⟨rfl, by rw [dec_str]; exact k.bl⟩
  · exact og_neP rx ry hz k

/-! ### order -/
def rOrd (h : Int → Int → Bool) (g : PySem.Str → PySem.Str → Bool) : R2 := fun x y H Q => (∃ i j, x = .int i ∧ y = .int j ∧ Q (.bl (h i j)) H) ∨ ∃ i j, x = .str i ∧ y = .str j ∧ Q (.bl (g i j)) H
def gOrd (h : Int → Int → Bool) (g : PySem.Str → PySem.Str → Bool) : D → D → Option Val
  | .int i, .int j => some (.v (.bl (h i j)))
  | .str i, .str j => some (.v (.bl (g i j)))
  | _, _ => none
theorem og_ord {h : Int → Int → Bool} {g : PySem.Str → PySem.Str → Bool} : OpG X (rOrd h g) (gOrd h g) := by
  intro H p q x y z Q rx ry hz k
  cases p with
  | int i =>
    cases q with
    | int j =>
      cases hz
      exact .inl ⟨i, j, rx.int, ry.int, k.bl⟩
    | _ => cases hz
  | str i =>
    cases q with
    | str j =>
      cases hz
      exact .inr ⟨i, j, rx.str, ry.str, k.bl⟩
    | _ => cases hz
  | _ => cases hz
def ltS (i j : PySem.Str) : Bool := decide (i.cps.toList < j.cps.toList)
def gLt := gOrd (fun i j => decide (i < j)) ltS
def gLe := gOrd (fun i j => decide (i ≤ j)) fun i j => !ltS j i
def gGt := gOrd (fun i j => decide (j < i)) fun i j => ltS j i
def gGe := gOrd (fun i j => decide (j ≤ i)) fun i j => !ltS i j
theorem op_ltA : OpR X (compareOp .Lt) (rOrd (fun i j => decide (i < j)) ltS) := op_lt.or op_lt_str
theorem op_leA : OpR X (compareOp .LtE) (rOrd (fun i j => decide (i ≤ j)) fun i j => !ltS j i) := op_le.or op_le_str
theorem op_gtA : OpR X (compareOp .Gt) (rOrd (fun i j => decide (j < i)) fun i j => ltS j i) := op_gt.or op_gt_str
theorem op_geA : OpR X (compareOp .GtE) (rOrd (fun i j => decide (j ≤ i)) fun i j => !ltS i j) := op_ge.or op_ge_str
theorem og_lt : OpG X (rOrd (fun i j => decide (i < j)) ltS) gLt := og_ord
theorem og_le : OpG X (rOrd (fun i j => decide (i ≤ j)) fun i j => !ltS j i) gLe := og_ord
theorem og_gt : OpG X (rOrd (fun i j => decide (j < i)) fun i j => ltS j i) gGt := og_ord
theorem og_ge : OpG X (rOrd (fun i j => decide (j ≤ i)) fun i j => !ltS i j) gGe := og_ord

/-! ### is None, is True -/
def isNonD : D → Bool
  | .non => true
  | _ => false
def gIsN (neg : Bool) : D → D → Option Val
  | p, .non => some (.v (.bl (if neg then !isNonD p else isNonD p)))
  | _, _ => none
theorem isNon_rep {c : RC} {H : Hp} {p : D} {x : V} (r : RepP c H p x) : decide (x = .non) = isNonD p := by
  cases p with
  | non => rw [r.non]; rfl
  | bl b => rw [r.bl]; rfl
  | int b => rw [r.int]; rfl
  | str b => rw [r.str]; rfl
  | tup ds => obtain ⟨a, xs, rfl, _⟩ := r.tup; rfl
  | lst ds => obtain ⟨a, xs, rfl, _⟩ := r; rfl
  | fn n =>
    have r' : Rep c H (.fn n) x := r
    simp only [Rep] at r'
    obtain ⟨a, _, rfl⟩ := r'
    rfl
  | kl ds =>
    have r' : Rep c H (.kl ds) x := r
    simp only [Rep] at r'
    obtain ⟨a, xs, rfl, _⟩ := r'
    rfl
  | raw a =>
    have r' : Rep c H (.raw a) x := r
    simp only [Rep] at r'
    subst r'
    rfl
  | fdk ks ds => obtain ⟨a, xs, rfl, _⟩ := r; rfl
  | fdt ks ds => obtain ⟨a, xs, rfl, _⟩ := r; rfl
theorem og_isN : OpG X (fun x y H Q => y = .non ∧ Q (.bl (decide (x = .non))) H) (gIsN false) := by
  intro H p q x y z Q rx ry hz k
  cases q with
  | non =>
    cases hz
    exact ⟨ry.non, by rw [isNon_rep rx]; exact k.bl⟩
  | _ => cases hz
theorem og_notN : OpG X (fun x y H Q => y = .non ∧ Q (.bl (!decide (x = .non))) H) (gIsN true) := by
  intro H p q x y z Q rx ry hz k
  cases q with
  | non =>
    cases hz
    exact ⟨ry.non, by rw [isNon_rep rx]; exact k.bl⟩
  | _ => cases hz
def gIsB (neg : Bool) : D → D → Option Val
  | .bl a, .bl b => some (.v (.bl (if neg then !decide (a = b) else decide (a = b))))
  | _, _ => none
theorem og_isB : OpG X rIsB (gIsB false) := by
  intro H p q x y z Q rx ry hz k
  cases p with
  | bl a =>
    cases q with
    | bl b =>
      cases hz
      exact ⟨a, b, rx.bl, ry.bl, k.bl⟩
    | _ => cases hz
  | _ => cases hz
theorem og_notB : OpG X rNotB (gIsB true) := by
  intro H p q x y z Q rx ry hz k
  cases p with
  | bl a =>
    cases q with
    | bl b =>
      cases hz
      exact ⟨a, b, rx.bl, ry.bl, k.bl⟩
    | _ => cases hz
  | _ => cases hz

/-! ### in -/
def rInA (K : PySem.W.Frag) (neg : Bool) : R2 := fun x y H Q => (∃ (c : Nat) (z : PySem.Str), x = .str ⟨#[c]⟩ ∧ y = .str z ∧ Q (.bl (if neg then !decide (c ∈ z.cps.toList) else decide (c ∈ z.cps.toList))) H) ∨
  (∃ d ds, Dp K H x d ∧ Dp K H y (.list ds) ∧ SeqAt.shaped d = true ∧ SeqAt.shaped (.list ds) = true ∧ Q (.bl (if neg then !ds.any fun z => PyData.eqv z d else ds.any fun z => PyData.eqv z d)) H)
theorem op_inA (hu : X.A.units + 65 < cLine) : OpR X (compareOp .In) (rInA X.K false) := op_in_sign.or (op_inD hu)
theorem op_notInA (hu : X.A.units + 65 < cLine) : OpR X (compareOp .NotIn) (rInA X.K true) := op_notIn_sign.or (op_notInD hu)
def gIn0 (neg : Bool) : D → D → Option Val
  | .str a, .str z => match a.cps.toList with
    | [c] => some (.v (.bl (if neg then !decide (c ∈ z.cps.toList) else decide (c ∈ z.cps.toList))))
    | _ => none
  | p, .lst es => match D.py p, D.pys es with
    | some d, some ds => if SeqAt.shaped d && SeqAt.shaped (.list ds) then some (.v (.bl (if neg then !ds.any fun z => PyData.eqv z d else ds.any fun z => PyData.eqv z d))) else none
    | _, _ => none
  | _, _ => none
theorem one_sign {a : PySem.Str} {c : Nat} (h : a.cps.toList = [c]) : a = ⟨#[c]⟩ := by
  obtain ⟨⟨l⟩⟩ := a
  simp only at h
  subst h
  rfl
theorem og_in0 {neg : Bool} : OpG X (rInA X.K neg) (gIn0 neg) := by
  intro H p q x y z Q rx ry hz k
  have list : ∀ es, q = .lst es → rInA X.K neg x y H Q := by
    rintro es rfl
    have hz' : (match D.py p, D.pys es with
      | some d, some ds => if SeqAt.shaped d && SeqAt.shaped (.list ds) then some (Val.v (.bl (if neg then !ds.any fun z => PyData.eqv z d else ds.any fun z => PyData.eqv z d))) else none
      | _, _ => none) = some z := by
      cases p <;> exact hz
    cases hp : D.py p with
    | none => rw [hp] at hz'; cases hz'
    | some d =>
      cases hq : D.pys es with
      | none => rw [hp, hq] at hz'; cases hz'
      | some ds =>
        rw [hp, hq] at hz'
        obtain ⟨hc, rfl⟩ := ite_some hz'
        rw [Bool.and_eq_true] at hc
        exact .inr ⟨d, ds, rx.dp hp, ry.dp (by simp only [D.py, hq]; rfl), hc.1, hc.2, k.bl⟩
  cases q with
  | lst es => exact list es rfl
  | str w =>
    cases p with
    | str a =>
      have hz' : (match a.cps.toList with
        | [c] => some (Val.v (.bl (if neg then !decide (c ∈ w.cps.toList) else decide (c ∈ w.cps.toList))))
        | _ => none) = some z := hz
      split at hz'
      · rename_i c hc
        cases hz'
        exact .inl ⟨c, w, by rw [rx.str, one_sign hc], ry.str, k.bl⟩
      · cases hz'
    | _ => cases hz
  | _ => cases p <;> cases hz
/-- in a tuple -/
def rInT (K : PySem.W.Frag) (neg : Bool) : R2 := fun x y H Q => ∃ d ds, Dp K H x d ∧ Dp K H y (.tuple ds) ∧ SeqAt.shaped d = true ∧ SeqAt.shaped (.tuple ds) = true ∧ Q (.bl (if neg then !ds.any fun z => PyData.eqv z d else ds.any fun z => PyData.eqv z d)) H
theorem op_inT (hu : X.A.units + 65 < cLine) : OpR X (compareOp .In) (rInT X.K false) := by
  intro pins s σ H x y v u Q I rx ry h
  obtain ⟨d, ds, hd, he, sd, se, q⟩ := h
  obtain ⟨as, r1⟩ := Dp.reads I d x v hd rx
  obtain ⟨bs, r2⟩ := Dp.reads I (.tuple ds) y u he ry
  exact SeqAt.in_tuple_reads r2 r1 (SeqAt.canLay_of_shaped se) (SeqAt.canLay_of_shaped sd)
    (room_in_shaped sd hu) ⟨.bl _, H, I, rfl, q⟩
theorem op_notInT (hu : X.A.units + 65 < cLine) : OpR X (compareOp .NotIn) (rInT X.K true) := by
  intro pins s σ H x y v u Q I rx ry h
  obtain ⟨d, ds, hd, he, sd, se, q⟩ := h
  obtain ⟨as, r1⟩ := Dp.reads I d x v hd rx
  obtain ⟨bs, r2⟩ := Dp.reads I (.tuple ds) y u he ry
  exact SeqAt.notIn_tuple_reads r2 r1 (SeqAt.canLay_of_shaped se) (SeqAt.canLay_of_shaped sd)
    (room_in_shaped sd hu) ⟨.bl _, H, I, rfl, q⟩
def gIn (neg : Bool) : D → D → Option Val
  | p, .tup es => match D.py p, D.pys es with
    | some d, some ds => if SeqAt.shaped d && SeqAt.shaped (.tuple ds) then some (.v (.bl (if neg then !ds.any fun z => PyData.eqv z d else ds.any fun z => PyData.eqv z d))) else none
    | _, _ => none
  | p, .fdk ks vs => (getDk (.fdk ks vs) p).map fun o => .v (.bl (if neg then !o.isSome else o.isSome))
  | p, .fdt ks vs => (getDk (.fdt ks vs) p).map fun o => .v (.bl (if neg then !o.isSome else o.isSome))
  | p, q => gIn0 neg p q
def rInB (K : PySem.W.Frag) (neg : Bool) : R2 := fun x y H Q => rInA K neg x y H Q ∨ rDInV neg x y H Q ∨ rInT K neg x y H Q
theorem op_inB (hu : X.A.units + 65 < cLine) : OpR X (compareOp .In) (rInB X.K false) := (op_inA hu).or ((op_dInV (by omega)).or (op_inT hu))
theorem op_notInB (hu : X.A.units + 65 < cLine) : OpR X (compareOp .NotIn) (rInB X.K true) := (op_notInA hu).or ((op_dNotInV (by omega)).or (op_notInT hu))
theorem in_dict {H : Hp} {p q : D} {x y : V} {z : Val} {Q : VK} {neg : Bool} (rx : RepP (rc X) H p x) (ry : RepP (rc X) H q y) (hz : (getDk q p).map (fun o => Val.v (.bl (if neg then !o.isSome else o.isSome))) = some z) (k : okZ (rc X) Q H z) : rDInV neg x y H Q := by
  cases hg : getDk q p with
  | none => rw [hg] at hz; cases hz
  | some r =>
    rw [hg] at hz
    cases hz
    obtain ⟨a, o, rfl, g, h⟩ := getDk_rep hg ry rx
    have k' : okZ (rc X) Q H (.v (.bl (if neg then !r.isSome else r.isSome))) := k
    rw [h.isSome] at k'
    exact ⟨a, o, rfl, g, k'.bl⟩
theorem og_in {neg : Bool} : OpG X (rInB X.K neg) (gIn neg) := by
  intro H p q x y z Q rx ry hz k
  cases q with
  | fdk ks vs => exact .inr (.inl (in_dict (p := p) (q := .fdk ks vs) rx ry hz k))
  | fdt ks vs => exact .inr (.inl (in_dict (p := p) (q := .fdt ks vs) rx ry hz k))
  | tup es =>
    have hz' : (match D.py p, D.pys es with
      | some d, some ds => if SeqAt.shaped d && SeqAt.shaped (.tuple ds) then some (Val.v (.bl (if neg then !ds.any fun z => PyData.eqv z d else ds.any fun z => PyData.eqv z d))) else none
      | _, _ => none) = some z := hz
    cases hp : D.py p with
    | none => rw [hp] at hz'; cases hz'
    | some d =>
      cases hq : D.pys es with
      | none => rw [hp, hq] at hz'; cases hz'
      | some ds =>
        rw [hp, hq] at hz'
        obtain ⟨hc, rfl⟩ := ite_some hz'
        rw [Bool.and_eq_true] at hc
        exact .inr (.inr ⟨d, ds, rx.dp hp, ry.dp (by simp only [D.py, hq]; rfl), hc.1, hc.2, k.bl⟩)
  | _ => exact .inl (og_in0 H p _ x y z Q rx ry (by cases p <;> exact hz) k)
end M

namespace M
open PySem PySem.Spec PyProof.Rows L2
variable {X : Cx} {W : WX} {a b e : Expr} {es : List Expr} {pos apos cpos : Pos}

/-! ### items, slices -/
theorem Reps.atI {c : RC} {H : Hp} {ds : List D} {xs : List V} {i : Int} {d : D} (r : Reps c H ds xs) (h : L2.atI ds i = some d) : ∃ x, L2.atI xs i = some x ∧ Rep c H d x := by
  unfold L2.atI at h ⊢
  rw [← r.length]
  cases hj : L2.ixN ds.length i with
  | none => rw [hj] at h; cases h
  | some j =>
    rw [hj] at h
    exact r.get h
def gIx0 : D → D → Option Val
  | .lst ds, .int i => (L2.atI ds i).map fun d => .v d
  | .tup ds, .int i => (L2.atI ds i).map fun d => .v d
  | .str z, .int i => if z.length ≤ lim then (L2.atI z.cps.toList i).map fun c => .v (.str ⟨#[c]⟩) else none
  | _, _ => none
theorem map_some {α β : Type} {o : Option α} {f : α → β} {z : β} (h : o.map f = some z) : ∃ a, o = some a ∧ z = f a := by
  cases o with
  | none => cases h
  | some a => cases h; exact ⟨a, rfl, rfl⟩
theorem og_ix0 : OpG X (rIx X.K) gIx0 := by
  intro H p q x y z Q rx ry hz k
  cases q with
  | int i =>
    cases p with
    | lst ds =>
      obtain ⟨d, hd, rfl⟩ := map_some hz
      obtain ⟨l, xs, rfl, q, r⟩ := rx.seqL
      obtain ⟨v, ev, rv⟩ := r.atI hd
      exact .inl ⟨l, xs, i, v, rfl, ry.int, q, ev, k.old rv⟩
    | tup ds =>
      obtain ⟨d, hd, rfl⟩ := map_some hz
      obtain ⟨l, xs, rfl, q, r⟩ := rx.tup
      obtain ⟨v, ev, rv⟩ := r.atI hd
      exact .inr (.inl ⟨l, xs, i, v, rfl, ry.int, q, ev, k.old rv⟩)
    | str w =>
      have hz' : (if w.length ≤ lim then (L2.atI w.cps.toList i).map (fun c => Val.v (.str ⟨#[c]⟩)) else none) = some z := hz
      by_cases hl : w.length ≤ lim
      · rw [if_pos hl] at hz'
        obtain ⟨c, hc, rfl⟩ := map_some hz'
        exact .inr (.inr ⟨w, i, c, rx.str, ry.int, by rw [lim_eq]; exact hl, hc, k.str⟩)
      · rw [if_neg hl] at hz'
        cases hz'
    | _ => cases hz
  | _ => cases p <;> cases hz
def gIx : D → D → Option Val
  | .fdk ks vs, q => match getDk (.fdk ks vs) q with
    | some (some d) => some (.v d)
    | _ => none
  | .fdt ks vs, q => match getDk (.fdt ks vs) q with
    | some (some d) => some (.v d)
    | _ => none
  | p, q => gIx0 p q
def rIxB (K : PySem.W.Frag) : R2 := fun x y H Q => rIx K x y H Q ∨ rDGetV x y H Q
theorem ix_dict_of {H : Hp} {p q : D} {x y : V} {z : Val} {Q : VK} (rx : RepP (rc X) H p x) (ry : RepP (rc X) H q y) (hz : (match getDk p q with
    | some (some d) => some (Val.v d)
    | _ => none) = some z) (k : okZ (rc X) Q H z) : rDGetV x y H Q := by
  split at hz
  · rename_i d hg
    cases hz
    obtain ⟨a, o, rfl, g, h⟩ := getDk_rep hg rx ry
    cases o with
    | none => exact h.elim
    | some v => exact ⟨a, v, rfl, g, k.old h⟩
  · cases hz
theorem og_ix : OpG X (rIxB X.K) gIx := by
  intro H p q x y z Q rx ry hz k
  cases p with
  | fdk ks vs => exact .inr (ix_dict_of rx ry hz k)
  | fdt ks vs => exact .inr (ix_dict_of rx ry hz k)
  | _ => exact .inl (og_ix0 H _ q x y z Q rx ry hz k)
theorem sv_ix {fa fb : VM} (hu : X.A.units + 65 < cLine) (ha : SV X W a fa) (hb : SV X W b fb) (hs : PlainIx b) : SV X W (.Subscript a b pos) (mOp gIx fa fb) :=
  PE.imp (pe_ix (ix_seq.or (ix_dict (by omega))) ha hb hs) fun σ H Q h => two og_ix h
def cutD {α : Type} (xs : List α) (lo hi : Option Int) : List α := (xs.drop (HT.sIx xs.length 0 lo)).take (HT.sIx xs.length xs.length hi - HT.sIx xs.length 0 lo)
theorem Reps.cut {c : RC} {H : Hp} {ds : List D} {xs : List V} (r : Reps c H ds xs) (lo hi : Option Int) : Reps c H (cutD ds lo hi) (cutV xs lo hi) := by
  unfold cutD cutV
  rw [← r.length]
  exact (r.drop _).take _
def gSl (lo hi : Option Int) : D → Option Val
  | .lst ds => some (.n (.li (cutD ds lo hi)))
  | .tup ds => some (.v (.tup (cutD ds lo hi)))
  | .str z => if z.length ≤ lim then some (.v (.str (cutS z lo hi))) else none
  | _ => none
abbrev OM := MEnv → Sto → R (Option Int)
def oNo : OM := fun _ S => .ok none S
def oAt (f : VM) : OM := fun ρ S => (f ρ S).bind fun x S1 => match x with
  | .v (.int i) => .ok (some i) S1
  | _ => .bad
def tO (c : RC) (W : WX) (f : OM) : TO := fun σ H Q => ∃ α ρ S, RelE c α H ρ σ ∧ RelS c α H S ∧ wpR (f ρ S) (fun o S' => ∀ H' α', Ext α α' H H' → RelS c α' H' S' → Q o H') (okE c W σ α H)
def SO (X : Cx) (W : WX) (o : Option Expr) (f : OM) : Prop := PO X o (tO (rc X) W f)
theorem PO.imp {o : Option Expr} {t t' : TO} (h : PO X o t) (i : ∀ σ H Q, t' σ H Q → t σ H Q) : PO X o t' := ⟨fun pins s σ H Q I q => h.run pins s σ H Q I (i σ H Q q)⟩
theorem so_none : SO X W none oNo := PO.imp po_none fun σ H Q ⟨α, ρ, S, hE, hS, q⟩ => q H α (.refl _ _) hS
theorem so_some {f : VM} (h : SV X W e f) : SO X W (some e) (oAt f) := by
  refine PO.imp (po_some h) fun σ H Q ⟨α, ρ, S, hE, hS, q⟩ => ⟨α, ρ, S, hE, hS, ?_⟩
  refine wpR_mono (wpR_bind q) (fun x S1 h1 v H1 α1 x1 s1 r1 f1 => ?_) fun _ _ z => z
  split at h1
  · rename_i i
    exact ⟨i, by simpa only [RepX, Rep] using r1, h1 H1 α1 x1 s1⟩
  · exact h1.elim
def mSl (f : VM) (lo hi : OM) : VM := fun ρ S => (f ρ S).bind fun x S1 => (lo ρ S1).bind fun l S2 => (hi ρ S2).bind fun u S3 => ap1 (gSl l u) S3 x
def rSlAll (K : PySem.W.Frag) : V → Option Int → Option Int → Hp → VK → Prop := fun x lo hi H Q => (rSlL K x lo hi H Q ∨ rSlA K x lo hi H Q) ∨ rSlS x lo hi H Q
theorem sl_all : SlR X (rSlAll X.K) := (sl_list.or sl_tupA).or sl_str
theorem cut_whole {α : Type} {xs : List α} {lo hi : Option Int} (h : HT.sIx xs.length 0 lo = 0 ∧ HT.sIx xs.length xs.length hi = xs.length) : cutD xs lo hi = xs := by
  unfold cutD
  rw [h.1, h.2]
  simp
theorem og_sl {lo hi : Option Int} : UnG X (fun x H Q => rSlAll X.K x lo hi H Q) (gSl lo hi) := by
  intro H p x z Q rx hz k
  cases p with
  | lst ds =>
    cases hz
    obtain ⟨l, xs, rfl, q, r⟩ := rx.seqL
    exact .inl (.inl ⟨l, xs, rfl, q, k.new (r.cut lo hi)⟩)
  | tup ds =>
    cases hz
    obtain ⟨l, xs, rfl, q, r⟩ := rx.tupS
    refine .inl (.inr ⟨l, xs, rfl, tupQ q, fun hw => ?_, fun _ => k.newT (r.cut lo hi)⟩)
    rw [← r.length] at hw
    rw [cut_whole hw] at k
    exact k.old (Rep.tup_mk q r)
  | str w =>
    obtain ⟨hl, rfl⟩ := ite_some hz
    exact .inr ⟨w, rx.str, by rw [lim_eq]; exact hl, k.str⟩
  | _ => cases hz
theorem sv_slice {lo hi : Option Expr} {p2 : Pos} {f : VM} {l u : OM} (h : SV X W e f) (hl : SO X W lo l) (hu : SO X W hi u) : SV X W (.Subscript e (.Slice lo hi none p2) pos) (mSl f l u) := by
  refine PE.imp (pe_slice sl_all h hl hu) fun σ H Q ⟨α, ρ, S, hE, hS, q⟩ => ⟨α, ρ, S, hE, hS, ?_⟩
  refine wpR_mono (wpR_bind q) (fun x S1 h1 v H1 α1 x1 s1 r1 f1 => ?_) fun _ _ z => z
  refine ⟨α1, ρ, S1, hE.mono x1, s1, ?_⟩
  refine wpR_mono (wpR_bind h1) (fun lo S2 h2 H2 α2 x2 s2 => ?_) fun _ _ z => z.mono x1
  have x12 := x1.trans x2
  refine ⟨α2, ρ, S2, hE.mono x12, s2, ?_⟩
  refine wpR_mono (wpR_bind h2) (fun hi S3 h3 H3 α3 x3 s3 => ?_) fun _ _ z => z.mono x12
  exact ap1_ok og_sl s3 (r1.mono (x2.trans x3)) (wpR_mono h3 (fun z S' k => k.mono (x12.trans x3)) fun _ _ z => z)

/-! ### calls of built-ins -/
def pks (S : Sto) : List Val → Option (List D)
  | [] => some []
  | x :: xs => match pk S x, pks S xs with
    | some p, some ps => some (p :: ps)
    | _, _ => none
inductive RepPs (c : RC) (H : Hp) : List D → List V → Prop where
  | nil : RepPs c H [] []
  | cons {d : D} {v : V} {ds : List D} {vs : List V} : RepP c H d v → RepPs c H ds vs → RepPs c H (d :: ds) (v :: vs)
theorem pks_rep {c : RC} {α : List Addr} {H : Hp} {S : Sto} (s : RelS c α H S) : ∀ {xs : List Val} {vs : List V} {ds : List D}, RepAs c α H xs vs → pks S xs = some ds → RepPs c H ds vs
  | _, _, _, .nil, h => by
    cases h
    exact .nil
  | _, _, _, .cons (x := x) (xs := xs) r t, h => by
    unfold pks at h
    cases hp : pk S x with
    | none => rw [hp] at h; cases h
    | some p =>
      cases hps : pks S xs with
      | none => rw [hp, hps] at h; cases h
      | some ps =>
        rw [hp, hps] at h
        cases h
        exact .cons (pk_rep s r.X hp) (pks_rep s t hps)
def CallG (X : Cx) (r : List V → Hp → VK → Prop) (g : List D → Option Val) : Prop := ∀ (H : Hp) (ps : List D) (xs : List V) (z : Val) (Q : VK), RepPs (rc X) H ps xs → g ps = some z → okZ (rc X) Q H z → r xs H Q
def apN (g : List D → Option Val) (S : Sto) (xs : List Val) : R Val := match pks S xs with
  | some ps => (match g ps with
    | some z => .ok z S
    | none => .bad)
  | none => .bad
def mB (g : List D → Option Val) (fs : AM) : VM := fun ρ S => (fs ρ S).bind fun xs S1 => apN g S1 xs
theorem apN_ok {r : List V → Hp → VK → Prop} {g : List D → Option Val} (hg : CallG X r g) {α : List Addr} {H : Hp} {S : Sto} {xs : List Val} {vs : List V} {Q : VK} {er : Exc → Sto → Prop} (s : RelS (rc X) α H S) (rx : RepAs (rc X) α H xs vs)
    (h : wpR (apN g S xs) (okV (rc X) Q α H) er) : r vs H Q := by
  unfold apN at h
  cases hp : pks S xs with
  | none => rw [hp] at h; exact h.elim
  | some ps =>
    rw [hp] at h
    dsimp only at h
    cases hz : g ps with
    | none => rw [hz] at h; exact h.elim
    | some z =>
      rw [hz] at h
      exact hg H ps vs z Q (pks_rep s rx hp) hz (okV.Z h s)
theorem cb_of {r : List V → Hp → VK → Prop} {g : List D → Option Val} (hg : CallG X r g) {fs : AM} {σ : L2.St} {H : Hp} {Q : VK} (h : tV (rc X) W (mB g fs) σ H Q) : tCB r (tA (rc X) W fs) σ H Q := by
  obtain ⟨α, ρ, S, hE, hS, q⟩ := h
  refine ⟨α, ρ, S, hE, hS, ?_⟩
  refine wpR_mono (wpR_bind q) (fun xs S1 h1 vs H1 α1 x1 s1 r1 => ?_) fun _ _ z => z
  exact apN_ok hg s1 r1 (wpR_mono h1 (fun z S' k => k.mono x1) fun _ _ z => z)
theorem sv_b {r : List V → Hp → VK → Prop} {g : List D → Option Val} (hg : CallG X r g) {fs : AM} (h : PE X e (tCB r (tA (rc X) W fs))) : SV X W e (mB g fs) := PE.imp h fun σ H Q q => cb_of hg q
theorem RepPs.one {c : RC} {H : Hp} {p : D} {vs : List V} (r : RepPs c H [p] vs) : ∃ v, vs = [v] ∧ RepP c H p v := by
  cases r with
  | cons h t => cases t; exact ⟨_, rfl, h⟩
theorem RepPs.two {c : RC} {H : Hp} {p q : D} {vs : List V} (r : RepPs c H [p, q] vs) : ∃ v w, vs = [v, w] ∧ RepP c H p v ∧ RepP c H q w := by
  cases r with
  | cons h t =>
    obtain ⟨w, rfl, hw⟩ := t.one
    exact ⟨_, w, rfl, h, hw⟩
def g1 (f : D → Option Val) : List D → Option Val
  | [p] => f p
  | _ => none
def lenD : D → Option Val
  | .lst ds => some (.v (.int ds.length))
  | .tup ds => some (.v (.int ds.length))
  | .kl ds => some (.v (.int ds.length))
  | .str z => if z.length ≤ lim then some (.v (.int z.length)) else none
  | .fdk ks _ => some (.v (.int ks.length))
  | _ => none
def rLenD (K : PySem.W.Frag) : List V → Hp → VK → Prop := fun xs H Q => ∃ a kvs, xs = [V.ref a] ∧ Rd H a (.dK kvs) ∧ Q (.int kvs.length) H
theorem call_lenF : CallR X (.builtin "len") (rLenD X.K) := by
  intro pins s σ H xs us Q I r h
  obtain ⟨a, kvs, rfl, e, q⟩ := h
  obtain ⟨u, rfl, rx⟩ := vals1 r
  obtain rfl : u = Value.ref a := rx
  exact d_len I e fun t s' I' => ⟨.int kvs.length, H, I', ⟨t, rfl⟩, q⟩
def rLen (K : PySem.W.Frag) : List V → Hp → VK → Prop := fun xs H Q => ∃ x n, xs = [x] ∧ LenV K x H n ∧ Q (.int n) H
theorem cg1 {r : List V → Hp → VK → Prop} {f : D → Option Val} (h : UnG X (fun x H Q => r [x] H Q) f) : CallG X r (g1 f) := by
  intro H ps xs z Q rp hz k
  match ps, hz with
  | [p], hz =>
    obtain ⟨v, rfl, rv⟩ := rp.one
    exact h H p v z Q rv hz k
theorem call_lenA : CallR X (.builtin "len") (fun xs H Q => rLen X.K xs H Q ∨ rLenD X.K xs H Q) := call_len.or call_lenF
theorem cg_len : CallG X (fun xs H Q => rLen X.K xs H Q ∨ rLenD X.K xs H Q) (g1 lenD) := cg1 fun H p x z Q rx hz k => by
  cases p with
  | lst ds =>
    cases hz
    obtain ⟨l, xs, rfl, q, r⟩ := rx.seqL
    exact .inl ⟨_, ds.length, rfl, .inl ⟨xs, q, r.length⟩, k.int⟩
  | tup ds =>
    cases hz
    obtain ⟨l, xs, rfl, q, r⟩ := rx.tup
    exact .inl ⟨_, ds.length, rfl, .inr ⟨xs, q, r.length⟩, k.int⟩
  | kl ds =>
    cases hz
    have r' : Rep (rc X) H (.kl ds) x := rx
    simp only [Rep] at r'
    obtain ⟨l, xs, rfl, q, r⟩ := r'
    exact .inl ⟨_, ds.length, rfl, .inl ⟨xs, q.seq, r.length⟩, k.int⟩
  | str w =>
    obtain ⟨hl, rfl⟩ := ite_some hz
    exact .inl ⟨_, w.length, rfl, by rw [rx.str]; exact ⟨by rw [lim_eq]; exact hl, rfl⟩, k.int⟩
  | fdk ks vs =>
    cases hz
    obtain ⟨a, xs, rfl, q, hl, r⟩ := rx
    have e : (ks.zip xs).length = ks.length := by rw [List.length_zip, ← hl, Nat.min_self]
    rw [← e] at k
    exact .inr ⟨a, _, rfl, q, k.int⟩
  | _ => cases hz
/-- a list of ints, of truth values, of texts -/
def intsOf : List D → Option (List Int)
  | [] => some []
  | .int i :: r => (intsOf r).map (i :: ·)
  | _ :: _ => none
def blsOf : List D → Option (List Bool)
  | [] => some []
  | .bl i :: r => (blsOf r).map (i :: ·)
  | _ :: _ => none
def strsOf : List D → Option (List PySem.Str)
  | [] => some []
  | .str i :: r => (strsOf r).map (i :: ·)
  | _ :: _ => none
theorem intsOf_map : ∀ ns : List Int, intsOf (ns.map D.int) = some ns
  | [] => rfl
  | n :: r => by
    show (intsOf (r.map D.int)).map (n :: ·) = some (n :: r)
    rw [intsOf_map r]
    rfl
theorem blsOf_map : ∀ ns : List Bool, blsOf (ns.map D.bl) = some ns
  | [] => rfl
  | n :: r => by
    show (blsOf (r.map D.bl)).map (n :: ·) = some (n :: r)
    rw [blsOf_map r]
    rfl
theorem strsOf_map : ∀ ns : List PySem.Str, strsOf (ns.map D.str) = some ns
  | [] => rfl
  | n :: r => by
    show (strsOf (r.map D.str)).map (n :: ·) = some (n :: r)
    rw [strsOf_map r]
    rfl
theorem intsOf_rep {c : RC} {H : Hp} : ∀ {ds : List D} {ns : List Int} {xs : List V}, intsOf ds = some ns → Reps c H ds xs → xs = ns.map V.int
  | [], _, _, h, r => by
    cases h
    exact r.nil_of
  | .int i :: ds, _, _, h, r => by
    obtain ⟨ns, hn, rfl⟩ := map_some h
    simp only [Reps, Rep] at r
    obtain ⟨x, ys, rfl, rfl, t⟩ := r
    rw [List.map_cons, intsOf_rep hn t]
theorem blsOf_rep {c : RC} {H : Hp} : ∀ {ds : List D} {ns : List Bool} {xs : List V}, blsOf ds = some ns → Reps c H ds xs → xs = ns.map V.bl
  | [], _, _, h, r => by
    cases h
    exact r.nil_of
  | .bl i :: ds, _, _, h, r => by
    obtain ⟨ns, hn, rfl⟩ := map_some h
    simp only [Reps, Rep] at r
    obtain ⟨x, ys, rfl, rfl, t⟩ := r
    rw [List.map_cons, blsOf_rep hn t]
theorem strsOf_rep {c : RC} {H : Hp} : ∀ {ds : List D} {ns : List PySem.Str} {xs : List V}, strsOf ds = some ns → Reps c H ds xs → xs = ns.map V.str
  | [], _, _, h, r => by
    cases h
    exact r.nil_of
  | .str i :: ds, _, _, h, r => by
    obtain ⟨ns, hn, rfl⟩ := map_some h
    simp only [Reps, Rep] at r
    obtain ⟨x, ys, rfl, rfl, t⟩ := r
    rw [List.map_cons, strsOf_rep hn t]
def sumD : D → Option Val
  | .lst ds => (intsOf ds).map fun ns => .v (.int ns.sum)
  | _ => none
theorem cg_sum : CallG X (rSum X.K) (g1 sumD) := cg1 fun H p x z Q rx hz k => by
  cases p with
  | lst ds =>
    obtain ⟨ns, hn, rfl⟩ := map_some hz
    obtain ⟨l, xs, rfl, q, r⟩ := rx.seqL
    rw [intsOf_rep hn r] at q
    exact ⟨l, ns, rfl, q, k.int⟩
  | _ => cases hz
def allD : D → Option Val
  | .lst ds => (blsOf ds).map fun ns => .v (.bl (ns.all id))
  | _ => none
def anyD : D → Option Val
  | .lst ds => (blsOf ds).map fun ns => .v (.bl (ns.any id))
  | _ => none
theorem cg_all : CallG X (rAll X.K) (g1 allD) := cg1 fun H p x z Q rx hz k => by
  cases p with
  | lst ds =>
    obtain ⟨ns, hn, rfl⟩ := map_some hz
    obtain ⟨l, xs, rfl, q, r⟩ := rx.seqL
    rw [blsOf_rep hn r] at q
    exact ⟨l, ns, rfl, q, k.bl⟩
  | _ => cases hz
theorem cg_any : CallG X (rAny X.K) (g1 anyD) := cg1 fun H p x z Q rx hz k => by
  cases p with
  | lst ds =>
    obtain ⟨ns, hn, rfl⟩ := map_some hz
    obtain ⟨l, xs, rfl, q, r⟩ := rx.seqL
    rw [blsOf_rep hn r] at q
    exact ⟨l, ns, rfl, q, k.bl⟩
  | _ => cases hz
def g2I (h : Int → Int → Int) : List D → Option Val
  | [.int i, .int j] => some (.v (.int (h i j)))
  | _ => none
theorem cg_2I {h : Int → Int → Int} : CallG X (fun xs H Q => ∃ i j, xs = [.int i, .int j] ∧ Q (.int (h i j)) H) (g2I h) := by
  intro H ps xs z Q rp hz k
  unfold g2I at hz
  split at hz
  · cases hz
    obtain ⟨v, w, rfl, rv, rw'⟩ := rp.two
    exact ⟨_, _, by rw [rv.int, rw'.int], k.int⟩
  · cases hz
def gMax2 := g2I fun i j => if j > i then j else i
def gMin2 := g2I fun i j => if j < i then j else i
theorem cg_max2 : CallG X (fun xs H Q => ∃ i j, xs = [.int i, .int j] ∧ Q (.int (if j > i then j else i)) H) gMax2 := cg_2I
theorem cg_min2 : CallG X (fun xs H Q => ∃ i j, xs = [.int i, .int j] ∧ Q (.int (if j < i then j else i)) H) gMin2 := cg_2I
def absD : D → Option Val
  | .int i => some (.v (.int (if i < 0 then -i else i)))
  | _ => none
theorem cg_abs : CallG X (fun xs H Q => ∃ i, xs = [.int i] ∧ Q (.int (if i < 0 then -i else i)) H) (g1 absD) := cg1 fun H p x z Q rx hz k => by
  cases p with
  | int i =>
    cases hz
    exact ⟨i, by rw [rx.int], k.int⟩
  | _ => cases hz
/-- the greatest, the least of a list of ints -/
def maxI : List Int → Int
  | [] => 0
  | [x] => x
  | x :: r => max x (maxI r)
def minI : List Int → Int
  | [] => 0
  | [x] => x
  | x :: r => min x (minI r)
theorem maxI_mem : ∀ {ns : List Int}, ns ≠ [] → maxI ns ∈ ns ∧ ∀ y ∈ ns, y ≤ maxI ns
  | [], h => absurd rfl h
  | [x], _ => by simp [maxI]
  | x :: y :: r, _ => by
    obtain ⟨h1, h2⟩ := maxI_mem (ns := y :: r) (List.cons_ne_nil _ _)
    have e : maxI (x :: y :: r) = max x (maxI (y :: r)) := rfl
    rw [e]
    refine ⟨?_, fun z hz => ?_⟩
    · rcases Int.le_total x (maxI (y :: r)) with h | h
      · rw [Int.max_eq_right h]
        exact List.mem_cons_of_mem _ h1
      · rw [Int.max_eq_left h]
        exact List.mem_cons_self
    · rcases List.mem_cons.mp hz with rfl | hz
      · exact Int.le_max_left _ _
      · exact Int.le_trans (h2 z hz) (Int.le_max_right _ _)
theorem minI_mem : ∀ {ns : List Int}, ns ≠ [] → minI ns ∈ ns ∧ ∀ y ∈ ns, minI ns ≤ y
  | [], h => absurd rfl h
  | [x], _ => by simp [minI]
  | x :: y :: r, _ => by
    obtain ⟨h1, h2⟩ := minI_mem (ns := y :: r) (List.cons_ne_nil _ _)
    have e : minI (x :: y :: r) = min x (minI (y :: r)) := rfl
    rw [e]
    refine ⟨?_, fun z hz => ?_⟩
    · rcases Int.le_total x (minI (y :: r)) with h | h
      · rw [Int.min_eq_left h]
        exact List.mem_cons_self
      · rw [Int.min_eq_right h]
        exact List.mem_cons_of_mem _ h1
    · rcases List.mem_cons.mp hz with rfl | hz
      · exact Int.min_le_left _ _
      · exact Int.le_trans (Int.min_le_right _ _) (h2 z hz)
def maxD : D → Option Val
  | .lst ds => match intsOf ds with
    | some (n :: r) => some (.v (.int (maxI (n :: r))))
    | _ => none
  | _ => none
def minD : D → Option Val
  | .lst ds => match intsOf ds with
    | some (n :: r) => some (.v (.int (minI (n :: r))))
    | _ => none
  | _ => none
theorem cg_max : CallG X (rMax X.K) (g1 maxD) := cg1 fun H p x z Q rx hz k => by
  cases p with
  | lst ds =>
    have hz' : (match intsOf ds with
      | some (n :: r) => some (Val.v (.int (maxI (n :: r))))
      | _ => none) = some z := hz
    split at hz'
    · rename_i n r hn
      cases hz'
      obtain ⟨l, xs, rfl, q, rr⟩ := rx.seqL
      rw [intsOf_rep hn rr] at q
      refine ⟨l, n :: r, rfl, q, Nat.succ_pos _, fun m hm hu => ?_⟩
      obtain ⟨h1, h2⟩ := maxI_mem (ns := n :: r) (List.cons_ne_nil _ _)
      have e : m = maxI (n :: r) := Int.le_antisymm (h2 m hm) (hu _ h1)
      rw [e]
      exact k.int
    · cases hz'
  | _ => cases hz
theorem cg_min : CallG X (rMin X.K) (g1 minD) := cg1 fun H p x z Q rx hz k => by
  cases p with
  | lst ds =>
    have hz' : (match intsOf ds with
      | some (n :: r) => some (Val.v (.int (minI (n :: r))))
      | _ => none) = some z := hz
    split at hz'
    · rename_i n r hn
      cases hz'
      obtain ⟨l, xs, rfl, q, rr⟩ := rx.seqL
      rw [intsOf_rep hn rr] at q
      refine ⟨l, n :: r, rfl, q, Nat.succ_pos _, fun m hm hu => ?_⟩
      obtain ⟨h1, h2⟩ := minI_mem (ns := n :: r) (List.cons_ne_nil _ _)
      have e : m = minI (n :: r) := Int.le_antisymm (hu _ h1) (h2 m hm)
      rw [e]
      exact k.int
    · cases hz'
  | _ => cases hz
/-- list(x), tuple(x) -/
def listD : D → Option Val
  | .lst ds => some (.n (.li ds))
  | .tup ds => some (.n (.li ds))
  | _ => none
def tupleD : D → Option Val
  | .lst ds => some (.v (.tup ds))
  | .tup ds => some (.v (.tup ds))
  | _ => none
theorem cg_list : CallG X (fun xs H Q => ∃ p ys, xs = [.ref p] ∧ (SqL X.K H p ys ∨ SqT X.K H p ys) ∧ ∀ l, H l = none → Q (.ref l) (upd H l (.lst ys))) (g1 listD) := cg1 fun H p x z Q rx hz k => by
  cases p with
  | lst ds =>
    cases hz
    obtain ⟨l, xs, rfl, q, r⟩ := rx.seqL
    exact ⟨l, xs, rfl, .inl q, k.new r⟩
  | tup ds =>
    cases hz
    obtain ⟨l, xs, rfl, q, r⟩ := rx.tup
    exact ⟨l, xs, rfl, .inr q, k.new r⟩
  | _ => cases hz
theorem cg_tuple : CallG X (fun xs H Q => ∃ p ys, xs = [.ref p] ∧ ((SqL X.K H p ys ∧ ∀ l, H l = none → Q (.ref l) (upd H l (.tup ys))) ∨ (SqT X.K H p ys ∧ Q (.ref p) H))) (g1 tupleD) := cg1 fun H p x z Q rx hz k => by
  cases p with
  | lst ds =>
    cases hz
    obtain ⟨l, xs, rfl, q, r⟩ := rx.seqL
    exact ⟨l, xs, rfl, .inl ⟨q, k.newT r⟩⟩
  | tup ds =>
    cases hz
    obtain ⟨l, xs, rfl, q, r⟩ := rx.tupS
    exact ⟨l, xs, rfl, .inr ⟨tupQ q, k.old (Rep.tup_mk q r)⟩⟩
  | _ => cases hz
/-- int(x), str(x) -/
def intD : D → Option Val
  | .int i => some (.v (.int i))
  | .bl b => some (.v (.int (if b then 1 else 0)))
  | .str a => match PySem.intText? a with
    | some n => if a.length ≤ 640 then some (.v (.int n)) else none
    | none => none
  | _ => none
def rInt : List V → Hp → VK → Prop := fun xs H Q => ((∃ i, xs = [.int i] ∧ Q (.int i) H) ∨ ∃ k, xs = [.bl k] ∧ Q (.int (if k then 1 else 0)) H) ∨ ∃ a n, xs = [.str a] ∧ PySem.intText? a = some n ∧ a.length ≤ 640 ∧ Q (.int n) H
theorem CallR.or {f : Value} {r r' : List V → Hp → VK → Prop} (h : CallR X f r) (h' : CallR X f r') : CallR X f (fun xs H Q => r xs H Q ∨ r' xs H Q) := by
  intro pins s σ H xs us Q I rv q
  rcases q with q | q
  · exact h pins s σ H xs us Q I rv q
  · exact h' pins s σ H xs us Q I rv q
theorem call_intA : CallR X (.type "int") rInt := CallR.or call_int1 call_int_str
theorem cg_int : CallG X rInt (g1 intD) := cg1 fun H p x z Q rx hz k => by
  cases p with
  | int i =>
    cases hz
    exact .inl (.inl ⟨i, by rw [rx.int], k.int⟩)
  | bl i =>
    cases hz
    exact .inl (.inr ⟨i, by rw [rx.bl], k.int⟩)
  | str a =>
    have hz' : (match PySem.intText? a with
      | some n => if a.length ≤ 640 then some (Val.v (.int n)) else none
      | none => none) = some z := hz
    split at hz'
    · rename_i n hn
      obtain ⟨hl, rfl⟩ := ite_some hz'
      exact .inr ⟨a, n, by rw [rx.str], hn, hl, k.int⟩
    · cases hz'
  | _ => cases hz
def strD : D → Option Val
  | .int i => if i.natAbs.log2 < 1920 then some (.v (.str (toString i))) else none
  | .str a => some (.v (.str a))
  | _ => none
def rStr : List V → Hp → VK → Prop := fun xs H Q => (∃ i, xs = [.int i] ∧ i.natAbs.log2 < 1920 ∧ Q (.str (toString i)) H) ∨ ∃ a, xs = [.str a] ∧ Q (.str a) H
theorem call_strA : CallR X (.type "str") rStr := CallR.or call_str_int (by
  intro pins s σ H xs us Q I r h
  obtain ⟨a, rfl, q⟩ := h
  obtain ⟨u, rfl, t, rfl⟩ := vals1 r
  exact PySem.P.str_of_str ⟨.str a, H, I, ⟨t, rfl⟩, q⟩)
theorem cg_str : CallG X rStr (g1 strD) := cg1 fun H p x z Q rx hz k => by
  cases p with
  | int i =>
    obtain ⟨hl, rfl⟩ := ite_some hz
    exact .inl ⟨i, by rw [rx.int], hl, k.str⟩
  | str a =>
    cases hz
    exact .inr ⟨a, by rw [rx.str], k.str⟩
  | _ => cases hz
/-- repr(x) -/
def rRepr (K : PySem.W.Frag) : List V → Hp → VK → Prop := fun xs H Q => ∃ x d, xs = [x] ∧ Dp K H x d ∧ d.showable = true ∧ d.depth ≤ 64 ∧ d.shown.length ≤ sizeLine ∧ Q (.str d.shown) H
mutual
theorem dp_noDict {K : PySem.W.Frag} {H : Hp} : ∀ (d : PyData) {v : V}, Dp K H v d → d.hasDict = false
  | .none, _, _ => by simp only [PyData.hasDict]
  | .bool _, _, _ => by simp only [PyData.hasDict]
  | .int _, _, _ => by simp only [PyData.hasDict]
  | .str _, _, _ => by simp only [PyData.hasDict]
  | .list ds, _, h => by
    cases h with
    | lst hs ha =>
      simp only [PyData.hasDict]
      exact dp_noDicts ds ha
  | .tuple ds, _, h => by
    cases h with
    | tup hs ha =>
      simp only [PyData.hasDict]
      exact dp_noDicts ds ha
  | .dict _, _, h => by cases h
theorem dp_noDicts {K : PySem.W.Frag} {H : Hp} : ∀ (ds : List PyData) {vs : List V}, DpAll K H vs ds → PyData.hasDictAll ds = false
  | [], _, _ => by simp only [PyData.hasDictAll]
  | d :: ds, _, h => by
    cases h with
    | cons h1 h2 =>
      simp only [PyData.hasDictAll]
      rw [dp_noDict d h1, dp_noDicts ds h2]
      rfl
end
theorem call_reprA (hgd : X.A.guards = some []) (hu : X.A.units + 65 < cLine) : CallR X (.builtin "repr") (rRepr X.K) := by
  intro pins s σ H xs us Q I r h
  obtain ⟨x, d, rfl, hd, h1, h2, h3, q⟩ := h
  obtain ⟨u, rfl, rx⟩ := vals1 r
  have nd := dp_noDict _ hd
  cases hd with
  | non =>
    cases rx
    exact PySem.P.repr_of_none ⟨.str _, H, I.tok _, ⟨_, rfl⟩, q⟩
  | bl b =>
    cases rx
    refine PySem.P.repr_of_bool ⟨.str _, H, I.tok _, ⟨_, rfl⟩, ?_⟩
    simp only [PyData.shown] at q
    cases b <;> exact q
  | int i =>
    obtain ⟨t, rfl⟩ := rx
    refine PySem.P.repr_of_int (by simpa [PyData.showable] using h1) ⟨.str _, H, I.tok _, ⟨_, rfl⟩, ?_⟩
    simp only [PyData.shown] at q
    exact q
  | str y =>
    obtain ⟨t, rfl⟩ := rx
    refine PySem.P.repr_of_str ⟨.str _, H, I.tok _, ⟨_, rfl⟩, ?_⟩ (by simpa only [PyData.shown] using h3)
    simp only [PyData.shown] at q
    exact q
  | @lst a xs ds hs ha =>
    obtain ⟨as, rd⟩ := Dp.reads I _ _ u (.lst hs ha) rx
    cases rx
    exact repr_of_reads' rd h1 (fun z => by rw [nd] at z; cases z) hgd (by omega) (fun _ _ q => q) (fun h' u tk kp => ⟨.str _, H, I.kept kp, ⟨_, rfl⟩, q⟩) h3
  | @tup a xs ds hs ha =>
    obtain ⟨as, rd⟩ := Dp.reads I _ _ u (.tup hs ha) rx
    cases rx
    exact repr_of_reads' rd h1 (fun z => by rw [nd] at z; cases z) hgd (by omega) (fun _ _ q => q) (fun h' u tk kp => ⟨.str _, H, I.kept kp, ⟨_, rfl⟩, q⟩) h3
def reprD : D → Option Val := fun p => match D.py p with
  | some d => if d.showable && decide (d.depth ≤ 64) && decide (d.shown.length ≤ lim) then some (.v (.str d.shown)) else none
  | none => none
theorem cg_repr : CallG X (rRepr X.K) (g1 reprD) := cg1 fun H p x z Q rx hz k => by
  unfold reprD at hz
  split at hz
  · rename_i d hd
    obtain ⟨hc, rfl⟩ := ite_some hz
    rw [Bool.and_eq_true, Bool.and_eq_true, decide_eq_true_eq, decide_eq_true_eq] at hc
    exact ⟨x, d, rfl, rx.dp hd, hc.1.1, hc.1.2, by rw [lim_eq]; exact hc.2, k.str⟩
  · cases hz
end M

namespace M
open PySem PySem.Spec PyProof.Rows L2
variable {X : Cx} {W : WX} {o a b e : Expr} {es : List Expr} {pos apos cpos : Pos} {name : PySem.Str} {T id : String}

/-! ### methods that change a list -/
abbrev ArM := Sto → List Val → Option (List D)
abbrev ArP := RC → Hp → List D → List V → Prop
def ArOk (ar : ArM) (A : ArP) : Prop := ∀ (c : RC) (α : List Addr) (H : Hp) (S : Sto) (xs : List Val) (vs : List V) (ps : List D), RelS c α H S → RepAs c α H xs vs → ar S xs = some ps → A c H ps vs
/-- arguments that are kept: data; that are read: anything -/
def arK : ArM := fun _ xs => dats xs
theorem arK_ok : ArOk arK Reps := fun c α H S xs vs ps s r h => dats_rep r h
theorem arR_ok : ArOk pks RepPs := fun c α H S xs vs ps s r h => pks_rep s r h
def MutG (X : Cx) (A : ArP) (r : V → List V → Hp → VK → Prop) (h : List D → List D → Option (List D × D)) : Prop :=
  ∀ (H : Hp) (l : Addr) (xs : List V) (ds ps : List D) (vs : List V) (ds' : List D) (d : D) (Q : VK), H l = some (.lst xs) → Reps (rc X) H ds xs → A (rc X) H ps vs → h ds ps = some (ds', d) →
    (∀ xs' v, Reps (rc X) H ds' xs' → Rep (rc X) H d v → Q v (upd H l (.lst xs'))) → r (.ref l) vs H Q
def mMut (ar : ArM) (h : List D → List D → Option (List D × D)) (f : VM) (fs : AM) : VM := fun ρ S => (f ρ S).bind fun x S1 => match x with
  | .l n => (match liAt S1 n with
    | some _ => (fs ρ S1).bind fun ys S2 => (match liAt S2 n with
      | some ds => (match ar S2 ys with
        | some ps => (match h ds ps with
          | some (ds', d) => .ok (.v d) (S2.set n (some (.li ds')))
          | none => .bad)
        | none => .bad)
      | _ => .bad)
    | _ => .bad)
  | _ => .bad
theorem RelS.putO {c : RC} {α : List Addr} {H : Hp} {S : Sto} {n : Nat} {a : Addr} {u u' : HO} {o' : Ob} (s : RelS c α H S) (ea : α[n]? = some a) (eh : H a = some u) (fu : FrU u) (r : RepO c (upd H a u') o' a) : RelS c α (upd H a u') (S.set n (some o')) := by
  have le : LeH H (upd H a u') := fun b => ⟨fun ys q => by
    rw [upd_ne (fun z => by
      rw [z, eh] at q
      cases q
      exact fu)]
    exact q, fun o' w q => by
    rw [upd_ne (fun z => by
      rw [z, eh] at q
      cases q
      exact fu)]
    exact q⟩
  have hn : n < S.length := by rw [← s.len]; exact (List.getElem?_eq_some_iff.mp ea).1
  refine ⟨by simp [s.len], s.nd, fun b hb => ?_, fun m es e => ?_⟩
  · by_cases hba : b = a
    · subst hba
      rw [upd_same]
      simp
    · rw [upd_ne hba]
      exact s.tr b hb
  · by_cases hm : n = m
    · subst hm
      rw [List.getElem?_set_self hn] at e
      cases e
      exact ⟨a, ea, r⟩
    · rw [List.getElem?_set_ne hm] at e
      obtain ⟨b, e1, r2⟩ := s.at_ m es e
      have hba : b ≠ a := fun z => by
        subst z
        exact hm (nodup_at s.nd ea e1)
      exact ⟨b, e1, r2.mono le fun u q => by rw [upd_ne hba]; exact q⟩
theorem RelS.put {c : RC} {α : List Addr} {H : Hp} {S : Sto} {n : Nat} {a : Addr} {xs xs' : List V} {ds' : List D} (s : RelS c α H S) (ea : α[n]? = some a) (eh : H a = some (.lst xs)) (r : Reps c H ds' xs') : RelS c α (upd H a (.lst xs')) (S.set n (some (.li ds'))) :=
  s.putO ea eh trivial ⟨xs', upd_same, r.mono (fun b => ⟨fun ys q => by rw [upd_ne (fun z => by rw [z, eh] at q; cases q)]; exact q, fun u w q => by rw [upd_ne (fun z => by rw [z, eh] at q; cases q)]; exact q⟩)⟩
theorem Ext.put {α α' : List Addr} {H H' : Hp} {a : Addr} {xs xs' : List V} (x : Ext α α' H H') (ha : a ∈ α') (eh : H' a = some (.lst xs)) : Ext α α' H (upd H' a (.lst xs')) := by
  refine ⟨x.pre, fun b u q nb => ?_, x.nw, x.le.trans fun b => ⟨fun ys q => by rw [upd_ne (fun z => by rw [z, eh] at q; cases q)]; exact q, fun u w q => by rw [upd_ne (fun z => by rw [z, eh] at q; cases q)]; exact q⟩⟩
  have hba : b ≠ a := fun z => by
    subst z
    have := x.nw b ha nb
    rw [q] at this
    cases this
  rw [upd_ne hba]
  exact x.fr b u q nb
theorem LeH.put {H : Hp} {a : Addr} {xs xs' : List V} (eh : H a = some (.lst xs)) : LeH H (upd H a (.lst xs')) := fun b => ⟨fun ys q => by rw [upd_ne (fun z => by rw [z, eh] at q; cases q)]; exact q, fun u w q => by rw [upd_ne (fun z => by rw [z, eh] at q; cases q)]; exact q⟩
theorem mut_of {ar : ArM} {A : ArP} (hA : ArOk ar A) {r : V → List V → Hp → VK → Prop} {h : List D → List D → Option (List D × D)} (hg : MutG X A r h) {f : VM} {fs : AM} {σ : L2.St} {H : Hp} {Q : VK} (q : tV (rc X) W (mMut ar h f fs) σ H Q) :
    tV (rc X) W f σ H fun x H1 => tyV X.K "list" x H1 ∧ tA (rc X) W fs σ H1 fun xs H2 => r x xs H2 Q := by
  obtain ⟨α, ρ, S, hE, hS, q⟩ := q
  refine ⟨α, ρ, S, hE, hS, ?_⟩
  refine wpR_mono (wpR_bind q) (fun x S1 h1 v H1 α1 x1 s1 r1 f1 => ?_) fun _ _ z => z
  cases x with
  | v d => exact h1.elim
  | n ds => exact h1.elim
  | l n =>
    dsimp only at h1
    cases hn : liAt S1 n with
    | none => rw [hn] at h1; exact h1.elim
    | some ds0 =>
      match () with
      | () =>
        rw [hn] at h1
        dsimp only at h1
        obtain ⟨l, el, rfl⟩ := r1
        obtain ⟨l', xs0, el', eh, _⟩ := s1.li n ds0 hn
        rw [el] at el'
        cases el'
        refine ⟨.inl ⟨rfl, xs0, .inl (.inl eh)⟩, α1, ρ, S1, hE.mono x1, s1, ?_⟩
        refine wpR_mono (wpR_bind h1) (fun ys S2 h2 vs H2 α2 x2 s2 r2 => ?_) fun _ _ z => z.mono x1
        cases hn2 : liAt S2 n with
        | none => rw [hn2] at h2; exact h2.elim
        | some ds =>
          match () with
          | () =>
            rw [hn2] at h2
            dsimp only at h2
            cases hp : ar S2 ys with
            | none => rw [hp] at h2; exact h2.elim
            | some ps =>
              rw [hp] at h2
              dsimp only at h2
              cases hh : h ds ps with
              | none => rw [hh] at h2; exact h2.elim
              | some dd =>
                obtain ⟨ds', d⟩ := dd
                rw [hh] at h2
                obtain ⟨l2, xs, el2, eh2, rr⟩ := s2.li n ds hn2
                have el3 := pre_get x2.pre el
                rw [el3] at el2
                cases el2
                refine hg H2 l xs ds ps vs ds' d Q eh2 rr (hA _ _ _ _ _ _ _ s2 r2 hp) hh fun xs' w rr' rw' => ?_
                exact h2 w _ α2 ((x1.trans x2).put (List.mem_of_getElem? el3) eh2) (s2.put el3 eh2 rr') (rw'.mono (LeH.put eh2)) trivial
theorem sv_mut {ar : ArM} {A : ArP} (hA : ArOk ar A) {r : V → List V → Hp → VK → Prop} {h : List D → List D → Option (List D × D)} {f : VM} {fs : AM} (hg : MutG X A r h) (p : PE X e (tBM X.K "list" r (tV (rc X) W f) (tA (rc X) W fs))) : SV X W e (mMut ar h f fs) := PE.imp p fun σ H Q q => mut_of hA hg q
theorem sv_mut0 {ar : ArM} {A : ArP} (hA : ArOk ar A) {r : V → List V → Hp → VK → Prop} {h : List D → List D → Option (List D × D)} {f : VM} (hg : MutG X A r h) (p : PE X e (tBM0 X.K "list" r (tV (rc X) W f))) : SV X W e (mMut ar h f mNil) := PE.imp p fun σ H Q q => by
  obtain ⟨α, ρ, S, hE, hS, q⟩ := mut_of hA hg q
  refine ⟨α, ρ, S, hE, hS, wpR_mono q (fun x S1 k v H1 α1 x1 s1 r1 f1 => ?_) fun _ _ z => z⟩
  obtain ⟨ty, α2, ρ2, S2, e2, s2, q2⟩ := k v H1 α1 x1 s1 r1 f1
  exact ⟨ty, q2 [] H1 α2 (.refl _ _) s2 .nil⟩
def hApp : List D → List D → Option (List D × D) := fun ds ps => match ps with
  | [d] => if ds.length < lim then some (ds ++ [d], .non) else none
  | _ => none
theorem Reps.one_of {c : RC} {H : Hp} {p : D} {vs : List V} (r : Reps c H [p] vs) : ∃ v, vs = [v] ∧ Rep c H p v := by
  simp only [Reps] at r
  obtain ⟨v, t, rfl, h, rfl⟩ := r
  exact ⟨v, rfl, h⟩
theorem Reps.two_of {c : RC} {H : Hp} {p q : D} {vs : List V} (r : Reps c H [p, q] vs) : ∃ v w, vs = [v, w] ∧ Rep c H p v ∧ Rep c H q w := by
  simp only [Reps] at r
  obtain ⟨v, t, rfl, h, w, t', rfl, h', rfl⟩ := r
  exact ⟨v, w, rfl, h, h'⟩
theorem rep_non {c : RC} {H : Hp} : Rep c H .non .non := by simp only [Rep]
theorem mg_app : MutG X Reps rAppend hApp := by
  intro H l xs ds ps vs ds' d Q eh r rp hh k
  unfold hApp at hh
  split at hh
  · rename_i p
    by_cases hl : ds.length < lim
    · rw [if_pos hl] at hh
      cases hh
      obtain ⟨v, rfl, rv⟩ := rp.one_of
      exact ⟨l, xs, v, rfl, rfl, eh, by rw [← r.length, lim_eq]; exact hl, k _ _ (r.append (.one rv)) rep_non⟩
    · rw [if_neg hl] at hh
      cases hh
  · cases hh
theorem Reps.dropLast {c : RC} {H : Hp} {ds : List D} {xs : List V} (r : Reps c H ds xs) : Reps c H ds.dropLast xs.dropLast := by
  rw [List.dropLast_eq_take, List.dropLast_eq_take, ← r.length]
  exact r.take _
def hPop : List D → List D → Option (List D × D) := fun ds ps => match ps with
  | [] => (ds[ds.length - 1]?).map fun d => (ds.dropLast, d)
  | _ => none
theorem mg_pop : MutG X Reps rPop hPop := by
  intro H l xs ds ps vs ds' d Q eh r rp hh k
  unfold hPop at hh
  split at hh
  · obtain ⟨y, hy, e⟩ := map_some hh
    cases e
    obtain ⟨v, ev, rv⟩ := r.get hy
    rw [r.length] at ev
    exact ⟨l, xs, v, rfl, rp.nil_of, eh, ev, k _ _ r.dropLast rv⟩
  · cases hh
def hRev : List D → List D → Option (List D × D) := fun ds ps => match ps with
  | [] => some (ds.reverse, .non)
  | _ => none
theorem mg_rev : MutG X Reps rReverse hRev := by
  intro H l xs ds ps vs ds' d Q eh r rp hh k
  unfold hRev at hh
  split at hh
  · cases hh
    exact ⟨l, xs, rfl, rp.nil_of, eh, k _ _ r.reverse rep_non⟩
  · cases hh
/-- extend by a list that is read -/
def rExtS : V → List V → Hp → VK → Prop := fun x vs H Q => ∃ l b xs zs, x = .ref l ∧ vs = [.ref b] ∧ H l = some (.lst xs) ∧ Rd H b (.lst zs) ∧ xs.length + zs.length ≤ sizeLine ∧ Q .non (upd H l (.lst (xs ++ zs)))
theorem mt_extS : MtR X "list.extend" rExtS := by
  intro pins s σ H x vs v us Q I rx rv h
  obtain ⟨l, b, xs, zs, rfl, rfl, hH, hB, hz, q⟩ := h
  cases rx
  obtain ⟨u, rfl, ru⟩ := vals1 rv
  cases ru
  obtain ⟨z, its, n, r, e⟩ := rd_at I (.inl hH)
  obtain ⟨z2, its2, n2, r2, e2⟩ := rd_at I hB
  have l1 := r.length
  have l2 := r2.length
  have hsz : its.toArray.size + its2.toArray.size ≤ sizeLine := by rw [List.size_toArray, List.size_toArray]; omega
  have hlong : ¬ (!its.toArray.isEmpty && Builtin.List.listTooLong (its.toArray.size + its2.toArray.size)) = true := by
    rw [notLongL hsz, Bool.and_false]
    exact Bool.false_ne_true
  refine call_meets F.slot_list_extend ⟨_, e, rfl⟩ F.entry_list_extend (F.args_list_extend_2 _ _) (AutoSeq1.list_extend_list_list_0 l its.toArray n b its2.toArray n2 hlong (by rw [List.size_toArray]; omega) (by omega)) ⟨e, e2, ?_⟩
  exact ⟨.non, _, I.lset (its' := its ++ its2) hH e (by simp) (r.append r2) (by rw [List.length_append]; exact hz), rfl, q⟩
def hExt : List D → List D → Option (List D × D) := fun ds ps => match ps with
  | [.lst es] => if ds.length + es.length ≤ lim then some (ds ++ es, .non) else none
  | _ => none
theorem mg_ext : MutG X RepPs rExtS hExt := by
  intro H l xs ds ps vs ds' d Q eh r rp hh k
  unfold hExt at hh
  split at hh
  · rename_i es
    by_cases hl : ds.length + es.length ≤ lim
    · rw [if_pos hl] at hh
      cases hh
      obtain ⟨v, rfl, b, zs, rfl, rd, r2⟩ := rp.one
      exact ⟨l, b, xs, zs, rfl, rfl, eh, rd, by rw [← r.length, ← r2.length, lim_eq]; exact hl, k _ _ (r.append r2) rep_non⟩
    · rw [if_neg hl] at hh
      cases hh
  · cases hh

/-! ### methods of a text -/
abbrev SFn := PySem.Str → List D → Option Val
def StrG (X : Cx) (r : V → List V → Hp → VK → Prop) (g : SFn) : Prop := ∀ (H : Hp) (z : PySem.Str) (ps : List D) (vs : List V) (y : Val) (Q : VK), RepPs (rc X) H ps vs → g z ps = some y → okZ (rc X) Q H y → r (.str z) vs H Q
def mStr (g : SFn) (f : VM) (fs : AM) : VM := fun ρ S => (f ρ S).bind fun x S1 => match x with
  | .v (.str z) => (fs ρ S1).bind fun ys S2 => apN (g z) S2 ys
  | _ => .bad
theorem str_of {r : V → List V → Hp → VK → Prop} {g : SFn} {f : VM} {fs : AM} (hg : StrG X r g) {σ : L2.St} {H : Hp} {Q : VK} (q : tV (rc X) W (mStr g f fs) σ H Q) :
    tV (rc X) W f σ H fun x H1 => tyV X.K "str" x H1 ∧ tA (rc X) W fs σ H1 fun xs H2 => r x xs H2 Q := by
  obtain ⟨α, ρ, S, hE, hS, q⟩ := q
  refine ⟨α, ρ, S, hE, hS, ?_⟩
  refine wpR_mono (wpR_bind q) (fun x S1 h1 v H1 α1 x1 s1 r1 f1 => ?_) fun _ _ z => z
  split at h1
  · rename_i z
    have ev : v = .str z := by simpa only [RepX, Rep] using r1
    subst ev
    refine ⟨rfl, α1, ρ, S1, hE.mono x1, s1, ?_⟩
    refine wpR_mono (wpR_bind h1) (fun ys S2 h2 vs H2 α2 x2 s2 r2 => ?_) fun _ _ z => z.mono x1
    exact apN_ok (r := fun vs H Q => r (.str z) vs H Q) (fun H ps xs y Q rp hz k => hg H z ps xs y Q rp hz k) s2 r2 (wpR_mono h2 (fun z S' k => k.mono (x1.trans x2)) fun _ _ z => z)
  · exact h1.elim
theorem sv_str1 {r : V → List V → Hp → VK → Prop} {g : SFn} {f : VM} {fs : AM} (hg : StrG X r g) (p : PE X e (tBM X.K "str" r (tV (rc X) W f) (tA (rc X) W fs))) : SV X W e (mStr g f fs) := PE.imp p fun σ H Q q => str_of hg q
theorem sv_str0 {r : V → List V → Hp → VK → Prop} {g : SFn} {f : VM} (hg : StrG X r g) (p : PE X e (tBM0 X.K "str" r (tV (rc X) W f))) : SV X W e (mStr g f mNil) := PE.imp p fun σ H Q q => by
  obtain ⟨α, ρ, S, hE, hS, q⟩ := str_of hg q
  refine ⟨α, ρ, S, hE, hS, wpR_mono q (fun x S1 k v H1 α1 x1 s1 r1 f1 => ?_) fun _ _ z => z⟩
  obtain ⟨ty, α2, ρ2, S2, e2, s2, q2⟩ := k v H1 α1 x1 s1 r1 f1
  exact ⟨ty, q2 [] H1 α2 (.refl _ _) s2 .nil⟩
/-- sep.join(texts) -/
def gJoin : SFn := fun a ps => match ps with
  | [.lst es] => match strsOf es with
    | some ys => if (ys.map (·.length)).sum + ys.length * a.length ≤ lim then some (.v (.str (Txt.join a ys))) else none
    | none => none
  | _ => none
def rJoinS (K : PySem.W.Frag) : V → List V → Hp → VK → Prop := fun x xs H Q => ∃ a p, ∃ ys : List PySem.Str, x = .str a ∧ xs = [.ref p] ∧ (SqL K H p (ys.map V.str) ∨ SqT K H p (ys.map V.str)) ∧ (ys.map (·.length)).sum + ys.length * a.length ≤ 16777216 ∧ Q (.str (Txt.join a ys)) H
theorem sg_join : StrG X (rJoinS X.K) gJoin := by
  intro H z ps vs y Q rp hz k
  unfold gJoin at hz
  split at hz
  · rename_i es
    split at hz
    · rename_i ys hs
      obtain ⟨hl, rfl⟩ := ite_some hz
      obtain ⟨v, rfl, p, xs, rfl, rd, r⟩ := rp.one
      rw [strsOf_rep hs r] at rd
      exact ⟨z, p, ys, rfl, rfl, .inl (.inl rd), hl, k.str⟩
    · cases hz
  · cases hz
/-- s.split(sep) -/
def gSplit : SFn := fun a ps => match ps with
  | [.str b] => if (b.length == 0) = false ∧ a.length + 2 ≤ lim then some (.n (.li ((Txt.split a b).map D.str))) else none
  | _ => none
def rSplitS : V → List V → Hp → VK → Prop := fun x xs H Q => ∃ a b, x = .str a ∧ xs = [.str b] ∧ (b.length == 0) = false ∧ a.length + 2 ≤ sizeLine ∧ rNewStrs (Txt.split a b) H Q
theorem Reps.strs {c : RC} {H : Hp} : ∀ ns : List PySem.Str, Reps c H (ns.map D.str) (ns.map V.str)
  | [] => .nil
  | n :: r => .cons (by simp only [Rep]) (Reps.strs r)
theorem sg_split : StrG X rSplitS gSplit := by
  intro H z ps vs y Q rp hz k
  unfold gSplit at hz
  split at hz
  · rename_i b
    obtain ⟨⟨h1, h2⟩, rfl⟩ := ite_some hz
    obtain ⟨v, rfl, rv⟩ := rp.one
    exact ⟨z, b, rfl, by rw [rv.str], h1, by rw [lim_eq]; exact h2, k.new (.strs _)⟩
  · cases hz
/-- n.bit_length() -/
def bitsD : D → Option Val
  | .int i => some (.v (.int (Builtin.Int.intBits i : Nat)))
  | _ => none
theorem sv_bits {f : VM} (p : PE X e (tBits (tV (rc X) W f))) : SV X W e (mUn bitsD f) := PE.imp p fun σ H Q q => one_ (r := fun x H Q => ∃ i, x = .int i ∧ Q (.int (Builtin.Int.intBits i : Nat)) H) (fun H p x z Q rx hz k => by
  cases p with
  | int i =>
    cases hz
    exact ⟨i, rx.int, k.int⟩
  | _ => cases hz) q

/-! ### isinstance(x, T) -/
def tyD : D → Option String
  | .non => some "NoneType"
  | .bl _ => some "bool"
  | .int _ => some "int"
  | .str _ => some "str"
  | .tup _ => some "tuple"
  | .lst _ => some "list"
  | .fn _ => none
  | .kl _ => some "list"
  | .raw _ => none
  | .fdk _ _ => none
  | .fdt _ _ => none
def isiD (T : String) : D → Option Val := fun p => (tyD p).bind fun t => (kitB t T).map fun b => .v (.bl b)
theorem tyD_rep {H : Hp} {p : D} {x : V} {t : String} (r : RepP (rc X) H p x) (h : tyD p = some t) : TyX X.K H x (.type t) := by
  cases p with
  | non => cases h; rw [r.non]; exact .base .non
  | bl b => cases h; rw [r.bl]; exact .base (.bl b)
  | int b => cases h; rw [r.int]; exact .base (.int b)
  | str b => cases h; rw [r.str]; exact .base (.str b)
  | tup ds =>
    cases h
    obtain ⟨a, xs, rfl, q, _⟩ := r.tup
    rcases q with (q | ⟨o, q⟩) | ⟨o, its, n, q, qc, _⟩
    · exact .base (.tup q)
    · exact .fTuple q
    · exact .kTuple q qc
  | lst ds =>
    cases h
    obtain ⟨a, xs, rfl, q, _⟩ := r
    rcases q with q | ⟨o, q⟩
    · exact .base (.lst q)
    · exact .base (.frz q)
  | fn n => cases h
  | kl ds =>
    cases h
    have r' : Rep (rc X) H (.kl ds) x := r
    simp only [Rep] at r'
    obtain ⟨a, xs, rfl, q, _⟩ := r'
    rcases q with ⟨o, q⟩ | ⟨o, its, n, q, qc, _⟩
    · exact .base (.frz q)
    · exact .kList q qc
  | raw a => cases h
  | fdk _ _ => cases h
  | fdt _ _ => cases h
theorem sv_isi {T : String} {f : VM} (p : PE X e (tCB (rIsi X.K) (tCons (tV (rc X) W f) (tCons (tC (.ty T)) tNil)))) : SV X W e (mUn (isiD T) f) := PE.imp p fun σ H Q q => one_ (r := fun x H Q => rIsi X.K [x, .ty T] H Q) (fun H p x z Q rx hz k => by
  unfold isiD at hz
  cases ht : tyD p with
  | none => rw [ht] at hz; cases hz
  | some t =>
    rw [ht] at hz
    obtain ⟨b, hb, rfl⟩ := map_some hz
    exact ⟨x, .ty T, .type t, .type T, b, rfl, .ty T, tyD_rep rx ht, kit_ty hb, k.bl⟩) q

/-! ### sorted(a list of ints) -/
def sortI (ns : List Int) : List Int := ns.mergeSort fun a b => decide (a ≤ b)
theorem sortI_perm (ns : List Int) : (sortI ns).Perm ns := List.mergeSort_perm _ _
theorem sortI_le (ns : List Int) : (sortI ns).Pairwise (· ≤ ·) := by
  have := List.pairwise_mergeSort (le := fun a b : Int => decide (a ≤ b)) (fun a b c h1 h2 => by
    rw [decide_eq_true_eq] at *
    omega) (fun a b => by
    rw [Bool.or_eq_true, decide_eq_true_eq, decide_eq_true_eq]
    omega) ns
  exact this.imp fun h => by simpa using h
theorem sorted_eq {as bs : List Int} (p : as.Perm bs) (h1 : as.Pairwise (· ≤ ·)) (h2 : bs.Pairwise (· ≤ ·)) : as = bs :=
  p.eq_of_pairwise (fun a b _ _ x y => Int.le_antisymm x y) h1 h2
def sortD : D → Option Val
  | .lst ds => (intsOf ds).map fun ns => .n (.li ((sortI ns).map D.int))
  | _ => none
theorem cg_sorted : CallG X (rSortedI X.K) (g1 sortD) := cg1 fun H p x z Q rx hz k => by
  cases p with
  | lst ds =>
    obtain ⟨ns, hn, rfl⟩ := map_some hz
    obtain ⟨l, xs, rfl, q, r⟩ := rx.seqL
    rw [intsOf_rep hn r] at q
    refine ⟨l, ns, rfl, q, fun ns' p hp hs hn => ?_⟩
    have e : ns' = sortI ns := sorted_eq (hp.trans (sortI_perm ns).symm) hs (sortI_le ns)
    rw [e]
    exact k.new (.ints _) p hn
  | _ => cases hz

/-! ### raise -/
def sRaise (cls : PySem.Str) : SM := fun ρ S => .er ⟨cls, none⟩ ρ S
theorem ss_raise {st : Stmt} {x : PySem.Str} {C : Addr} (hC : X.mg x = some (.ref C)) (p : PS X st (fun _ σ H => W (.ref C) none σ H)) : SS X W st (sRaise x) :=
  PS.imp p fun D σ H ⟨α, ρ, S, hE, hS, q⟩ => q (.ref C) none σ H α (.refl _ _) hE hS ⟨C, hC, rfl, rfl⟩
end M

namespace M
open PySem PySem.Spec PyProof.Rows L2

/-! ### list.count, list.index of data -/
section
variable {X : Cx} {W : WX} {e : Expr}
def rCntD (K : PySem.W.Frag) : V → List V → Hp → VK → Prop := fun x xs H Q => ∃ (a : Addr) (y : V) (d : PyData) (ds : List PyData), x = V.ref a ∧ xs = [y] ∧ Dp K H (V.ref a) (.list ds) ∧ Dp K H y d ∧ SeqAt.shaped (.list ds) = true ∧ SeqAt.shaped d = true ∧
  Q (.int (ds.countP fun z => PyData.eqv z d : Nat)) H
theorem mt_countD (hu : X.A.units + 65 < cLine) : MtR X "list.count" (rCntD X.K) := by
  intro pins s σ H x xs v us Q I rx rxs h
  obtain ⟨a, y, d, ds, rfl, rfl, hl, hy, sl, sd, q⟩ := h
  cases rx
  obtain ⟨uy, rfl, ry⟩ := vals1 rxs
  obtain ⟨bs, r1⟩ := Dp.reads I d y uy hy ry
  have lay : PyData.canLayAll0 ds = true := SeqAt.canLay_of_shaped sl
  have room : X.A.units + 1 + min (PyData.depthAll ds) d.depth < cLine := by
    have h1 := SeqAt.depth_of_shaped sd
    have h2 : min (PyData.depthAll ds) d.depth ≤ d.depth := Nat.min_le_right _ _
    omega
  cases hl with
  | lst hs ha =>
    obtain ⟨its, rv, ⟨⟨cls, dd, data, sls⟩, n, ho, hc, hdn, hdt⟩, hlen⟩ := I.list hs
    simp only at hc hdt
    subst hc hdt
    obtain ⟨as, h4⟩ := Dp.readsAll I ds _ its ha rv
    have back : its.map (SeqAt.readOf s.heap) = ds := SeqAt.readsAll_map ds its as lay h4
    refine call_meets PySem.F.slot_list_count ⟨_, ho, rfl⟩ PySem.F.entry_list_count (PySem.F.args_list_count_2 _ _)
      (SeqAt.list_countAt a its.toArray n dd sls uy (fun u => PyData.eqv (SeqAt.readOf s.heap u) d)) ⟨ho, SeqAt.items_eqAt (vs := its.toArray) (show ReadsAll s.heap its.toArray.toList ds as from h4) r1 lay (SeqAt.canLay_of_shaped sd) room, ?_⟩
    refine ⟨.int _, H, I.tok _, ⟨s.toks, ?_⟩, q⟩
    have e : its.toArray.toList.countP (fun u => PyData.eqv (SeqAt.readOf s.heap u) d) = ds.countP fun z => PyData.eqv z d := by
      rw [← back, List.countP_map]
      rfl
    rw [e]
/-- methods of a list that read -/
def LstG (X : Cx) (r : V → List V → Hp → VK → Prop) (g : List D → List D → Option Val) : Prop := ∀ (H : Hp) (ds ps : List D) (x : V) (vs : List V) (y : Val) (Q : VK), RepP (rc X) H (.lst ds) x → RepPs (rc X) H ps vs → g ds ps = some y → okZ (rc X) Q H y → r x vs H Q
def mLm (g : List D → List D → Option Val) (f : VM) (fs : AM) : VM := fun ρ S => (f ρ S).bind fun x S1 => match pk S1 x with
  | some (.lst _) => (fs ρ S1).bind fun ys S2 => (match pk S2 x with
    | some (.lst ds) => apN (g ds) S2 ys
    | _ => .bad)
  | _ => .bad
theorem sv_lm {r : V → List V → Hp → VK → Prop} {g : List D → List D → Option Val} {f : VM} {fs : AM} (hg : LstG X r g) (p : PE X e (tBM X.K "list" r (tV (rc X) W f) (tA (rc X) W fs))) : SV X W e (mLm g f fs) := by
  refine PE.imp p fun σ H Q ⟨α, ρ, S, hE, hS, q⟩ => ⟨α, ρ, S, hE, hS, ?_⟩
  refine wpR_mono (wpR_bind q) (fun x S1 h1 v H1 α1 x1 s1 r1 f1 => ?_) fun _ _ z => z
  split at h1
  · rename_i ds0 hp
    obtain ⟨l, xs, rfl, sq, _⟩ := (pk_rep s1 r1 hp).seqL
    refine ⟨.inl ⟨rfl, xs, sq⟩, α1, ρ, S1, hE.mono x1, s1, ?_⟩
    refine wpR_mono (wpR_bind h1) (fun ys S2 h2 vs H2 α2 x2 s2 r2 => ?_) fun _ _ z => z.mono x1
    split at h2
    · rename_i ds hp2
      have rp := pk_rep s2 (r1.mono x2) hp2
      exact apN_ok (r := fun vs H' Q' => RepP (rc X) H' (.lst ds) (.ref l) → r (.ref l) vs H' Q') (fun H ps xs y Q rps hz k rl => hg H ds ps _ xs y Q rl rps hz k) s2 r2 (wpR_mono h2 (fun z S' k => k.mono (x1.trans x2)) fun _ _ z => z) rp
    · exact h2.elim
  · exact h1.elim
def gCnt : List D → List D → Option Val := fun es ps => match ps with
  | [p] => match D.py p, D.pys es with
    | some d, some ds => if SeqAt.shaped (.list ds) && SeqAt.shaped d then some (.v (.int (ds.countP fun z => PyData.eqv z d : Nat))) else none
    | _, _ => none
  | _ => none
theorem lg_cnt : LstG X (rCntD X.K) gCnt := by
  intro H es ps x vs y Q rx rp hz k
  unfold gCnt at hz
  split at hz
  · rename_i p
    split at hz
    · rename_i d ds hd hds
      obtain ⟨hc, rfl⟩ := ite_some hz
      rw [Bool.and_eq_true] at hc
      obtain ⟨v, rfl, rv⟩ := rp.one
      have dl := rx.dp (p := .list ds) (by simp only [D.py, hds]; rfl)
      obtain ⟨l, xs, rfl, _, _⟩ := rx
      exact ⟨l, v, d, ds, rfl, rfl, dl, rv.dp hd, hc.1, hc.2, k.int⟩
    · cases hz
  · cases hz
/-- the first place of an equal one -/
def idxP (d : PyData) : List PyData → Option Nat
  | [] => none
  | z :: r => if PyData.eqv z d then some 0 else (idxP d r).map (· + 1)
theorem idxP_some {d : PyData} : ∀ {ds : List PyData} {j : Nat}, idxP d ds = some j → ∃ z, ds[j]? = some z ∧ PyData.eqv z d = true ∧ ∀ (m : Nat) (z' : PyData), m < j → ds[m]? = some z' → PyData.eqv z' d = false
  | [], j, h => by cases h
  | z :: r, j, h => by
    unfold idxP at h
    by_cases hz : PyData.eqv z d = true
    · rw [if_pos hz] at h
      cases h
      exact ⟨z, rfl, hz, fun m z' hm => absurd hm (Nat.not_lt_zero _)⟩
    · rw [if_neg hz] at h
      obtain ⟨i, hi, rfl⟩ := map_some h
      obtain ⟨w, h1, h2, h3⟩ := idxP_some hi
      refine ⟨w, by simpa using h1, h2, fun m z' hm hz' => ?_⟩
      cases m with
      | zero =>
        cases hz'
        exact Bool.eq_false_iff.mpr hz
      | succ m => exact h3 m z' (by omega) (by simpa using hz')
def gIdx : List D → List D → Option Val := fun es ps => match ps with
  | [p] => match D.py p, D.pys es with
    | some d, some ds => if SeqAt.shaped (.list ds) && SeqAt.shaped d then (idxP d ds).map fun j => .v (.int (j : Nat)) else none
    | _, _ => none
  | _ => none
theorem lg_idx : LstG X (rIndexD X.K) gIdx := by
  intro H es ps x vs y Q rx rp hz k
  unfold gIdx at hz
  split at hz
  · rename_i p
    split at hz
    · rename_i d ds hd hds
      by_cases hc : (SeqAt.shaped (.list ds) && SeqAt.shaped d) = true
      · rw [if_pos hc] at hz
        rw [Bool.and_eq_true] at hc
        obtain ⟨j, hj, rfl⟩ := map_some hz
        obtain ⟨z, z1, z2, z3⟩ := idxP_some hj
        obtain ⟨v, rfl, rv⟩ := rp.one
        have dl := rx.dp (p := .list ds) (by simp only [D.py, hds]; rfl)
        obtain ⟨l, xs, rfl, _, _⟩ := rx
        exact ⟨l, v, d, ds, j, z, rfl, rfl, dl, rv.dp hd, hc.1, hc.2, z1, z2, z3, k.int⟩
      · rw [if_neg hc] at hz
        cases hz
    · cases hz
  · cases hz
end

/-! ### a def that is called with the exception that is handled -/
/-- a (of the class at C) is the exception that is handled; the def answers with the text r -/
structure FnK (P : Program) (w : World) (K : PySem.W.Frag) (mg : PySem.Str → Option Value) (base : Heap) (k : Nat) (f : Addr) (fd : FuncData) (ps : List PySem.Str) (C : Addr) (r : PySem.Str) : Prop where
  run : ∀ (A : Around) (outer : List Env) (s : Shared) (H : Hp) (args : Args) (us : List Value) (Q : VK) (a : Addr) (oe : Obj), L2H.RoomH k A → L2H.PinOk outer H s (a, oe) → Zc (.ref C) none oe → (∃ vs, oe.data = .fields vs) → Env0 P w K mg base A outer s H → BindsTo s fd args (ps.zip us) → Vals [.ref a] us →
    (∀ H', Same H H' → Q (.str r) H') → codeAny (model P w) A (.call (.ref f) args) (CR CX0 outer P w H s Q E0) s
section
variable {P : Program} {w : World} {K : PySem.W.Frag} {mg : PySem.Str → Option Value} {base : Heap}
/-- isinstance(e, C'), e an exception that is pinned -/
theorem call_isP {X : Cx} {a D' : Addr} {oe : Obj} (C : ExcC X.K D') (hp : (a, oe) ∈ X.pn) (hz : Zc (.ref D') none oe) (hf : ∃ vs, oe.data = .fields vs) : CallR X (.builtin "isinstance") (rIsE X.K D' a) := by
  intro pins s σ H xs us Q I r h
  obtain ⟨c, cv, b, rfl, hcv, e, q⟩ := h
  obtain ⟨u1, u2, rfl, r1, r2⟩ := vals2 r
  cases r1
  obtain rfl := hcv _ r2
  have hget := (I.pin (a, oe) (List.mem_append_left _ hp)).1
  obtain ⟨vs, hv⟩ := hf
  have J : PySem.W.InstAt s.heap a oe D' none := by
    obtain ⟨oc, od, oda, osl⟩ := oe
    obtain ⟨h1, h2⟩ := hz
    dsimp only at h1 h2 hv
    subst h1 h2 hv
    exact ⟨hget, rfl, rfl, trivial⟩
  exact PySem.W.kia_one (PySem.W.handS_kitx_exc C.hg C.hk C.hs C.hd C.ha C.hn C.ht C.hm) I.kIn J e (fun z => nomatch z) fun tk => ⟨.bl b, H, I.kept (t' := tk) fun _ _ z => z, rfl, q⟩
/-- isinstance(name, C'): what is known of it -/
def mIsP (a : Addr) (b : Bool) (f : VM) : VM := fun ρ S => (f ρ S).bind fun x S1 => match x with
  | .v (.raw a') => if a' = a then .ok (.v (.bl b)) S1 else .bad
  | _ => .bad
theorem sv_isP {X : Cx} {W : WX} {e : Expr} {a D' C' : Addr} {b : Bool} {f : VM} (hk : PySem.W.kitOne X.K (.ref D') (.ref C') = some b) (p : PE X e (tCB (rIsE X.K D' a) (tCons (tV (rc X) W f) (tCons (tC (.ref C')) tNil)))) : SV X W e (mIsP a b f) := by
  refine PE.imp p fun σ H Q ⟨α, ρ, S, hE, hS, q⟩ => ⟨α, ρ, S, hE, hS, ?_⟩
  refine wpR_mono (wpR_bind q) (fun x S1 h1 v H1 α1 x1 s1 r1 f1 => ?_) fun _ _ z => z
  split at h1
  · rename_i a'
    by_cases ha : a' = a
    · rw [if_pos ha] at h1
      have ev : v = .ref a' := by simpa only [RepX, Rep] using r1
      subst ev ha
      exact ⟨.ref C', .ref C', b, rfl, fun u r => r, hk, h1 (.bl b) H1 α1 x1 s1 (by simp only [RepX, Rep]) trivial⟩
    · rw [if_neg ha] at h1
      exact h1.elim
  · exact h1.elim
theorem fnK_of {k : Nat} {x qual : PySem.Str} {st : Stmt} {f : Addr} {fd : FuncData} {N : List PySem.Str} {n1 : PySem.Str} {C : Addr} {r : PySem.Str} (body : Addr → SM) (F : Fun K x qual st f fd) (S : FnScope N [n1] (defScope st))
    (hbody : ∀ (cdv : Value) (A : Around) (outer : List Env) (s : Shared) (H : Hp) (a : Addr) (oe : Obj), L2H.RoomH k (A.deeper (envOfC qual (defScope st) s.heap.objs.size f cdv)) → Zc (.ref C) none oe → (∃ vs, oe.data = .fields vs) →
      SSs (L2H.cxH CX0 P w K mg base N qual (defScope st) f cdv A outer s H E0 (a, oe)) W0 (defBody st) (body a))
    (hr : ∀ a, ∃ S1, body a ([some (.v (.raw a))] ++ List.replicate (N.length - 1) none) [] = .rt (.v (.str r)) S1) : FnK P w K mg base (k + 1) f fd [n1] C r := by
  obtain ⟨oc, od, kV, doc, pm, an, cdv, ct, osl, rfl, lk, hcd⟩ := F.ex
  refine ⟨fun A outer s H args us Q a oe hro hpin hz hf e0 hb rel hQ => ?_⟩
  have kin : K.In s.heap := e0.mod.kin.keeps fun b o q => (e0.bs b o q).1
  have nol : s.heap.NoLimit := e0.mod.nolimit.keeps fun b o q => (e0.bs b o q).1
  have slots : ∀ y ∈ [n1].zip us, (defScope st).names.lookup y.1 = some .local ∨ ((defScope st).names.lookup y.1 = some .cell ∧ ((cellsFrom (s.heap.objs.size + 1) (defScope st).names []).lookup y.1).isSome = true) := by
    rintro ⟨n, v⟩ hy
    rcases S.par n (List.of_mem_zip hy).1 with loc | cel
    · exact .inl loc
    · exact .inr ⟨cel, PySem.W.cellsFrom_some _ _ _ (.inl cel)⟩
  refine codeAny_call_function hro.depth (kin _ _ lk) rfl S.co S.gen rfl (PySem.W.codeRec_of kin hcd) (hb _ _ _ _ (wpAny_newFunctionEnv_cells S.kind slots fun env he s1 x => ?_))
  subst he
  have hl : ([V.ref a] : List V).length = [n1].length := rfl
  have I := L2H.inv_startH (CX := CX0) (E := E0) (f := f) (cd := cdv) (qual := qual) S hpin e0 hl rel x
  obtain ⟨S1, hS1⟩ := hr a
  have hN : 1 ≤ N.length := by
    have := congrArg List.length S.pre
    rw [List.length_take] at this
    simp at this
    omega
  have hE : RelE ⟨K, mg⟩ [] H ([some (.v (.raw a))] ++ List.replicate (N.length - 1) none) (L2.start N [.ref a]) :=
    start_rel (xs := [.v (.raw a)]) (.cons (show RepA ⟨K, mg⟩ [] H (.v (.raw a)) (.ref a) from (show Rep ⟨K, mg⟩ H (.raw a) (.ref a) from by simp only [Rep])) .nil) hN
  have hS : RelS ⟨K, mg⟩ [] H [] := ⟨rfl, .nil, fun a h => absurd h (by simp), fun n ds h => by simp at h⟩
  refine ⟨nol.keeps x.toInCall.keep, codeAny_func (wpAny_mono ((hbody cdv A outer s H a oe (hro.deeper _) hz hf).run [] s1 (L2.start N [.ref a]) H { nx := fun _ H' => False, rt := Q } I ⟨[], _, [], hE, hS, ?_⟩) (fun fl s' hs => ?_) fun e s' hs => hs)⟩
  · rw [hS1]
    intro v H' α' xt s2 rv _
    have ev : v = .str r := by simpa only [RepX, Rep] using rv
    subst ev
    exact hQ H' fun b o q => xt.fr b o q (by simp)
  · cases fl with
    | ret u =>
      obtain ⟨v, σ', H', J, rv, q⟩ := hs
      exact ⟨v, H', J.os, J.bare, J.base, J.hok, rv, q⟩
    | next =>
      obtain ⟨σ', H', J, q⟩ := hs
      exact q.elim
    | brk =>
      obtain ⟨_, _, _, q⟩ := hs
      exact q.elim
    | cont =>
      obtain ⟨_, _, _, q⟩ := hs
      exact q.elim
end

/-! ### try: .. except X as e: return kind(e) -/
section
variable {X : Cx} {W : WX}
/-- the call of kind upon the handled exception, by the class of it -/
def tKind (tab : Value → Option PySem.Str) (i : Nat) (a : Addr) (cls : Value) (d : Option Addr) : TE := fun σ H Q => ∃ r, tab cls = some r ∧ d = none ∧ σ[i]? = some (some (.ref a)) ∧ ∀ H', Same H H' → Q (.str r) H'
theorem pe_kind {i : Nat} {a : Addr} {oe : Obj} {cls : Value} {d : Option Addr} {pn : List (Addr × Obj)} {k : Nat} {f : Addr} {fd : FuncData} {ps : List PySem.Str} {x y : PySem.Str} {p p1 pos : Pos} {tab : Value → Option PySem.Str}
    (F : ∀ r, tab cls = some r → ∃ C, cls = .ref C ∧ FnK X.prog X.w X.K X.mg X.base k f fd ps C r) (hr : L2H.RoomH k X.A) (hz : Zc cls d oe) (hf : ∃ vs, oe.data = .fields vs) (hm : X.mg x = some (.ref f)) (hk : PySem.W.keepIn X.K (.ref f) = true) (hb : Binds X.K fd ps []) (hp : ps.length = 1)
    (hv : PE (X.suite a ((a, oe) :: pn)) (.Name y p1) (tVar i)) (hg : Gl (X.suite a ((a, oe) :: pn)) x) (hdb : (x == ("__debug__" : PySem.Str)) = false := by decide)
    (he : starEach [.Name y p1] X.env = (false, eval (.Name y p1) X.env) :: starEach [] X.env := by rfl) (hpl : (backTo pos (starEach [] X.env)).any (·.1) = false := by rfl) :
    PE (X.suite a ((a, oe) :: pn)) (.Call (.Name x p) [.Name y p1] [] pos) (tKind tab i a cls d) := by
  refine ⟨fun pins s σ H Q I h => ?_⟩
  obtain ⟨r, ht, hd, hs, q⟩ := h
  obtain ⟨C, rfl, FK⟩ := F r ht
  subst hd
  have ha : PA (X.suite a ((a, oe) :: pn)) [.Name y p1] (tCons (tVar i) tNil) := pa_cons hv pa_nil he
  refine wpAny_Call_Name_kw (ld_glob I hg hm ?_ hdb)
  refine PySem.W.callWith_K (h₀ := X.base) I.ok.mod.kin hk (thn (ha.run pos pins s σ H (fun vs H1 => vs = [V.ref a] ∧ H1 = H) I ⟨_, hs, rfl, rfl⟩) fun us s1 hh => ?_) he hpl
  obtain ⟨vs, H1, I1, rv, rfl, rfl⟩ := hh
  refine ⟨I1.kIn, ?_⟩
  have P1 := I1.pin (a, oe) (List.mem_append_left _ List.mem_cons_self)
  have hpin : L2H.PinOk (X.suite a ((a, oe) :: pn)).stack H1 s1 (a, oe) := ⟨P1.1, P1.2.1, fun hm => (List.mem_cons.mp (I1.stkSub a hm)).elim P1.2.2.1 P1.2.2.2.1, P1.2.2.2.2⟩
  have hl : us.length = ps.length := by rw [← rv.length, hp]; rfl
  have bs := hb s1 us I1.kIn (by simpa using hl)
  rw [List.append_nil] at bs
  refine wpAny_call (codeAny_mono (FK.run (X.suite a ((a, oe) :: pn)).A (X.suite a ((a, oe) :: pn)).stack s1 H1 ⟨us, []⟩ us Q a oe ⟨hr.dp, hr.un⟩ hpin hz hf I1.env0 bs rv q) fun res s' hq => ?_)
  cases res with
  | error e => exact hq.elim
  | ok fl =>
    cases fl with
    | ret u => exact I1.after hq
    | next => exact hq.elim
    | brk => exact hq.elim
    | cont => exact hq.elim
/-- what kind says, by the class's name; none: not looked at -/
abbrev KTab := List (PySem.Str × PySem.Str)
def sTryK (tab : KTab) (i : Nat) (f : SM) : SM := fun ρ S => match f ρ S with
  | .er e ρ1 S1 => (match e.fld with
    | none => (match tab.lookup e.cls with
      | some r => if i < ρ1.length then .rt (.v (.str r)) S1 else .bad
      | none => .bad)
    | some _ => .bad)
  | r => r
/-- except X as e: if kind(e) != r0: return False -/
def sTryK2 (tab : KTab) (i : Nat) (r0 : PySem.Str) (f : SM) : SM := fun ρ S => match f ρ S with
  | .er e ρ1 S1 => (match e.fld with
    | none => (match tab.lookup e.cls with
      | some r => if i < ρ1.length then (if r = r0 then .nx (ρ1.set i none) S1 else .rt (.v (.bl false)) S1) else .bad
      | none => .bad)
    | some _ => .bad)
  | r => r
structure TabOk (K : PySem.W.Frag) (mg : PySem.Str → Option Value) (c : Value) (tab : KTab) (vt : Value → Option PySem.Str) : Prop where
  ok : ∀ n r C, tab.lookup n = some r → mg n = some (.ref C) → vt (.ref C) = some r ∧ PySem.W.exmOne K (.ref C) c = some true
theorem ss_tryK {st : Stmt} {f : SM} {i : Nat} {c : Value} {tab : KTab} {vt : Value → Option PySem.Str} {Wout : WX} (T : TabOk X.K X.mg c tab vt)
    (h : PS X st (fun D σ H => tS (rc X) (wAs X.K c i (fun a cls d => tRet (tKind vt i a cls d)) Wout D) f D σ H)) : SS X Wout st (sTryK tab i f) := by
  refine PS.imp h fun D σ H ⟨α, ρ, S, hE, hS, q⟩ => ⟨α, ρ, S, hE, hS, ?_⟩
  unfold sTryK at q
  cases hf : f ρ S with
  | nx ρ1 S1 => rw [hf] at q; exact q
  | rt x S1 => rw [hf] at q; exact q
  | bk ρ1 S1 => rw [hf] at q; exact q
  | ct ρ1 S1 => rw [hf] at q; exact q
  | bad => rw [hf] at q; exact q
  | er e ρ1 S1 =>
    rw [hf] at q
    dsimp only at q
    intro cls od σ' H' α' x1 e1 s1 re
    obtain ⟨C, hC, rfl, hfl⟩ := re
    cases hd : e.fld with
    | some fi => rw [hd] at q; exact q.elim
    | none =>
      rw [hd] at q hfl
      dsimp only at q hfl
      subst hfl
      cases ht : tab.lookup e.cls with
      | none => rw [ht] at q; exact q.elim
      | some r =>
        rw [ht] at q
        dsimp only at q
        by_cases hi : i < ρ1.length
        · rw [if_pos hi] at q
          obtain ⟨t1, t2⟩ := T.ok _ _ _ ht hC
          refine ⟨true, t2, fun _ a na => ⟨r, t1, rfl, List.getElem?_set_self (Nat.lt_of_lt_of_le hi e1.le), fun H2 sm => ?_⟩, fun z => nomatch z⟩
          exact q (.str r) H2 α' (x1.trans (.of_same sm)) (s1.same sm) (by simp only [RepX, Rep]) trivial
        · rw [if_neg hi] at q
          exact q.elim
/-- the suite of sTryK2, by what its parts read -/
theorem ss_tryK2 {st : Stmt} {f : SM} {i : Nat} {c : Value} {tab : KTab} {vt : Value → Option PySem.Str} {r0 : PySem.Str} {Wout : WX} (T : TabOk X.K X.mg c tab vt)
    (h : PS X st (fun D σ H => tS (rc X) (wAs X.K c i (fun a cls d => tIfS (tTest (tOp rNe (tKind vt i a cls d) (tC (.str r0)))) (tRet (tC (.bl false))) tNext) Wout D) f D σ H)) : SS X Wout st (sTryK2 tab i r0 f) := by
  refine PS.imp h fun D σ H ⟨α, ρ, S, hE, hS, q⟩ => ⟨α, ρ, S, hE, hS, ?_⟩
  unfold sTryK2 at q
  cases hf : f ρ S with
  | nx ρ1 S1 => rw [hf] at q; exact q
  | rt x S1 => rw [hf] at q; exact q
  | bk ρ1 S1 => rw [hf] at q; exact q
  | ct ρ1 S1 => rw [hf] at q; exact q
  | bad => rw [hf] at q; exact q
  | er e ρ1 S1 =>
    rw [hf] at q
    dsimp only at q
    intro cls od σ' H' α' x1 e1 s1 re
    obtain ⟨C, hC, rfl, hfl⟩ := re
    cases hd : e.fld with
    | some fi => rw [hd] at q; exact q.elim
    | none =>
      rw [hd] at q hfl
      dsimp only at q hfl
      subst hfl
      cases ht : tab.lookup e.cls with
      | none => rw [ht] at q; exact q.elim
      | some r =>
        rw [ht] at q
        dsimp only at q
        by_cases hi : i < ρ1.length
        · rw [if_pos hi] at q
          obtain ⟨t1, t2⟩ := T.ok _ _ _ ht hC
          refine ⟨true, t2, fun _ a na => ⟨r, t1, rfl, List.getElem?_set_self (Nat.lt_of_lt_of_le hi e1.le), fun H2 sm => ⟨rfl, ?_⟩⟩, fun z => nomatch z⟩
          refine ⟨_, rfl, ?_⟩
          by_cases hr : r = r0
          · rw [if_pos hr] at q
            subst hr
            rw [decide_eq_true rfl]
            refine iteF ?_
            have e2 : RelE (rc X) α' H2 (ρ1.set i none) ((σ'.set i (some (.ref a))).set i none) := by
              rw [List.set_set]
              exact (e1.mono (.of_same sm)).unset i
            exact q _ H2 α' (x1.trans (.of_same sm)) e2 (s1.same sm)
          · rw [if_neg hr] at q
            have hne : ¬ V.str r = V.str r0 := fun z => hr (V.str.inj z)
            rw [decide_eq_false hne]
            exact iteT (q (.bl false) H2 α' (x1.trans (.of_same sm)) (s1.same sm) (by simp only [RepX, Rep]) trivial)
        · rw [if_neg hi] at q
          exact q.elim
end

/-! ### the law's own end -/
/-- what is wanted of the law's plain function -/
def LawOk (g : MFn) : Prop := ∀ ns : List Int, ns.length ≤ 63 → ∃ S, g [.v (.kl (ns.map D.int))] [] = .ok (.v (.bl true)) S
theorem lawG_call {P : Program} {w : World} {K : PySem.W.Frag} {mg mb : PySem.Str → Option Value} {k : Nat} {fa a : Addr} {fd : FuncData} {x : PySem.Str} {g : MFn} {s₁ : Shared} {vs : List Value} {ns : List Int}
    (KX : K.In s₁.heap) (hns : s₁.heap.Ns mainGlobals mg) (hb : s₁.heap.Ns builtinsNs mb) (hbb : ∀ x : PySem.Str, x ≠ "__name__" → mb x = bootBuiltins x) (hlim : s₁.heap.NoLimit) (hg : s₁.gens = #[])
    (ha : s₁.heap.get? a = some { cls := .type "list", data := .seq vs.toArray }) (hi : IntsAre vs ns) (hl : ns.length ≤ 63) (hr : Room k callerA)
    (F : ∀ base : Heap, K.In base → base.Ns mainGlobals mg → FnG P w K mg base k fa fd [x] (spM ⟨K, mg⟩ g)) (hbind : ∀ (s : Shared) (u : Value), BindsTo s fd ⟨[u], []⟩ [(x, u)]) (L : LawOk g) :
    codeAny (model P w) callerA (.call (.ref fa) ⟨[.ref a], []⟩) (fun r s' => r = .ok (.ret (.bool true)) ∧ OldK s₁.heap s'.heap ∧ s'.os = s₁.os ∧ AllBare s'.gens) s₁ := by
  obtain ⟨SL, hL⟩ := L ns hl
  have rv := vals_ints hi
  have lz : ns.length ≤ sizeLine := by
    rw [lim_eq]
    exact Nat.le_trans hl (by decide)
  -- H tracks at most the script, as a list that never changes
  have core : ∀ H : Hp, (∀ b, H b = none ∨ (b = a ∧ K.lookup a = none ∧ ∃ o, H b = some (.frz o (.lst (ns.map V.int))))) → KlL K H a (ns.map V.int) → HOk P w H s₁.heap →
      codeAny (model P w) callerA (.call (.ref fa) ⟨[.ref a], []⟩) (fun r s' => r = .ok (.ret (.bool true)) ∧ OldK s₁.heap s'.heap ∧ s'.os = s₁.os ∧ AllBare s'.gens) s₁ := by
    intro H hH hK hok
    have free : ∀ {b : Addr} {o : Obj} {es : Array DictEntry} {ep : Nat}, s₁.heap.get? b = some o → o.data = .dict es ep → H b = none := fun {b o es ep} q d => by
      rcases hH b with z | ⟨z, _⟩
      · exact z
      · subst z
        rw [ha] at q
        cases q
        have d' : Data.seq vs.toArray _ = Data.dict es ep := d
        cases d'
    have ns' : ∀ {b : Addr} {m : PySem.Str → Option Value}, s₁.heap.Ns b m → (hidT s₁.heap H).Ns b m := fun {b m} ⟨o, es, ep, q, d, r⟩ => ⟨o, es, ep, hidT_get q (free q d), d, r⟩
    have kin : K.In (hidT s₁.heap H) := fun b o q => hidT_get (KX b o q) (by
      rcases hH b with z | ⟨z, z2, _⟩
      · exact z
      · subst z
        rw [z2] at q
        cases q)
    have md : Mod K mg (hidT s₁.heap H) := ⟨kin, ns' hns, ⟨mb, ns' hb, hbb⟩, let ⟨mc, h1, h2⟩ := hlim; ⟨mc, ns' h1, h2⟩⟩
    have e0 : Env0 P w K mg (hidT s₁.heap H) callerA [] s₁ H := ⟨rfl, md, fun b o q => of_hidT q, Nat.le_of_eq (hidT_size _ _), trivial, fun b q => absurd (show b ∈ ([] : List Addr) from q) (by simp), hok, .of_eq hg⟩
    have hsp : spM ⟨K, mg⟩ g [.ref a] H (fun v _ => v = .bl true) (fun _ _ _ => False) := by
      refine ⟨[], [], [.v (.kl (ns.map D.int))], ⟨rfl, .nil, fun b q => absurd q (by simp), fun n ds q => by simp at q⟩, .cons ?_ .nil, ?_⟩
      · show Rep ⟨K, mg⟩ H (.kl (ns.map D.int)) (.ref a)
        simp only [Rep]
        exact ⟨a, _, rfl, hK, .ints ns⟩
      · rw [hL]
        intro v H' α' _ _ r _
        simpa only [RepX, Rep] using r
    refine codeAny_mono ((F _ kin (ns' hns)).run callerA [] s₁ H ⟨[.ref a], []⟩ [.ref a] [.ref a] _ _ hr rfl e0 (hbind s₁ (.ref a)) (.cons rfl .nil) hsp) fun r s' h => ?_
    cases r with
    | error e =>
      obtain ⟨_, _, _, _, _, _, _, _, _, _, _, _, z⟩ := h
      exact z.elim
    | ok fl =>
      cases fl with
      | next => exact h.elim
      | brk => exact h.elim
      | cont => exact h.elim
      | ret u =>
        obtain ⟨v, H', os, bare, un, hok', r', rfl⟩ := h
        obtain rfl : u = Value.bool true := r'
        refine ⟨rfl, OldK.of_keep fun b o q => ?_, os, bare⟩
        rcases hH b with z | ⟨_, _, ob, z⟩
        · exact un.keep b o q z (by simp [frs]) (by simp)
        · obtain ⟨g1, _⟩ := hok b _ z
          obtain ⟨g2, _⟩ := hok' b _ (un.frzs b ob _ z)
          rw [q] at g1
          cases g1
          exact g2
  cases hk : K.lookup a with
  | some o =>
    have q := KX a o hk
    rw [ha] at q
    cases q
    refine core (fun _ => none) (fun _ => .inl rfl) (.inr ⟨_, vs.toArray, _, hk, rfl, rfl, rfl, ?_, by simpa using rv⟩) (fun b u z => nomatch z)
    rw [List.size_toArray, hi.length]
    exact lz
  | none =>
    refine core (upd (fun _ => none) a (.frz { cls := .type "list", data := .seq vs.toArray } (.lst (ns.map V.int)))) (fun b => ?_) (.inl ⟨_, upd_same⟩) (fun b u z => ?_)
    · by_cases hba : b = a
      · exact .inr ⟨hba, hk, _, by rw [hba]; exact upd_same⟩
      · exact .inl (upd_ne hba)
    · by_cases hba : b = a
      · subst hba
        rw [upd_same] at z
        cases z
        exact ⟨ha, by rw [List.length_map]; exact lz, vs, _, rv, ha⟩
      · rw [upd_ne hba] at z
        cases z
/-- the goal that k_head leaves, from the law's plain function -/
theorem walkG {l : PySem.W.OpenLaw} {k : Nat} {q : Program} {loose : List PySem.Str} {XP : (PySem.Str → Option Value) → Heap → Prop} {YP : World → Heap → Prop} {d : DefRec} {K : Params → PySem.W.Frag} {x : PySem.Str} {g : MFn}
    (hn : l.most = some 63) (hdf : d.params.defaults = []) (hr : Room k callerA) (hY : ∀ (w : World) (h : Heap), YP w h → (K w.params).In h)
    (F : ∀ (w : World) (mg : PySem.Str → Option Value) (fa : Addr) (h : Heap), (K w.params).In h → h.Ns mainGlobals mg → mg d.name = some (.ref fa) →
      ∃ fd : FuncData, (∀ (s : Shared) (u : Value), BindsTo s fd ⟨[u], []⟩ [(x, u)]) ∧ ∀ base : Heap, (K w.params).In base → base.Ns mainGlobals mg → FnG l.prog w (K w.params) mg base k fa fd [x] (spM ⟨K w.params, mg⟩ g))
    (L : LawOk g) : PySem.W.WalkO q loose XP YP l.row.toRowW d [] (fun f vs => PySem.call f vs) := by
  refine Att.attach_call hn hdf fun w s₀ s₁ mg mb fa o pm cd doc a vs ns G Y ho hd hcd hmg hobj hints hlen hg => ?_
  have KX := hY w _ Y
  obtain ⟨fd, hb, hF⟩ := F w mg fa _ KX G.T.g hmg
  exact lawG_call KX G.T.g G.T.b G.T.builtins G.T.nolimit hg hobj hints hlen hr hF hb L
end M

namespace M
open PySem PySem.Spec PyProof.Rows L2

/-! ### a written dict from texts to defs -/
structure DTab (K : PySem.W.Frag) (w : World) (mg : PySem.Str → Option Value) (d : Addr) (tab : List (PySem.Str × PySem.Str)) : Prop where
  ok : ∃ es n, KDict K w d es n ∧ Paired (fun (kv : PySem.Str × PySem.Str) (e : DictEntry) => (∃ t, e.key = .str kv.1 t) ∧ ∃ f, mg kv.2 = some (.ref f) ∧ e.val = .ref f) tab es.toList
theorem dtab_find {mg : PySem.Str → Option Value} {z : PySem.Str} : ∀ {tab : List (PySem.Str × PySem.Str)} {es : List DictEntry}, Paired (fun (kv : PySem.Str × PySem.Str) (e : DictEntry) => (∃ t, e.key = .str kv.1 t) ∧ ∃ f, mg kv.2 = some (.ref f) ∧ e.val = .ref f) tab es →
    (match tab.lookup z with
    | some n => ∃ e f, es.find? (·.key.isStr z) = some e ∧ mg n = some (.ref f) ∧ e.val = .ref f
    | none => es.find? (·.key.isStr z) = none ∧ es.any (·.refKey) = false)
  | _, _, .nil => ⟨rfl, rfl⟩
  | (k, n) :: tab, e :: es, .cons ⟨⟨t, hk⟩, f, hf, hv⟩ r => by
    have ih := dtab_find (z := z) r
    have hs : e.key.isStr z = (k == z) := by
      rw [hk]
      rfl
    by_cases hz : z = k
    · subst hz
      have h1 : List.lookup z ((z, n) :: tab) = some n := by simp [List.lookup]
      rw [h1]
      refine ⟨e, f, ?_, hf, hv⟩
      rw [List.find?_cons, hs]
      simp
    · have hb : (z == k) = false := beq_eq_false_iff_ne.mpr hz
      have hb2 : (k == z) = false := beq_eq_false_iff_ne.mpr fun q => hz q.symm
      have h1 : List.lookup z ((k, n) :: tab) = tab.lookup z := by simp [List.lookup, hb]
      have h2 : (e :: es).find? (·.key.isStr z) = es.find? (·.key.isStr z) := by
        rw [List.find?_cons, hs, hb2]
      rw [h1, h2]
      cases hl : tab.lookup z with
      | some m => rw [hl] at ih; exact ih
      | none =>
        rw [hl] at ih
        refine ⟨ih.1, ?_⟩
        rw [List.any_cons, ih.2, Bool.or_false]
        show DictEntry.refKey e = false
        simp [DictEntry.refKey, hk]
theorem DTab.look {K : PySem.W.Frag} {w : World} {mg : PySem.Str → Option Value} {d : Addr} {tab : List (PySem.Str × PySem.Str)} (T : DTab K w mg d tab) (z : PySem.Str) : ∃ es n, KDict K w d es n ∧
    ((∃ m f, tab.lookup z = some m ∧ mg m = some (.ref f) ∧ PySem.W.nsIn K d z = some (some (.ref f))) ∨ (tab.lookup z = none ∧ PySem.W.nsIn K d z = some none)) := by
  obtain ⟨es, n, D', p⟩ := T.ok
  refine ⟨es, n, D', ?_⟩
  have h := dtab_find (z := z) p
  unfold PySem.W.nsIn
  rw [D'.at_]
  dsimp only
  cases hl : tab.lookup z with
  | some m =>
    rw [hl] at h
    obtain ⟨e, f, h1, h2, h3⟩ := h
    rw [h1]
    exact .inl ⟨m, f, rfl, h2, by rw [← h3]⟩
  | none =>
    rw [hl] at h
    rw [h.1, h.2]
    exact .inr ⟨rfl, rfl⟩
section
variable {X : Cx} {W : WX} {a b e : Expr} {pos : Pos} {d : Addr} {tab : List (PySem.Str × PySem.Str)}
def mDIn (neg : Bool) (tab : List (PySem.Str × PySem.Str)) (f : VM) : VM := fun ρ S => (f ρ S).bind fun x S1 => match x with
  | .v (.str z) => .ok (.v (.bl (if neg then !(tab.lookup z).isSome else (tab.lookup z).isSome))) S1
  | _ => .bad
def rDIn (neg : Bool) (K : PySem.W.Frag) (w : World) (d : Addr) : R2 := fun x y H Q => ∃ es n, KDict K w d es n ∧ ∃ (z : PySem.Str) (r : Option Value), x = .str z ∧ y = .ref d ∧ PySem.W.nsIn K d z = some r ∧ Q (.bl (if neg then !r.isSome else r.isSome)) H
theorem op_dIn : OpR X (compareOp .In) (rDIn false X.K X.w d) := by
  intro pins s σ H x y v u Q I rx ry ⟨es, n, D', h⟩
  exact op_in_kd D' pins s σ H x y v u Q I rx ry h
theorem op_dNotIn : OpR X (compareOp .NotIn) (rDIn true X.K X.w d) := by
  intro pins s σ H x y v u Q I rx ry ⟨es, n, D', h⟩
  exact op_notIn_kd D' pins s σ H x y v u Q I rx ry h
theorem dIn_of {neg : Bool} {f : VM} (T : DTab X.K X.w X.mg d tab) {σ : L2.St} {H : Hp} {Q : VK} (h : tV (rc X) W (mDIn neg tab f) σ H Q) : tOp (rDIn neg X.K X.w d) (tV (rc X) W f) (tC (.ref d)) σ H Q := by
  obtain ⟨α, ρ, S, hE, hS, q⟩ := h
  refine ⟨α, ρ, S, hE, hS, ?_⟩
  refine wpR_mono (wpR_bind q) (fun x S1 h1 v H1 α1 x1 s1 r1 f1 => ?_) fun _ _ z => z
  split at h1
  · rename_i z
    have ev : v = .str z := by simpa only [RepX, Rep] using r1
    obtain ⟨es, n, D', hh⟩ := T.look z
    refine ⟨es, n, D', z, ?_⟩
    rcases hh with ⟨m, g, h2, h3, h4⟩ | ⟨h2, h4⟩
    · rw [h2] at h1
      exact ⟨_, ev, rfl, h4, h1 _ H1 α1 x1 s1 (by simp only [RepX, Rep]; rfl) trivial⟩
    · rw [h2] at h1
      exact ⟨_, ev, rfl, h4, h1 _ H1 α1 x1 s1 (by simp only [RepX, Rep]; rfl) trivial⟩
  · exact h1.elim
theorem sv_dIn {f : VM} (T : DTab X.K X.w X.mg d tab) (ha : SV X W a f) (hb : PE X b (tC (.ref d))) (hm : behindInMarks .In b = false) : SV X W (.Compare a [.In] [b] pos) (mDIn false tab f) := PE.imp (pe_cmpR op_dIn ha hb hm) fun σ H Q h => dIn_of T h
theorem st_dIn {f : VM} (T : DTab X.K X.w X.mg d tab) (ha : SV X W a f) (hb : PE X b (tC (.ref d))) (hm : behindInMarks .In b = false) : ST X W (.Compare a [.In] [b] pos) (mTB (mDIn false tab f)) := PT.imp (pt_cmpR op_dIn ha hb hm) fun σ H Q h => dIn_of T (tB_of h)
theorem st_dNotIn {f : VM} (T : DTab X.K X.w X.mg d tab) (ha : SV X W a f) (hb : PE X b (tC (.ref d))) (hm : behindInMarks .NotIn b = false) : ST X W (.Compare a [.NotIn] [b] pos) (mTB (mDIn true tab f)) := PT.imp (pt_cmpR op_dNotIn ha hb hm) fun σ H Q h => dIn_of T (tB_of h)
/-- D[thing]: the def -/
def mDGet (tab : List (PySem.Str × PySem.Str)) (f : VM) : VM := fun ρ S => (f ρ S).bind fun x S1 => match x with
  | .v (.str z) => (match tab.lookup z with
    | some m => .ok (.v (.fn m)) S1
    | none => .bad)
  | _ => .bad
theorem sv_dGet {f : VM} (T : DTab X.K X.w X.mg d tab) (ha : PE X a (tC (.ref d))) (hb : SV X W b f) (hs : PlainIx b) : SV X W (.Subscript a b pos) (mDGet tab f) := by
  refine PE.imp (pe_ix ix_kdict ha hb hs) fun σ H Q ⟨α, ρ, S, hE, hS, q⟩ => ⟨α, ρ, S, hE, hS, ?_⟩
  refine wpR_mono (wpR_bind q) (fun x S1 h1 v H1 α1 x1 s1 r1 f1 => ?_) fun _ _ z => z
  split at h1
  · rename_i z
    have ev : v = .str z := by simpa only [RepX, Rep] using r1
    obtain ⟨es, n, D', hh⟩ := T.look z
    rcases hh with ⟨m, g, h2, h3, h4⟩ | ⟨h2, h4⟩
    · rw [h2] at h1
      exact ⟨d, z, .ref g, rfl, ev, ⟨es, n, .ref g, D'.at_, D'.lit, h4, rfl⟩, h1 (.ref g) H1 α1 x1 s1 (by show Rep (rc X) H1 (.fn m) (.ref g); simp only [Rep]; exact ⟨g, h3, rfl⟩) trivial⟩
    · rw [h2] at h1
      exact h1.elim
  · exact h1.elim

/-! ### the call of a def that a value tells -/
abbrev FTab := List (PySem.Str × MFn)
structure FTabOk (X : Cx) (tab : FTab) : Prop where
  ok : ∀ n g, tab.lookup n = some g → ∃ f fd ps k, X.mg n = some (.ref f) ∧ FnG X.prog X.w X.K X.mg X.base k f fd ps (spM (rc X) g) ∧ Room k X.A ∧ PySem.W.keepIn X.K (.ref f) = true ∧ Binds X.K fd ps []
def mCallV (tab : FTab) (ff : VM) (fs : AM) : VM := fun ρ S => (ff ρ S).bind fun x S1 => match x with
  | .v (.fn n) => (match tab.lookup n with
    | some g => (fs ρ S1).bind fun xs S2 => g xs S2
    | none => .bad)
  | _ => .bad
theorem sv_callV {tab' : FTab} {func : Expr} {es : List Expr} {ff : VM} {fs : AM} (T : FTabOk X tab') (hgd : X.A.guards = some []) (tk : Takes X W) (hf : SV X W func ff) (ha : SA X W (e :: es) fs)
    (hev : eval (.Call func (e :: es) [] pos) X.env = (do callWith pos (← eval func X.env) [] (backTo pos (starEach (e :: es) X.env)) (backToKw pos (keywordEach [] X.env))) := by rfl)
    (he : starEach (e :: es) X.env = (false, eval e X.env) :: starEach es X.env := by rfl) (hpl : (backTo pos (starEach es X.env)).any (·.1) = false := by rfl) : SV X W (.Call func (e :: es) [] pos) (mCallV tab' ff fs) := by
  refine ⟨fun pins s σ H Q I ⟨α, ρ, S, hE, hS, q⟩ => ?_⟩
  refine Call_ (thn (hf.run pins s σ H (fun v H1 => ∃ n g f, v = .ref f ∧ tab'.lookup n = some g ∧ X.mg n = some (.ref f) ∧ tA (rc X) W fs σ H1 fun vs H2 => spM (rc X) g vs H2 Q (WE W σ)) I ⟨α, ρ, S, hE, hS, ?_⟩) fun u s1 hu => ?_) hev
  · refine wpR_mono (wpR_bind q) (fun x S1 h1 v H1 α1 x1 s1 r1 f1 => ?_) fun _ _ z => z
    split at h1
    · rename_i n
      have r' : Rep (rc X) H1 (.fn n) v := r1
      simp only [Rep] at r'
      obtain ⟨f, hm, rfl⟩ := r'
      cases ht : tab'.lookup n with
      | none => rw [ht] at h1; exact h1.elim
      | some g =>
        rw [ht] at h1
        refine ⟨n, g, f, rfl, ht, hm, call_of ⟨α1, ρ, S1, hE.mono x1, s1, ?_⟩⟩
        exact wpR_mono h1 (fun z S' k => k.mono x1) fun _ _ z => z.mono x1
    · exact h1.elim
  · obtain ⟨v, H1, I1, rv, n, g, f, rfl, ht, hm, hq⟩ := hu
    cases rv
    obtain ⟨f', fd, ps, k, hm', F, hr, hk, hb⟩ := T.ok n g ht
    rw [hm] at hm'
    cases hm'
    refine PySem.W.callWith_K (h₀ := X.base) I.ok.mod.kin hk (thn (ha.run pos pins s1 σ H1 _ I1 hq) fun us s2 ⟨vs, H2, I2, r, q2⟩ => ⟨I2.kIn, ?_⟩) he hpl
    exact run_fnG F hr hgd hb tk I2 r q2
end
end M

namespace M
open PySem PySem.Spec PyProof.Rows L2

/-! ### what the printed walks use -/
theorem u65 {k : Nat} {A : Around} (hr : Room k A) : A.units + 65 < cLine := by
  have := hr.un
  omega
theorem u64 {k : Nat} {A : Around} (hr : Room k A) : A.units + 64 < cLine := by
  have := hr.un
  omega
theorem v65 {k : Nat} {A : Around} (hr : L2H.RoomH k A) : A.units + 65 < cLine := by
  have := hr.un
  omega
theorem v64 {k : Nat} {A : Around} (hr : L2H.RoomH k A) : A.units + 64 < cLine := by
  have := hr.un
  omega
section
variable {X : Cx} {W : WX}
theorem sv_lc {elt tg iter : Expr} {ifs : List Expr} {scope : Scope} {own : List (PySem.Str × Nat)} {pos : Pos} {it : IM} {g : GP} {tt : TM} {te : VM} (hc : X.calm = true) (hN : X.N.Nodup) (hi : SI X W tg iter it) (ok : BlkOk X.N X.env.scope scope own)
    (hg : ∀ (s : Shared) (H : Hp) (C : Addr) (cl : List (PySem.Str × Addr)) (fp : List Addr), SGw (X.blk s H scope (compEnvC scope cl C X.env) fp) (List.map (fun x : PySem.Str × Nat => x.2) own) tg g) (ht : ∀ (s : Shared) (H : Hp) (C : Addr) (cl : List (PySem.Str × Addr)) (fp : List Addr), STs (X.blk s H scope (compEnvC scope cl C X.env) fp) W0 ifs tt)
    (he : ∀ (s : Shared) (H : Hp) (C : Addr) (cl : List (PySem.Str × Addr)) (fp : List Addr), SV (X.blk s H scope (compEnvC scope cl C X.env) fp) W0 elt te) (hs : ∀ x, foldedSetIterable iter X.env x = pure x := by intro _; rfl) :
    SV X W (.ListComp elt [⟨tg, iter, ifs, 0⟩] scope pos) (mLC it g tt te (List.map (fun x : PySem.Str × Nat => x.2) own)) :=
  PE.imp (pe_lc (wi := tI (rc X) W it) (g := tGw (rc X) (List.map (fun x : PySem.Str × Nat => x.2) own) g) (tt := tT (rc X) W0 tt) (te := tV (rc X) W0 te) hc hN hi ok hg ht he hs) fun _ _ _ q => lc_of q
theorem tAsg_imp {t t' : TE} {g : TG} {D : Ends} {σ : L2.St} {H : Hp} (i : ∀ Q, t' σ H Q → t σ H Q) (h : tAsg t' g D σ H) : tAsg t g D σ H := i _ h
theorem ps_lc {i : Nat} {y : PySem.Str} {py : Pos} {elt tg iter : Expr} {ifs : List Expr} {scope : Scope} {own : List (PySem.Str × Nat)} {pos spos : Pos} {it : IM} {g : GP} {tt : TM} {te : VM} (hc : X.calm = true) (hN : X.N.Nodup) (hy : X.N[i]? = some y) (hyl : X.env.scope.names.lookup y = some .local)
    (hsw : swapsWith (.ListComp elt [⟨tg, iter, ifs, 0⟩] scope pos) (some (.Name y py)) spos.line X.env = pure true) (hi : SI X W tg iter it) (ok : BlkOk X.N X.env.scope scope own)
    (hg : ∀ (s : Shared) (H : Hp) (C : Addr) (cl : List (PySem.Str × Addr)) (fp : List Addr), SGw (X.blk s H scope (compEnvC scope cl C X.env) fp) (List.map (fun x : PySem.Str × Nat => x.2) own) tg g) (ht : ∀ (s : Shared) (H : Hp) (C : Addr) (cl : List (PySem.Str × Addr)) (fp : List Addr), STs (X.blk s H scope (compEnvC scope cl C X.env) fp) W0 ifs tt)
    (he : ∀ (s : Shared) (H : Hp) (C : Addr) (cl : List (PySem.Str × Addr)) (fp : List Addr), SV (X.blk s H scope (compEnvC scope cl C X.env) fp) W0 elt te) (hs : ∀ x, foldedSetIterable iter X.env x = pure x := by intro _; rfl) :
    PS X (.Assign [.Name y py] (.ListComp elt [⟨tg, iter, ifs, 0⟩] scope pos) spos) (tAsg (tV (rc X) W (mLC it g tt te (List.map (fun x : PySem.Str × Nat => x.2) own))) (gName i)) :=
  PS.imp (ps_setLc (wi := tI (rc X) W it) (g := tGw (rc X) (List.map (fun x : PySem.Str × Nat => x.2) own) g) (tt := tT (rc X) W0 tt) (te := tV (rc X) W0 te) hc hN hy hyl hsw hi ok hg ht he hs) fun D σ H q => tAsg_imp (fun Q h => lc_of h) q
/-! the ghost steps on the statement -/
theorem ss_s {st : Stmt} {f : VM} {i : Nat} (h : PS X st (tAsg (tV (rc X) W f) (gName i))) : SS X W st (sSet i f) := ss_set (te := tVar 0) h

def gNeg : D → Option Val
  | .int i => some (.v (.int (-i)))
  | _ => none
theorem ug_neg : UnG X (rU fun i => .int (-i)) gNeg := fun H p x z Q rx hz k => by
  cases p with
  | int i =>
    cases hz
    exact ⟨i, rx.int, k.int⟩
  | _ => cases hz
theorem si_r1 {tg e : Expr} {g : AM} (h : PI X tg e (iRng1 (tA (rc X) W g))) : SI X W tg e (mRng rng1 g) := si_rng1 (a := e) h
theorem si_r2 {tg e : Expr} {g : AM} (h : PI X tg e (iRng2 (tA (rc X) W g))) : SI X W tg e (mRng rng2 g) := si_rng2 (a := e) h
end
end M

namespace M
open PySem PySem.Spec PyProof.Rows L2

theorem bt_range : bootBuiltins "range" = some (.type "range") := by decide +kernel
theorem bt_len : bootBuiltins "len" = some (.builtin "len") := by decide +kernel
theorem bt_sum : bootBuiltins "sum" = some (.builtin "sum") := by decide +kernel
theorem bt_all : bootBuiltins "all" = some (.builtin "all") := by decide +kernel
theorem bt_any : bootBuiltins "any" = some (.builtin "any") := by decide +kernel
theorem bt_max : bootBuiltins "max" = some (.builtin "max") := by decide +kernel
theorem bt_min : bootBuiltins "min" = some (.builtin "min") := by decide +kernel
theorem bt_abs : bootBuiltins "abs" = some (.builtin "abs") := by decide +kernel
theorem bt_sorted : bootBuiltins "sorted" = some (.builtin "sorted") := by decide +kernel
theorem bt_repr : bootBuiltins "repr" = some (.builtin "repr") := by decide +kernel
theorem bt_isinstance : bootBuiltins "isinstance" = some (.builtin "isinstance") := by decide +kernel
theorem bt_list : bootBuiltins "list" = some (.type "list") := by decide +kernel
theorem bt_tuple : bootBuiltins "tuple" = some (.type "tuple") := by decide +kernel
theorem bt_int : bootBuiltins "int" = some (.type "int") := by decide +kernel
theorem bt_str : bootBuiltins "str" = some (.type "str") := by decide +kernel
theorem bt_bool : bootBuiltins "bool" = some (.type "bool") := by decide +kernel

/-! ### name = a comprehension -/
theorem PS.freeze {X : Cx} {st : Stmt} {t t' : TS} (h : PS X st t) (i : ∀ D σ H, t' D σ H → t { D with nx := fun σ1 H1 => D.nx σ1 H1 ∨ ∃ a u, H1 a = some u ∧ FrU u ∧ ∀ o, D.nx σ1 (upd H1 a (.frz o u)) } σ H) : PS X st t' := by
  refine ⟨fun pins s σ H D I q => thn (h.run pins s σ H _ I (i D σ H q)) fun f s' r => ?_⟩
  cases f with
  | next =>
    obtain ⟨σ', H', I', q'⟩ := r
    rcases q' with q' | ⟨a, xs, ea, fu, q'⟩
    · exact ⟨σ', H', I', q'⟩
    · obtain ⟨o, I2⟩ := Inv.freeze fu I' ea
      exact ⟨σ', _, I2, q' o⟩
  | brk => exact r
  | cont => exact r
  | ret u => exact r
section
variable {X : Cx} {W : WX}
theorem ss_fz {st : Stmt} {f : VM} {i : Nat} (h : PS X st (tAsg (tV (rc X) W f) (gName i))) : SS X W st (sSet i (mFz f)) := by
  refine PS.freeze h fun D σ H ⟨α, ρ, S, hE, hS, q⟩ => ⟨α, ρ, S, hE, hS, ?_⟩
  refine wpR_mono (wpR_bind (wpS_ofR hE q)) (fun x S1 h1 v H1 α1 x1 s1 r1 f1 => ?_) fun _ _ z => z
  cases x with
  | v d => exact .inl (toSlot_ok (W := W) hE x1 s1 r1 h1)
  | l n => exact .inl (toSlot_ok (W := W) hE x1 s1 r1 h1)
  | n ob =>
    obtain ⟨a, rfl, ro, na⟩ := r1
    have ro : RepO (rc X) H1 ob a := ro
    have fa : H a = none := f1 a rfl
    rcases ro.hot with ⟨u, ea, fu, r⟩ | ⟨d, rfl, r⟩
    · refine .inr ⟨a, u, ea, fu, fun o => toSlot_ok (W := W) (x := .v ob.D) hE ⟨x1.pre, fun b u q nb => ?_, x1.nw, x1.le.trans (LeH.frz fu ea)⟩ (s1.frz fu ea na) ?_ h1⟩
      · rw [upd_ne (fun z => by rw [z, fa] at q; cases q)]
        exact x1.fr b u q nb
      · exact r _ _ (LeH.frz fu ea) upd_same
    · exact .inl (toSlot_ok (W := W) (x := .v d) hE x1 s1 r h1)
theorem ss_al {st : Stmt} {f : VM} {i : Nat} (h : PS X st (tAsg (tV (rc X) W f) (gName i))) : SS X W st (sSet i (mAl f)) := by
  refine PS.imp h fun D σ H ⟨α, ρ, S, hE, hS, q⟩ => ⟨α, ρ, S, hE, hS, ?_⟩
  refine wpR_mono (wpR_bind (wpS_ofR hE q)) (fun x S1 h1 v H1 α1 x1 s1 r1 f1 => ?_) fun _ _ z => z
  cases x with
  | v d => exact toSlot_ok (W := W) hE x1 s1 r1 h1
  | l n => exact toSlot_ok (W := W) hE x1 s1 r1 h1
  | n ob =>
    obtain ⟨a, rfl, r, na⟩ := r1
    have fa : H a = none := f1 a rfl
    refine toSlot_ok (W := W) (x := .l S1.length) (α1 := α1 ++ [a]) hE ⟨?_, x1.fr, fun b hb nb => ?_, x1.le⟩ (s1.push na r) ?_ h1
    · obtain ⟨β, rfl⟩ := x1.pre
      exact ⟨β ++ [a], by rw [List.append_assoc]⟩
    · rcases List.mem_append.mp hb with hb | hb
      · exact x1.nw b hb nb
      · simp at hb
        subst hb
        exact fa
    · exact ⟨a, by rw [← s1.len]; simp, rfl⟩
end
theorem L2H_room {j k : Nat} {A : Around} (hr : Room k A) (h : j ≤ k) : L2H.RoomH j A := ⟨by have := hr.dp; omega, by have := hr.un; omega⟩

/-! ### an int added in place -/
def gAddI : D → D → Option Val := gI fun i j => some (.v (.int (i + j)))
theorem og_ip {X : Cx} {h : Int → Int → Int} {f : Int → Int → Option Val} (hf : ∀ i j z, f i j = some z → z = .v (.int (h i j))) : OpG X (ipI h) (gI f) := by
  intro H p q x y z Q rp rq hz k
  cases p <;> try (cases hz; done)
  cases q <;> try (cases hz; done)
  rename_i i j
  obtain rfl := hf i j z hz
  exact ⟨i, j, rp.int, rq.int, k.int⟩
theorem og_addI {X : Cx} : OpG X (ipI fun i j => i + j) gAddI := og_ip fun i j z h => (Option.some.inj h).symm
theorem og_subI {X : Cx} : OpG X (ipI fun i j => i - j) gSub := og_ip fun i j z h => (Option.some.inj h).symm

/-! ### try: .. except X as e: return kind(e) -/
open Classical in
noncomputable def vtOf (mg : PySem.Str → Option Value) : KTab → Value → Option PySem.Str
  | [], _ => none
  | (n, r) :: t, v => if mg n = some v then some r else vtOf mg t v
theorem vtOf_some {mg : PySem.Str → Option Value} : ∀ {t : KTab} {v : Value} {r : PySem.Str}, vtOf mg t v = some r → ∃ n, (n, r) ∈ t ∧ mg n = some v
  | [], _, _, h => by cases h
  | (n, r0) :: t, v, r, h => by
    unfold vtOf at h
    split at h
    · rename_i hm
      cases h
      exact ⟨n, List.mem_cons_self, hm⟩
    · obtain ⟨m, h1, h2⟩ := vtOf_some h
      exact ⟨m, List.mem_cons_of_mem _ h1, h2⟩
theorem vtOf_mem {mg : PySem.Str → Option Value} {v : Value} : ∀ {t : KTab} {n r : PySem.Str}, (n, r) ∈ t → mg n = some v → ∃ r', vtOf mg t v = some r'
  | [], _, _, h, _ => by cases h
  | (n0, r0) :: t, n, r, h, hm => by
    unfold vtOf
    split
    · exact ⟨_, rfl⟩
    · rename_i hne
      rcases List.mem_cons.mp h with e | h
      · cases e
        exact absurd hm hne
      · exact vtOf_mem h hm
structure KindOk (P : Program) (w : World) (K : PySem.W.Frag) (mg : PySem.Str → Option Value) (base : Heap) (k : Nat) (f : Addr) (fd : FuncData) (ps : List PySem.Str) (c : Value) (tab : KTab) : Prop where
  ok : ∀ n r, (n, r) ∈ tab → ∃ C, mg n = some (.ref C) ∧ PySem.W.exmOne K (.ref C) c = some true ∧ FnK P w K mg base k f fd ps C r
  inj : ∀ n r n' r', (n, r) ∈ tab → (n', r') ∈ tab → mg n = mg n' → n = n'
  nd : (tab.map (·.1)).Nodup
theorem fst_uniq {α β : Type} : ∀ {t : List (α × β)} {n : α} {r r' : β}, (t.map (·.1)).Nodup → (n, r) ∈ t → (n, r') ∈ t → r = r'
  | [], _, _, _, _, h, _ => by cases h
  | (n0, r0) :: t, n, r, r', nd, h, h' => by
    simp only [List.map_cons, List.nodup_cons] at nd
    rcases List.mem_cons.mp h with e | h
    · cases e
      rcases List.mem_cons.mp h' with e | h'
      · cases e; rfl
      · exact absurd (List.mem_map.mpr ⟨_, h', rfl⟩) nd.1
    · rcases List.mem_cons.mp h' with e | h'
      · cases e
        exact absurd (List.mem_map.mpr ⟨_, h, rfl⟩) nd.1
      · exact fst_uniq nd.2 h h'
theorem lookup_mem {β : Type} {n : PySem.Str} {r : β} : ∀ {t : List (PySem.Str × β)}, t.lookup n = some r → (n, r) ∈ t
  | [], h => by cases h
  | (m, q) :: t, h => by
    unfold List.lookup at h
    split at h
    · rename_i e
      cases h
      have := eq_of_beq e
      subst this
      exact List.mem_cons_self
    · exact List.mem_cons_of_mem _ (lookup_mem h)
section
variable {P : Program} {w : World} {K : PySem.W.Frag} {mg : PySem.Str → Option Value} {base : Heap} {k : Nat} {f : Addr} {fd : FuncData} {ps : List PySem.Str} {c : Value} {tab : KTab}
theorem KindOk.vt (h : KindOk P w K mg base k f fd ps c tab) {n r : PySem.Str} {C : Addr} (hm : (n, r) ∈ tab) (e : mg n = some (.ref C)) : vtOf mg tab (.ref C) = some r := by
  obtain ⟨r', h1⟩ := vtOf_mem hm e
  obtain ⟨n', h2, h3⟩ := vtOf_some h1
  have := h.inj _ _ _ _ hm h2 (e.trans h3.symm)
  subst this
  rw [h1, fst_uniq h.nd hm h2]
theorem KindOk.tb (h : KindOk P w K mg base k f fd ps c tab) : TabOk K mg c tab (vtOf mg tab) := ⟨fun n r C h1 h2 => by
  have hm := lookup_mem h1
  obtain ⟨C', e1, e2, _⟩ := h.ok n r hm
  rw [h2] at e1
  cases e1
  exact ⟨h.vt hm h2, e2⟩⟩
theorem KindOk.fn (h : KindOk P w K mg base k f fd ps c tab) {cls : Value} (r : PySem.Str) (e : vtOf mg tab cls = some r) : ∃ C, cls = .ref C ∧ FnK P w K mg base k f fd ps C r := by
  obtain ⟨n, h2, h3⟩ := vtOf_some e
  obtain ⟨C, e1, _, e3⟩ := h.ok n r h2
  rw [h3] at e1
  cases e1
  exact ⟨C, rfl, e3⟩
end
section
variable {X : Cx} {Wout : WX} {k : Nat} {f : Addr} {fd : FuncData} {ps : List PySem.Str} {c : Value} {tab : KTab} {i : Nat} {n x y z : PySem.Str} {np p p1 pos pos' pos2 : Pos} {body : List Stmt} {g : SM}
theorem ss_tryR (hs : X.stack = X.env :: X.outer) (hf : X.env.frame = some X.env.locals) (hN : X.N.Nodup) (hi : X.N[i]? = some n) (hln : X.env.kindOf n = some .local) (hc : Names X x c) (tk : Takes X Wout)
    (KO : KindOk X.prog X.w X.K X.mg X.base k f fd ps c tab) (hr : L2H.RoomH k X.A) (hm : X.mg y = some (.ref f)) (hk : PySem.W.keepIn X.K (.ref f) = true) (hb : Binds X.K fd ps []) (hp : ps.length = 1)
    (hv : ∀ a oe pn, PE (X.suite a ((a, oe) :: pn)) (.Name n p1) (tVar i)) (hg : ∀ a oe pn, Gl (X.suite a ((a, oe) :: pn)) y)
    (hbody : ∀ (W : WX) (pn : List (Addr × Obj)) (xe : Value → Shared → Prop), Takes (X.tr pn xe) W → PassesOwn (model X.prog X.w) X.A X.env xe → SSs (X.tr pn xe) W body g)
    (hdb : (y == ("__debug__" : PySem.Str)) = false := by decide) (he : starEach [.Name n p1] X.env = (false, eval (.Name n p1) X.env) :: starEach [] X.env := by rfl) (hpl : (backTo pos2 (starEach [] X.env)).any (·.1) = false := by rfl) :
    SS X Wout (.Try body [.ExceptHandler (some (.Name x np)) (some n) [.Return (some (.Call (.Name y p) [.Name n p1] [] pos2)) pos3] pos'] [] [] pos) (sTryK tab i g) := by
  refine ss_tryK KO.tb (c := c) ?_
  exact ps_try_as (i := i) (tb := fun W => tS (rc X) W g) (ts := fun a cls d => tRet (tKind (vtOf X.mg tab) i a cls d)) hs hf hN hi hln hc tk (fun W pn xe t pw => hbody W pn xe t pw)
    (fun a oe cls d pn hz hfl => pss_one (ps_ret (pe_kind (fun r e => KO.fn r e) hr hz hfl hm hk hb hp (hv a oe pn) (hg a oe pn) hdb he hpl)))
theorem ss_tryR2 {r0 : PySem.Str} {j j2 : Nat} {pos4 pos5 pos6 pos7 : Pos} (hs : X.stack = X.env :: X.outer) (hf : X.env.frame = some X.env.locals) (hN : X.N.Nodup) (hi : X.N[i]? = some n) (hln : X.env.kindOf n = some .local) (hc : Names X x c) (tk : Takes X Wout)
    (KO : KindOk X.prog X.w X.K X.mg X.base k f fd ps c tab) (hr : L2H.RoomH k X.A) (hm : X.mg y = some (.ref f)) (hk : PySem.W.keepIn X.K (.ref f) = true) (hb : Binds X.K fd ps []) (hp : ps.length = 1)
    (hv : ∀ a oe pn, PE (X.suite a ((a, oe) :: pn)) (.Name n p1) (tVar i)) (hg : ∀ a oe pn, Gl (X.suite a ((a, oe) :: pn)) y)
    (hbody : ∀ (W : WX) (pn : List (Addr × Obj)) (xe : Value → Shared → Prop), Takes (X.tr pn xe) W → PassesOwn (model X.prog X.w) X.A X.env xe → SSs (X.tr pn xe) W body g)
    (hdb : (y == ("__debug__" : PySem.Str)) = false := by decide) (he : starEach [.Name n p1] X.env = (false, eval (.Name n p1) X.env) :: starEach [] X.env := by rfl) (hpl : (backTo pos2 (starEach [] X.env)).any (·.1) = false := by rfl) :
    SS X Wout (.Try body [.ExceptHandler (some (.Name x np)) (some n) [.If (.Compare (.Call (.Name y p) [.Name n p1] [] pos2) [.NotEq] [.Constant (.str r0) j pos3] pos4) [.Return (some (.Constant (.bool false) j2 pos5)) pos6] [] pos7] pos'] [] [] pos) (sTryK2 tab i r0 g) := by
  refine ss_tryK2 KO.tb (c := c) ?_
  exact ps_try_as (i := i) (tb := fun W => tS (rc X) W g) (ts := fun a cls d => tIfS (tTest (tOp rNe (tKind (vtOf X.mg tab) i a cls d) (tC (.str r0)))) (tRet (tC (.bl false))) tNext) hs hf hN hi hln hc tk (fun W pn xe t pw => hbody W pn xe t pw)
    (fun a oe cls d pn hz hfl => pss_one (ps_if (pt_cmpR op_ne (pe_kind (fun r e => KO.fn r e) hr hz hfl hm hk hb hp (hv a oe pn) (hg a oe pn) hdb he hpl) pe_str (nomark _)) (pss_one (ps_ret pe_bl)) pss_nil))
end
end M

namespace M
open PySem PySem.Spec PyProof.Rows L2

/-! ### running plain functions, by simp -/
section
variable {α β : Type} {ρ : MEnv} {S S' : Sto} {f g h : VM} {fs gs : AM} {t u : TM} {a b : SM}
@[simp] theorem bind_ok {x : α} {k : α → Sto → R β} : (R.ok x S).bind k = k x S := rfl
@[simp] theorem bind_er {e : Exc} {k : α → Sto → R β} : (R.er e S : R α).bind k = .er e S := rfl
@[simp] theorem bind_bad {k : α → Sto → R β} : (R.bad : R α).bind k = .bad := rfl
@[simp] theorem ofR_ok {x : α} {k : α → Sto → RS} : ofR (R.ok x S) ρ k = k x S := rfl
@[simp] theorem ofR_er {e : Exc} {k : α → Sto → RS} : ofR (R.er e S : R α) ρ k = .er e ρ S := rfl
@[simp] theorem mV_ap {i : Nat} : mV i ρ S = (match ρ[i]? with
  | some (some x) => .ok x S
  | _ => .bad) := rfl
@[simp] theorem mC_ap {d : D} : mC d ρ S = .ok (.v d) S := rfl
@[simp] theorem mNil_ap : mNil ρ S = .ok [] S := rfl
/-- an argument that is no new list -/
def arg1 (x : Val) (k : R (List Val)) : R (List Val) := k.bind fun xs S2 => .ok (x :: xs) S2
@[simp] theorem mCons_ap : mCons f fs ρ S = (f ρ S).bind fun x S1 => match x with
  | .n _ => .bad
  | x => (fs ρ S1).bind fun xs S2 => .ok (x :: xs) S2 := by
  unfold mCons
  rfl
@[simp] theorem mFz_ap : mFz f ρ S = (f ρ S).bind fun x S => match x with
  | .n o => .ok (.v o.D) S
  | x => .ok x S := rfl
@[simp] theorem mAl_ap : mAl f ρ S = (f ρ S).bind fun x S => match x with
  | .n o => .ok (.l S.length) (S ++ [some o])
  | x => .ok x S := rfl
@[simp] theorem mDv_ap : mDv f ρ S = (f ρ S).bind fun x S => match x with
  | .n o => .ok (.v o.D) S
  | .l n => (match S[n]? with
    | some (some o) => .ok (.v o.D) (S.set n (some (.fz o.D)))
    | _ => .bad)
  | .v d => .ok (.v d) S := rfl
@[simp] theorem pk_v {d : D} : pk S (.v d) = some d := rfl
@[simp] theorem pk_n {o : Ob} : pk S (.n o) = some o.D := rfl
@[simp] theorem obD_li {ds : List D} : (Ob.li ds).D = .lst ds := rfl
@[simp] theorem obD_dk {ks : List L2.Key} {vs : List D} : (Ob.dk ks vs).D = .fdk ks vs := rfl
@[simp] theorem obD_dt {ks : List (List L2.Key)} {vs : List D} : (Ob.dt ks vs).D = .fdt ks vs := rfl
@[simp] theorem obD_fz {d : D} : (Ob.fz d).D = d := rfl
@[simp] theorem liAt_ap {n : Nat} : liAt S n = (match S[n]? with
  | some (some (.li ds)) => some ds
  | _ => none) := rfl
@[simp] theorem pk_l {n : Nat} : pk S (.l n) = (match S[n]? with
  | some (some o) => some o.D
  | _ => none) := rfl
@[simp] theorem mOp_ap {o : D → D → Option Val} : mOp o f g ρ S = (f ρ S).bind fun x S1 => (g ρ S1).bind fun y S2 => ap2 o S2 x y := rfl
@[simp] theorem ap2_ap {o : D → D → Option Val} {x y : Val} : ap2 o S x y = (match pk S x, pk S y with
  | some p, some q => (match o p q with
    | some z => .ok z S
    | none => .bad)
  | _, _ => .bad) := rfl
@[simp] theorem mUn_ap {o : D → Option Val} : mUn o f ρ S = (f ρ S).bind fun x S1 => ap1 o S1 x := rfl
@[simp] theorem ap1_ap {o : D → Option Val} {x : Val} : ap1 o S x = (match pk S x with
  | some p => (match o p with
    | some z => .ok z S
    | none => .bad)
  | _ => .bad) := rfl
@[simp] theorem mTB_ap : mTB f ρ S = asB (f ρ S) := rfl
@[simp] theorem asB_ok1 {b : Bool} : asB (.ok (.v (.bl b)) S) = .ok b S := rfl
@[simp] theorem asB_bad : asB .bad = .bad := rfl
@[simp] theorem mChain_ap {o o' : D → D → Option Val} : mChain o o' f g h ρ S = (f ρ S).bind fun x S1 => (g ρ S1).bind fun y S2 => (asB (ap2 o S2 x y)).bind fun k S3 =>
  if k = true then (h ρ S3).bind fun z S4 => ap2 o' S4 y z else .ok (.v (.bl false)) S3 := rfl
@[simp] theorem mTru_ap : mTru f ρ S = (f ρ S).bind fun x S1 => match pk S1 x with
  | some p => (match truB p with
    | some b => .ok b S1
    | none => .bad)
  | none => .bad := rfl
@[simp] theorem mNot_ap : mNot t ρ S = (t ρ S).bind fun b S1 => .ok (!b) S1 := rfl
@[simp] theorem mAnd_ap : mAnd t u ρ S = (t ρ S).bind fun b S1 => if b = true then u ρ S1 else .ok false S1 := rfl
@[simp] theorem mOr_ap : mOr t u ρ S = (t ρ S).bind fun b S1 => if b = true then .ok true S1 else u ρ S1 := rfl
@[simp] theorem mVB_ap {k : Bool → VM} : mVB f k ρ S = (f ρ S).bind fun x S1 => match x with
  | .v (.bl b) => k b ρ S1
  | _ => .bad := rfl
@[simp] theorem mAndV_ap : mAndV f g ρ S = mVB f (fun b ρ S => if b = true then g ρ S else .ok (.v (.bl false)) S) ρ S := rfl
@[simp] theorem mOrV_ap : mOrV f g ρ S = mVB f (fun b ρ S => if b = true then .ok (.v (.bl true)) S else g ρ S) ρ S := rfl
@[simp] theorem mNotV_ap : mNotV f ρ S = mVB f (fun b _ S => .ok (.v (.bl !b)) S) ρ S := rfl
@[simp] theorem mIfE_ap : mIfE t f g ρ S = (t ρ S).bind fun b S1 => if b = true then f ρ S1 else g ρ S1 := rfl
@[simp] theorem mTup_ap : mTup fs ρ S = (fs ρ S).bind fun xs S1 => match dats xs with
  | some ds => if ds.length ≤ lim then .ok (.v (.tup ds)) S1 else .bad
  | none => .bad := rfl
@[simp] theorem mLst_ap : mLst fs ρ S = (fs ρ S).bind fun xs S1 => match dats xs with
  | some ds => if ds.length ≤ lim then .ok (.n (.li ds)) S1 else .bad
  | none => .bad := rfl
@[simp] theorem dats_nil : dats [] = some [] := rfl
@[simp] theorem dats_cons {d : D} {r : List Val} : dats (.v d :: r) = (dats r).map (d :: ·) := rfl
@[simp] theorem sSeq_ap : sSeq a b ρ S = (match a ρ S with
  | .nx ρ1 S1 => b ρ1 S1
  | r => r) := rfl
@[simp] theorem sSkip_ap : sSkip ρ S = .nx ρ S := rfl
@[simp] theorem sBrk_ap : sBrk ρ S = .bk ρ S := rfl
@[simp] theorem sCnt_ap : sCnt ρ S = .ct ρ S := rfl
@[simp] theorem sExpr_ap : sExpr f ρ S = ofR (f ρ S) ρ fun _ S1 => .nx ρ S1 := rfl
@[simp] theorem sRet_ap : sRet f ρ S = ofR (f ρ S) ρ fun x S1 => .rt x S1 := rfl
@[simp] theorem sRetN_ap : sRetN ρ S = .rt (.v .non) S := rfl
@[simp] theorem sIf_ap : sIf t a b ρ S = ofR (t ρ S) ρ fun c S1 => if c = true then a ρ S1 else b ρ S1 := rfl
@[simp] theorem sSet_ap {i : Nat} : sSet i f ρ S = ofR (f ρ S) ρ fun x S1 => toSlot x ρ i S1 := rfl
@[simp] theorem toSlot_v {d : D} {i : Nat} : toSlot (.v d) ρ i S = .nx (ρ.set i (some (.v d))) S := rfl
@[simp] theorem toSlot_l {n i : Nat} : toSlot (.l n) ρ i S = .nx (ρ.set i (some (.l n))) S := rfl
@[simp] theorem sAug_ap {i : Nat} {o : D → D → Option Val} : sAug i o f ρ S = (match ρ[i]? with
  | some (some (.v d)) => ofR (f ρ S) ρ fun y S1 => ofR (ap2 o S1 (.v d) y) ρ fun z S2 => toSlot z ρ i S2
  | _ => .bad) := rfl
@[simp] theorem sPar_ap {i j : Nat} : sPar i j fs ρ S = ofR (fs ρ S) ρ fun xs S1 => match xs with
  | [x, y] => .nx ((ρ.set i (some x)).set j (some y)) S1
  | _ => .bad := rfl
@[simp] theorem mCall_ap {k : MFn} : mCall k fs ρ S = (fs ρ S).bind fun xs S1 => k xs S1 := rfl
@[simp] theorem mB_ap {o : List D → Option Val} : mB o fs ρ S = (fs ρ S).bind fun xs S1 => apN o S1 xs := rfl
@[simp] theorem apN_ap {o : List D → Option Val} {xs : List Val} : apN o S xs = (match pks S xs with
  | some ps => (match o ps with
    | some z => .ok z S
    | none => .bad)
  | none => .bad) := rfl
@[simp] theorem pks_nil : pks S [] = some [] := rfl
@[simp] theorem pks_cons {x : Val} {xs : List Val} : pks S (x :: xs) = (match pk S x, pks S xs with
  | some p, some ps => some (p :: ps)
  | _, _ => none) := rfl
@[simp] theorem mMut_ap {ar : ArM} {k : List D → List D → Option (List D × D)} : mMut ar k f fs ρ S = (f ρ S).bind fun x S1 => match x with
  | .l n => (match liAt S1 n with
    | some _ => (fs ρ S1).bind fun ys S2 => (match liAt S2 n with
      | some ds => (match ar S2 ys with
        | some ps => (match k ds ps with
          | some (ds', d) => .ok (.v d) (S2.set n (some (.li ds')))
          | none => .bad)
        | none => .bad)
      | _ => .bad)
    | _ => .bad)
  | _ => .bad := rfl
@[simp] theorem mStr_ap {o : SFn} : mStr o f fs ρ S = (f ρ S).bind fun x S1 => match x with
  | .v (.str z) => (fs ρ S1).bind fun ys S2 => apN (o z) S2 ys
  | _ => .bad := rfl
@[simp] theorem mLm_ap {o : List D → List D → Option Val} : mLm o f fs ρ S = (f ρ S).bind fun x S1 => match pk S1 x with
  | some (.lst _) => (fs ρ S1).bind fun ys S2 => (match pk S2 x with
    | some (.lst ds) => apN (o ds) S2 ys
    | _ => .bad)
  | _ => .bad := rfl
@[simp] theorem mIsP_ap {p : Addr} {b : Bool} : mIsP p b f ρ S = (f ρ S).bind fun x S1 => match x with
  | .v (.raw a') => if a' = p then .ok (.v (.bl b)) S1 else .bad
  | _ => .bad := rfl
@[simp] theorem mSl_ap {l u : OM} : mSl f l u ρ S = (f ρ S).bind fun x S1 => (l ρ S1).bind fun l S2 => (u ρ S2).bind fun u S3 => ap1 (gSl l u) S3 x := rfl
@[simp] theorem oNo_ap : oNo ρ S = .ok none S := rfl
@[simp] theorem oAt_ap : oAt f ρ S = (f ρ S).bind fun x S1 => match x with
  | .v (.int i) => .ok (some i) S1
  | _ => .bad := rfl
@[simp] theorem mRng_ap {k : List Val → Sto → R Items} : mRng k fs ρ S = (fs ρ S).bind k := rfl
@[simp] theorem mIt_ap : mIt f ρ S = (mFz f ρ S).bind fun x S1 => match x with
  | .v (.lst ds) => .ok (.fix ds) S1
  | .v (.kl ds) => .ok (.fix ds) S1
  | .v (.tup ds) => .ok (.fix ds) S1
  | .v (.str z) => .ok (.fix (chars z)) S1
  | .l n => (match liAt S1 n with
    | some _ => .ok (.at_ n) S1
    | _ => .bad)
  | _ => .bad := rfl
@[simp] theorem sFor_ap {it : IM} {k : GM} : sFor it k a ρ S = ofR (it ρ S) ρ fun t S1 => match t with
  | .fix ds => forL k a ds ρ S1
  | .at_ n => forN k a n (lenAt S1 n) 0 ρ S1 := rfl
@[simp] theorem mLC_ap {it : IM} {k : GP} {vs : List Nat} : mLC it k t f vs ρ S = (it ρ S).bind fun z S1 => match z with
  | .fix ds => lcL (wipeM ρ vs) k t f ds [] S1
  | .at_ n => lcN (wipeM ρ vs) k t f n (lenAt S1 n) 0 [] S1 := rfl
@[simp] theorem mYes_ap : mYes ρ S = .ok true S := rfl
@[simp] theorem gN_ap {i : Nat} {d : D} : gN i d ρ S = .ok (ρ.set i (some (.v d))) S := rfl
@[simp] theorem mRepL_ap : mRepL f g ρ S = (f ρ S).bind fun x S1 => (g ρ S1).bind fun y S2 => match x, y with
  | .n (.li ds), .v (.int k) => if (fits62 k && decide (ds.length * k.toNat ≤ lim)) = true then .ok (.n (.li (List.replicate k.toNat ds).flatten)) S2 else .bad
  | _, _ => .bad := by
  unfold mRepL
  rfl
@[simp] theorem fin_v {n : Nat} {d : D} : fin n (.v d) S = .ok (.v d) (S.take n) := rfl
@[simp] theorem fin_n {n : Nat} {o : Ob} : fin n (.n o) S = .ok (.n o) (S.take n) := rfl
@[simp] theorem leave_rt {n : Nat} {x : Val} : leave n (.rt x S) = fin n x S := rfl
@[simp] theorem leave_nx {n : Nat} : leave n (.nx ρ S) = fin n (.v .non) S := rfl
@[simp] theorem leave_er {n : Nat} {e : Exc} : leave n (.er e ρ S) = .er e (S.take n) := rfl
@[simp] theorem mCallV_ap {tab : FTab} : mCallV tab f fs ρ S = (f ρ S).bind fun x S1 => match x with
  | .v (.fn n) => (match tab.lookup n with
    | some g => (fs ρ S1).bind fun xs S2 => g xs S2
    | none => .bad)
  | _ => .bad := rfl
@[simp] theorem mDIn_ap {neg : Bool} {tab : List (PySem.Str × PySem.Str)} : mDIn neg tab f ρ S = (f ρ S).bind fun x S1 => match x with
  | .v (.str z) => .ok (.v (.bl (if neg then !(tab.lookup z).isSome else (tab.lookup z).isSome))) S1
  | _ => .bad := rfl
@[simp] theorem mDGet_ap {tab : List (PySem.Str × PySem.Str)} : mDGet tab f ρ S = (f ρ S).bind fun x S1 => match x with
  | .v (.str z) => (match tab.lookup z with
    | some m => .ok (.v (.fn m)) S1
    | none => .bad)
  | _ => .bad := rfl
@[simp] theorem sRaise_ap {c : PySem.Str} : sRaise c ρ S = .er ⟨c, none⟩ ρ S := rfl
@[simp] theorem gI_int {k : Int → Int → Option Val} {i j : Int} : gI k (.int i) (.int j) = k i j := rfl
theorem mkFn_ap {np n : Nat} {xs : List Val} (h : xs.length = np) : mkFn np n a xs S = leave S.length (a (xs.map some ++ List.replicate (n - np) none) S) := by
  unfold mkFn
  rw [if_pos h]
end
end M

namespace M
open PySem PySem.Spec PyProof.Rows L2

theorem kitCls_of {K : PySem.W.Frag} {C D' : Addr} {b : Bool} (h2 : PySem.W.isClsIn K D' = true) (h3 : PySem.W.typeIn K (.ref D') = some (.type "type")) (h4 : PySem.W.subIn K (.ref C) (.ref D') = some b) : PySem.W.kitCls K (.ref C) (.ref D') = some b := by
  have e2 : ((PySem.W.clsIn K D').isSome && PySem.W.typeIn K (.ref D') == some (.type "type")) = true := by
    have h2' : (PySem.W.clsIn K D').isSome = true := h2
    rw [h2', h3] <;> rfl
  show (if ((PySem.W.clsIn K D').isSome && PySem.W.typeIn K (.ref D') == some (.type "type")) = true then PySem.W.subIn K (.ref C) (.ref D') else none) = some b
  rw [if_pos e2]
  exact h4
theorem exm_of {K : PySem.W.Frag} {C D' : Addr} {b : Bool} (h1 : PySem.W.subIn K (.ref D') (.type "BaseException") = some true) (h2 : PySem.W.isClsIn K D' = true) (h3 : PySem.W.typeIn K (.ref D') = some (.type "type")) (h4 : PySem.W.subIn K (.ref C) (.ref D') = some b) :
    PySem.W.exmOne K (.ref C) (.ref D') = some b := by
  have e1 : (PySem.W.subIn K (.ref D') (.type "BaseException") == some true) = true := by rw [h1] <;> rfl
  show (if (PySem.W.subIn K (.ref D') (.type "BaseException") == some true) = true then PySem.W.kitCls K (.ref C) (.ref D') else none) = some b
  rw [if_pos e1]
  exact kitCls_of h2 h3 h4
theorem kit_of {K : PySem.W.Frag} {C D' : Addr} {b : Bool} (hne : (Value.ref C == Value.ref D') = false) (h2 : PySem.W.isClsIn K D' = true) (h3 : PySem.W.typeIn K (.ref D') = some (.type "type")) (h4 : PySem.W.subIn K (.ref C) (.ref D') = some b) : PySem.W.kitOne K (.ref C) (.ref D') = some b := by
  unfold PySem.W.kitOne
  rw [if_neg (by rw [hne]; exact Bool.false_ne_true)]
  exact kitCls_of h2 h3 h4
theorem kit_self {K : PySem.W.Frag} {C : Addr} : PySem.W.kitOne K (.ref C) (.ref C) = some true := by
  unfold PySem.W.kitOne
  have h : (Value.ref C == Value.ref C) = true := by
    first | exact beq_self_eq_true _ | simp [BEq.beq, instBEqValue.beq] | (unfold BEq.beq instBEqValue; simp)
  rw [if_pos h]
theorem kit_ne {K : PySem.W.Frag} {C D' : Addr} (h : PySem.W.kitOne K (.ref C) (.ref D') = some false) : ¬ C = D' := fun e => by
  subst e
  rw [kit_self] at h
  cases h
end M

namespace M
open PySem PySem.Spec PyProof.Rows L2

/-! ### range with a step -/
def uptoC (lo c : Int) (n : Nat) : List D := (List.range n).map fun i => .int (lo + (i : Nat) * c)
theorem ItOk.rngC {c : RC} {α : List Addr} {H : Hp} {lo st : Int} {n : Nat} : ItOk c α (Itc lo st n) H (.fix (uptoC lo st n)) := by
  intro H1 l i
  refine ⟨fun d hd => ?_, fun hn => ?_⟩
  · unfold uptoC at hd
    rw [List.getElem?_map] at hd
    by_cases hi : i < n
    · rw [List.getElem?_range hi] at hd
      cases hd
      exact ⟨hi, fun x H2 ⟨e1, e2⟩ => ⟨by subst e1; exact Same.refl _, by simp only [Rep]; exact e2⟩⟩
    · rw [List.getElem?_eq_none (by simpa using hi)] at hd
      cases hd
  · have := List.getElem?_eq_none_iff.mp hn
    show n ≤ i
    simpa [uptoC] using this
def rngOk3 (i j c : Int) : Bool := (fits62 i && (fits62 j && fits62 c)) && decide (c ≠ 0) && decide (c.natAbs < 1073741824) && Builtin.Range.small i j c && decide (Builtin.Range.rangeSize i j c = ((Builtin.Range.rangeSize i j c).toNat : Int))
def rng3 (xs : List Val) (S : Sto) : R Items := match xs with
  | [.v (.int i), .v (.int j), .v (.int c)] => if rngOk3 i j c = true then .ok (.fix (uptoC i c (Builtin.Range.rangeSize i j c).toNat)) S else .bad
  | _ => .bad
section
variable {X : Cx} {W : WX} {tg e : Expr}
theorem si_r3 {g : AM} (h : PI X tg e (iRng3 (tA (rc X) W g))) : SI X W tg e (mRng rng3 g) := by
  refine PI.imp h fun σ H R ⟨α, ρ, S, hE, hS, q⟩ => ⟨α, ρ, S, hE, hS, ?_⟩
  refine wpR_mono (wpR_bind q) (fun xs S1 h1 vs H1 α1 x1 s1 r1 => ?_) fun _ _ z => z
  unfold rng3 at h1
  split at h1
  · rename_i i j c
    by_cases hf : rngOk3 i j c = true
    · rw [if_pos hf] at h1
      obtain ⟨u, v, w, rfl, hu, hv, hw⟩ := r1.three
      have := hu.int
      subst this
      have := hv.int
      subst this
      have := hw.int
      subst this
      unfold rngOk3 at hf
      simp only [Bool.and_eq_true, decide_eq_true_eq] at hf
      exact ⟨i, j, c, _, rfl, ⟨hf.1.1.1.2, hf.1.1.2, hf.1.2, hf.2⟩, h1 _ H1 α1 x1 s1 .rngC⟩
    · rw [if_neg hf] at h1
      exact h1.elim
  · exact h1.elim
end

/-! ### zip, enumerate of two lists that never change -/
theorem listF_get {c : RC} {H H1 : Hp} {a : Addr} {xs : List V} {ds : List D} (l : LeH H H1) (h : KlL c.K H a xs) (r : Reps c H ds xs) : SqL c.K H1 a xs ∧ ds.length = xs.length ∧ ∀ (i : Nat) (d : D), ds[i]? = some d → ∃ x, xs[i]? = some x ∧ Rep c H1 d x :=
  ⟨(l.klL h).seq, r.length, fun i d hd => by
    obtain ⟨x, ex, rx⟩ := r.get hd
    exact ⟨x, ex, rx.mono l⟩⟩
def pairsD (ds es : List D) : List D := ds.zipWith (fun d e => .tup [d, e]) es
theorem tup2 {c : RC} {H : Hp} {T : Addr} {d e : D} {x y : V} (hT : H T = none) (rx : Rep c H d x) (ry : Rep c H e y) : Same H (upd H T (.tup [x, y])) ∧ Rep c (upd H T (.tup [x, y])) (.tup [d, e]) (.ref T) := by
  have sm : Same H (upd H T (.tup [x, y])) := same_upd hT
  refine ⟨sm, ?_⟩
  simp only [Rep]
  exact ⟨T, [x, y], rfl, upd_same, .cons (rx.mono (LeH.same sm)) (.one (ry.mono (LeH.same sm)))⟩
theorem ItOk.zip {c : RC} {α : List Addr} {H : Hp} {a b : Addr} {xs ys : List V} {ds es : List D} (h1 : KlL c.K H a xs) (r1 : Reps c H ds xs) (h2 : KlL c.K H b ys) (r2 : Reps c H es ys) : ItOk c α (Itz c.K a b) H (.fix (pairsD ds es)) := by
  intro H1 l i
  obtain ⟨s1, n1, g1⟩ := listF_get l h1 r1
  obtain ⟨s2, n2, g2⟩ := listF_get l h2 r2
  refine ⟨fun d hd => ?_, fun hn => ?_⟩
  · unfold pairsD at hd
    rw [List.getElem?_zipWith] at hd
    cases hd1 : ds[i]? with
    | none => rw [hd1] at hd; simp at hd
    | some p =>
      cases hd2 : es[i]? with
      | none => rw [hd1, hd2] at hd; simp at hd
      | some q =>
        rw [hd1, hd2] at hd
        cases hd
        obtain ⟨x, ex, rx⟩ := g1 i p hd1
        obtain ⟨y, ey, ry⟩ := g2 i q hd2
        refine ⟨⟨xs, ys, x, y, s1, s2, ex, ey⟩, fun v H2 hy => ?_⟩
        obtain ⟨T, x', y', rfl, hT, rfl, f1, f2⟩ := hy
        have e1 := f1 xs s1
        rw [ex] at e1
        cases e1
        have e2 := f2 ys s2
        rw [ey] at e2
        cases e2
        exact tup2 hT rx ry
  · have := List.getElem?_eq_none_iff.mp hn
    unfold pairsD at this
    rw [List.length_zipWith] at this
    exact ⟨xs, ys, s1, s2, by omega⟩
def numD' (ds : List D) : List D := (List.range ds.length).zipWith (fun i d => .tup [.int (i : Nat), d]) ds
theorem ItOk.enum {c : RC} {α : List Addr} {H : Hp} {a : Addr} {xs : List V} {ds : List D} (h1 : KlL c.K H a xs) (r1 : Reps c H ds xs) : ItOk c α (Ite c.K a) H (.fix (numD' ds)) := by
  intro H1 l i
  obtain ⟨s1, n1, g1⟩ := listF_get l h1 r1
  refine ⟨fun d hd => ?_, fun hn => ?_⟩
  · unfold numD' at hd
    rw [List.getElem?_zipWith] at hd
    cases hd2 : ds[i]? with
    | none => rw [hd2] at hd; cases hq : (List.range ds.length)[i]? <;> rw [hq] at hd <;> simp at hd
    | some q =>
      have hi : i < ds.length := (List.getElem?_eq_some_iff.mp hd2).1
      rw [List.getElem?_range hi, hd2] at hd
      cases hd
      obtain ⟨x, ex, rx⟩ := g1 i q hd2
      refine ⟨⟨xs, x, s1, ex⟩, fun v H2 hy => ?_⟩
      obtain ⟨T, x', rfl, hT, rfl, f1⟩ := hy
      have e1 := f1 xs s1
      rw [ex] at e1
      cases e1
      exact tup2 hT (by simp only [Rep]) rx
  · have := List.getElem?_eq_none_iff.mp hn
    unfold numD' at this
    rw [List.length_zipWith, List.length_range, Nat.min_self] at this
    exact ⟨xs, s1, by omega⟩
/-- a list that never changes -/
theorem RepA.listF {c : RC} {α : List Addr} {H : Hp} {x : Val} {v : V} {ds : List D} (r : RepA c α H x v) (h : x = .v (.lst ds) ∨ x = .v (.kl ds)) : ∃ a xs, v = .ref a ∧ KlL c.K H a xs ∧ Reps c H ds xs := by
  rcases h with rfl | rfl
  · have r' : Rep c H (.lst ds) v := r
    simp only [Rep] at r'
    obtain ⟨a, xs, e, ⟨o, q⟩, t⟩ := r'
    exact ⟨a, xs, e, .inl ⟨o, q⟩, t⟩
  · have r' : Rep c H (.kl ds) v := r
    simp only [Rep] at r'
    exact r'
def zipI (xs : List Val) (S : Sto) : R Items := match xs with
  | [.v (.lst ds), .v (.lst es)] => .ok (.fix (pairsD ds es)) S
  | _ => .bad
def enumI (xs : List Val) (S : Sto) : R Items := match xs with
  | [.v (.lst ds)] => .ok (.fix (numD' ds)) S
  | _ => .bad
section
variable {X : Cx} {W : WX} {tg e : Expr}
theorem si_zip {g : AM} (h : PI X tg e (iZip X.K (tA (rc X) W g))) : SI X W tg e (mRng zipI g) := by
  refine PI.imp h fun σ H R ⟨α, ρ, S, hE, hS, q⟩ => ⟨α, ρ, S, hE, hS, ?_⟩
  refine wpR_mono (wpR_bind q) (fun xs S1 h1 vs H1 α1 x1 s1 r1 => ?_) fun _ _ z => z
  unfold zipI at h1
  split at h1
  · rename_i ds es
    obtain ⟨v, w, rfl, hv, hw⟩ := r1.two
    obtain ⟨a, ys, rfl, k1, t1⟩ := hv.listF (.inl rfl)
    obtain ⟨b, zs, rfl, k2, t2⟩ := hw.listF (.inl rfl)
    exact ⟨a, b, ys, zs, rfl, k1.seq, k2.seq, h1 _ H1 α1 x1 s1 (.zip k1 t1 k2 t2)⟩
  · exact h1.elim
theorem si_enum {g : AM} (h : PI X tg e (iEnum X.K (tA (rc X) W g))) : SI X W tg e (mRng enumI g) := by
  refine PI.imp h fun σ H R ⟨α, ρ, S, hE, hS, q⟩ => ⟨α, ρ, S, hE, hS, ?_⟩
  refine wpR_mono (wpR_bind q) (fun xs S1 h1 vs H1 α1 x1 s1 r1 => ?_) fun _ _ z => z
  unfold enumI at h1
  split at h1
  · rename_i ds
    obtain ⟨v, rfl, hv⟩ := r1.one
    obtain ⟨a, ys, rfl, k1, t1⟩ := hv.listF (.inl rfl)
    exact ⟨a, ys, rfl, k1.seq, h1 _ H1 α1 x1 s1 (.enum k1 t1)⟩
  · exact h1.elim
end

/-! ### in place: *=, //=, and others -/
section
variable {X : Cx}
theorem ip_mul : PIp X .Mult (rI CMul fun i j => .int (i * j)) := iop_mul
theorem ip_shl : PIp X .LShift (rI CPow fun i j => .int (i * 2 ^ j.toNat)) := iop_shl
theorem ip_and : PIp X .BitAnd (rI0 fun i j => .int (Builtin.bitAnd i j)) := iop_and
theorem ip_fdivN : PIp X .FloorDiv (rI CDivN fun i j => .int (i.fdiv j)) := opI fun i j _ _ _ _ _ hc q => ifloordiv_int hc.1 q (.inl (PyProof.noPylong_small hc.2))
end

/-! ### o[i] = .. of a list, a dict at a place -/
def setO : Ob → Val → D → Option Ob
  | .li ds, .v (.int k), d => (L2.ixN ds.length k).map fun j => .li (ds.set j d)
  | .dk ks vs, .v q, d => match keyD q with
    | some k => if ks.length < lim then some (.dk (putKs ks k) (putVs ks vs k d)) else none
    | none => none
  | .dt ks vs, .v (.tup es), d => match keysD es with
    | some k => if ks.length < lim then some (.dt (putKs ks k) (putVs ks vs k d)) else none
    | none => none
  | _, _, _ => none
def rSetA : TSet := fun o i v H Q => rSetL o i v H Q ∨ rSetD o i v H Q
theorem set_any {X : Cx} (hu : X.A.units + 65 < cLine) : PSet X rSetA := by
  intro pins s σ H o i v ov iv u Q I ro ri rv h
  rcases h with h | h
  · exact set_list pins s σ H o i v ov iv u Q I ro ri rv h
  · exact set_dict (by omega) pins s σ H o i v ov iv u Q I ro ri rv h
theorem LeH.upd {H : Hp} {a : Addr} {u u' : HO} (eh : H a = some u) (fu : FrU u) : LeH H (L2.upd H a u') := fun b => ⟨fun ys q => by
    rw [upd_ne (fun z => by
      rw [z, eh] at q
      cases q
      exact fu)]
    exact q, fun o' w q => by
    rw [upd_ne (fun z => by
      rw [z, eh] at q
      cases q
      exact fu)]
    exact q⟩
theorem Ext.putU {α α' : List Addr} {H H' : Hp} {a : Addr} {u u' : HO} (x : Ext α α' H H') (ha : a ∈ α') (eh : H' a = some u) (fu : FrU u) : Ext α α' H (upd H' a u') := by
  refine ⟨x.pre, fun b w q nb => ?_, x.nw, x.le.trans (LeH.upd eh fu)⟩
  by_cases hb : b = a
  · subst hb
    have := x.nw b ha nb
    rw [q] at this
    cases this
  · rw [upd_ne hb]
    exact x.fr b w q nb
/-- the store behind it -/
theorem setO_ok {c : RC} {α : List Addr} {H : Hp} {S : Sto} {n : Nat} {a : Addr} {ob o' : Ob} {y : Val} {d : D} {w v : V} {R : Hp → Prop} (s : RelS c α H S) (ea : α[n]? = some a) (hq : S[n]? = some (some ob)) (ry : RepX c α H y w) (rv : Rep c H d v) (hs : setO ob y d = some o')
    (k : ∀ H', LeH H H' → (∀ α0 H0, Ext α0 α H0 H → Ext α0 α H0 H') → RelS c α H' (S.set n (some o')) → R H') : rSetA (.ref a) w v H R := by
  obtain ⟨b, eb, ro⟩ := s.at_ n ob hq
  rw [ea] at eb
  cases eb
  have fin : ∀ u u' : HO, H a = some u → FrU u → RepO c (upd H a u') o' a → R (upd H a u') := fun u u' eh fu r =>
    k _ (LeH.upd eh fu) (fun α0 H0 x => x.putU (List.mem_of_getElem? ea) eh fu) (s.putO ea eh fu r)
  cases ob with
  | li ds =>
    obtain ⟨xs, eh, rr⟩ := ro
    cases y with
    | v q =>
      cases q with
      | int kk =>
        have ew : w = .int kk := by
          have ry' : Rep c H (.int kk) w := ry
          simp only [Rep] at ry'
          exact ry'
        subst ew
        have hs' : (L2.ixN ds.length kk).map (fun j => Ob.li (ds.set j d)) = some o' := hs
        cases hj : L2.ixN ds.length kk with
        | none => rw [hj] at hs'; cases hs'
        | some j =>
          rw [hj] at hs'
          cases hs'
          exact .inl ⟨a, xs, kk, j, rfl, rfl, eh, by rw [← rr.length]; exact hj, fin _ _ eh trivial ⟨_, upd_same, (Reps.set rv j rr).mono (LeH.upd eh trivial)⟩⟩
      | _ => cases hs
    | l _ => cases hs
    | n _ => cases hs
  | dk ks vs =>
    obtain ⟨xs, eh, hl, rr⟩ := ro
    cases y with
    | v q =>
      have hs' : (match keyD q with
        | some k => if ks.length < lim then some (Ob.dk (putKs ks k) (putVs ks vs k d)) else none
        | none => none) = some o' := hs
      cases hk : keyD q with
      | none => rw [hk] at hs'; cases hs'
      | some kk =>
        rw [hk] at hs'
        obtain ⟨hc, rfl⟩ := ite_some hs'
        have ew : w = kV kk := keyD_rep hk ry
        obtain ⟨xs', e1, e2, e3⟩ := put_zip (k := kk) rv hl rr
        refine .inr ⟨a, _, rfl, .inl ⟨_, kk, eh, ew, ?_, rfl⟩, fin _ _ eh trivial ⟨xs', by rw [upd_same, e1], e2, e3.mono (LeH.upd eh trivial)⟩⟩
        rw [List.length_zip, ← hl, Nat.min_self, lim_eq]
        exact hc
    | l _ => cases hs
    | n _ => cases hs
  | dt ks vs =>
    obtain ⟨xs, eh, hl, rr⟩ := ro
    cases y with
    | v q =>
      cases q with
      | tup es =>
        have hs' : (match keysD es with
          | some k => if ks.length < lim then some (Ob.dt (putKs ks k) (putVs ks vs k d)) else none
          | none => none) = some o' := hs
        cases hk : keysD es with
        | none => rw [hk] at hs'; cases hs'
        | some kk =>
          rw [hk] at hs'
          obtain ⟨hc, rfl⟩ := ite_some hs'
          have ry' : Rep c H (.tup es) w := ry
          simp only [Rep] at ry'
          obtain ⟨b, ys, rfl, hb, hry⟩ := ry'
          rw [keysD_rep hk hry] at hb
          obtain ⟨xs', e1, e2, e3⟩ := put_zip (k := kk) rv hl rr
          refine .inr ⟨a, _, rfl, .inr ⟨_, kk, b, eh, rfl, hb, ?_, rfl⟩, fin _ _ eh trivial ⟨xs', by rw [upd_same, e1], e2, e3.mono (LeH.upd eh trivial)⟩⟩
          rw [List.length_zip, ← hl, Nat.min_self, lim_eq]
          exact hc
      | _ => cases hs
    | l _ => cases hs
    | n _ => cases hs
  | fz _ => cases y <;> cases hs
def gIxS (fo fi : VM) : GM := fun d ρ S => (fo ρ S).bind fun x S1 => (fi ρ S1).bind fun y S2 => match x with
  | .l n => (match S2[n]? with
    | some (some o) => (match setO o y d with
      | some o' => .ok ρ (S2.set n (some o'))
      | none => .bad)
    | _ => .bad)
  | _ => .bad
theorem sg_sub {X : Cx} {o i : Expr} {pos : Pos} {fo fi : VM} (hu : X.A.units + 65 < cLine) (ho : SV X W0 o fo) (hi : SV X W0 i fi) (ha : ∀ v, assign (.Subscript o i pos) X.env v = (do
      let ov ← holding [v] (eval o X.env)
      let iv ← holding [v, ov] (eval i X.env)
      standAt pos
      holding [v, ov, iv] (setItem ov iv v)
      release [v, ov, iv] []) := by intro _; rfl) : SG X (.Subscript o i pos) (gIxS fo fi) := by
  refine PG.imp (pg_sub ho hi (set_any hu) ha) fun v σ H Q ⟨α, ρ, S, d, hE, hS, r, q⟩ => ⟨α, ρ, S, hE, hS, ?_⟩
  refine wpR_mono (wpR_bind q) (fun x S1 h1 u H1 α1 x1 s1 r1 f1 => ?_) fun _ _ z => z.elim
  refine ⟨α1, ρ, S1, hE.mono x1, s1, ?_⟩
  refine wpR_mono (wpR_bind h1) (fun y S2 h2 w H2 α2 x2 s2 r2 f2 => ?_) fun _ _ z => z.elim
  cases x with
  | v d => exact h2.elim
  | n o => exact h2.elim
  | l n =>
    dsimp only at h2
    obtain ⟨a, ea, rfl⟩ := r1
    have ea2 : α2[n]? = some a := pre_get x2.pre ea
    cases hq : S2[n]? with
    | none => rw [hq] at h2; exact h2.elim
    | some o2 =>
      rw [hq] at h2
      cases o2 with
      | none => exact h2.elim
      | some ob =>
        dsimp only at h2
        cases hs : setO ob y d with
        | none => rw [hs] at h2; exact h2.elim
        | some o' =>
          rw [hs] at h2
          have x12 := x1.trans x2
          refine setO_ok s2 ea2 hq r2 (r.mono x12.le) hs fun H' l ext s3 => ?_
          have x3 := ext _ _ x12
          exact h2 σ H' α2 x3 (hE.mono x3) s3
/-! ### a, b, .. = a list -/
def gTl (n : Nat) (g : GMs) : GM := fun d ρ S => match d with
  | .lst ds => if ds.length = n then g ds ρ S else .bad
  | _ => .bad
theorem sg_tupL {X : Cx} {es : List Expr} {k n : Nat} {pos : Pos} {g : GMs} (hc : X.calm = true) (h : SGs X es g) (hn : (assignEach es X.env).length = n := by rfl) (hst : (assignEach es X.env).findIdx? (·.1) = none := by rfl) : SG X (.Tuple es k pos) (gTl n g) := by
  refine PG.imp (pg_lst hc h hn hst) fun v σ H Q ⟨α, ρ, S, d, hE, hS, r, q⟩ => ?_
  cases d with
  | lst ds =>
    simp only [Rep] at r
    obtain ⟨a, xs, rfl, ⟨o, sq⟩, r⟩ := r
    unfold gTl at q
    dsimp only at q
    by_cases hl : ds.length = n
    · rw [if_pos hl] at q
      exact ⟨a, xs, rfl, .inl (.inr ⟨o, sq⟩), by rw [← r.length]; exact hl, α, ρ, S, ds, hE, hS, r, q⟩
    · rw [if_neg hl] at q
      exact q.elim
  | _ => exact q.elim
end M

namespace M
open PySem PySem.Spec PyProof.Rows L2

/-! ### list(range(..)) -/
def intV (lo : Int) (n : Nat) : List V := (List.range n).map fun i => .int (lo + (i : Nat))
theorem Reps.upto {c : RC} {H : Hp} {lo : Int} {n : Nat} : Reps c H (upto lo n) (intV lo n) := by
  unfold M.upto intV
  generalize List.range n = l
  induction l with
  | nil => exact .nil
  | cons a l ih => exact .cons (by simp only [Rep]) ih
section
variable {X : Cx} {W : WX}
theorem cr_range1 : CallR X (.type "range") (fun vs H Q => ∃ j, vs = [V.int j] ∧ ∀ p, H p = none → Q (.ref p) (upd H p (.rng 0 j))) := by
  intro pins s σ H vs us Q I r h
  obtain ⟨j, rfl, q⟩ := h
  obtain ⟨u1, rfl, rj⟩ := vals1 r
  obtain ⟨u, rfl⟩ := rj
  refine call_range_1 ⟨.ref s.heap.objs.size, upd H s.heap.objs.size (.rng 0 j), I.laid (t' := s.toks + 1 + 1) (fun b o e => Heap.get?_push_of_some _ e) (Nat.le_refl _) ?_, rfl, q _ (I.hok.fresh (Nat.le_refl _))⟩
  exact ⟨_, _, _, Heap.get?_push_size _ rfl⟩
theorem size_one (i j : Int) : Builtin.Range.rangeSize i j 1 = ((j - i).toNat : Int) := by
  unfold Builtin.Range.rangeSize
  rw [if_pos (by decide)]
  split <;> omega
/-- list(r) of a range -/
def rListR : List V → Hp → VK → Prop := fun vs H Q => ∃ p i j, vs = [.ref p] ∧ H p = some (.rng i j) ∧ (-(2 ^ 62) ≤ i ∧ i < 2 ^ 62 ∧ -(2 ^ 62) ≤ j ∧ j < 2 ^ 62) ∧ (j - i).toNat ≤ lim ∧ ∀ l, H l = none → Q (.ref l) (upd H l (.lst (intV i (j - i).toNat)))
theorem vals_of_items {lo : Int} : ∀ (n : Nat) (acc : Array Value), ItemsOf (fun i v => ∃ t, v = Value.int (lo + i * 1) t) acc n → Vals (intV lo n) acc.toList := by
  intro n acc h
  obtain ⟨h1, h2⟩ := h
  have hl : acc.toList.length = n := by simpa using h1
  have key : ∀ (k : Nat) (l : List Value) (m : Nat), l.length = k → (∀ i v, l[i]? = some v → ∃ t, v = Value.int (lo + ((m + i : Nat) : Int) * 1) t) → Vals ((List.range' m k).map fun i => V.int (lo + (i : Nat))) l := by
    intro k
    induction k with
    | zero =>
      intro l m hk _
      match l, hk with
      | [], _ => exact .nil
    | succ k ih =>
      intro l m hk hv
      match l, hk with
      | v :: l, hk =>
        obtain ⟨t, e⟩ := hv 0 v rfl
        rw [List.range'_succ, List.map_cons]
        refine .cons ⟨t, ?_⟩ (ih l (m + 1) (by simpa using hk) fun i w hw => ?_)
        · rw [e]
          simp
        · obtain ⟨t, e⟩ := hv (i + 1) w (by simpa using hw)
          exact ⟨t, by rw [e]; congr 2; omega⟩
  have := key n acc.toList 0 hl fun i v hv => by
    have hv' : acc[i]? = some v := by simpa using hv
    have hi : i < n := by
      have := (Array.getElem?_eq_some_iff.mp hv').1
      omega
    obtain ⟨t, e⟩ := h2 i v hv'
    exact ⟨t, by rw [e]; simp⟩
  unfold intV
  rw [List.range_eq_range']
  exact this
theorem call_list_rng (hc : X.calm = true) : CallR X (.type "list") rListR := by
  intro pins s σ H vs us Q I r h
  obtain ⟨p, i, j, rfl, hp, ⟨b1, b2, b3, b4⟩, hn, q⟩ := h
  obtain ⟨u1, rfl, rj⟩ := vals1 r
  cases rj
  obtain ⟨t, u, v, hg⟩ := I.hok p _ hp
  have ir : IsRange s.heap p i j 1 t u v := hg
  have hz : (j - i).toNat ≤ sizeLine := by rw [lim_eq]; exact hn
  refine call_list_range (I.ok.hd hc) ir (PySem.small_one b1 b2 b3 b4) (size_one i j) (by unfold lim at hn; omega) fun h' tk acc c' hk hS hacc => ?_
  have hv := vals_of_items _ _ hacc
  have new : ObjOk X.prog X.w (upd H s.heap.objs.size (.lst (intV i (j - i).toNat))) h' s.heap.objs.size (.lst (intV i (j - i).toNat)) :=
    ⟨by unfold intV; rw [List.length_map, List.length_range]; exact hz, acc.toList, c', hv, by simpa using hS⟩
  exact ⟨.ref s.heap.objs.size, _, I.laid (t' := tk) hk (Nat.le_refl _) new, rfl, q _ (I.hok.fresh (Nat.le_refl _))⟩
/-- list(range(..)): the arguments tell the bounds -/
def lrng1 (xs : List Val) (S : Sto) : R Val := match xs with
  | [.v (.int j)] => if fits62 j = true ∧ (j - 0).toNat ≤ lim then .ok (.n (.li (upto 0 (j - 0).toNat))) S else .bad
  | _ => .bad
def lrng2 (xs : List Val) (S : Sto) : R Val := match xs with
  | [.v (.int i), .v (.int j)] => if (fits62 i && fits62 j) = true ∧ (j - i).toNat ≤ lim then .ok (.n (.li (upto i (j - i).toNat))) S else .bad
  | _ => .bad
def mLR (k : List Val → Sto → R Val) (g : AM) : VM := fun ρ S => (g ρ S).bind k
theorem newRng {c : RC} {Q : VK} {α α1 : List Addr} {H H1 : Hp} {S1 : Sto} {lo : Int} {n : Nat} {p : Addr} {o : HO} (x1 : Ext α α1 H H1) (s1 : RelS c α1 H1 S1) (hp : H1 p = none) (h : okV c Q α H (.n (.li (upto lo n))) S1) :
    ∀ l, (upd H1 p o) l = none → Q (.ref l) (upd (upd H1 p o) l (.lst (intV lo n))) := fun l hl => by
  have sm1 : Same H1 (upd H1 p o) := same_upd hp
  have sm2 : Same (upd H1 p o) (upd (upd H1 p o) l (.lst (intV lo n))) := same_upd hl
  have hl1 : H1 l = none := by
    by_cases e : l = p
    · subst e
      exact hp
    · rw [upd_ne e] at hl
      exact hl
  have hl0 : H l = none := by
    cases q : H l with
    | none => rfl
    | some u =>
      by_cases hm : l ∈ α
      · have hm1 : l ∈ α1 := by
          obtain ⟨β, rfl⟩ := x1.pre
          exact List.mem_append_left _ hm
        exact absurd hl1 (s1.tr l hm1)
      · rw [x1.fr l u q hm] at hl1
        cases hl1
  refine h (.ref l) _ α1 (x1.trans (.of_same (sm1.trans sm2))) ((s1.same sm1).same sm2) ⟨l, rfl, ⟨intV lo n, upd_same, .upto⟩, ?_⟩ fun a e => ?_
  · intro hm
    exact absurd hl1 (s1.tr l hm)
  · cases e
    exact hl0
theorem sv_lr1 {e : Expr} {g : AM} (p : PE X e (tCB rListR (tCons (tCB (fun vs H Q => ∃ j, vs = [V.int j] ∧ ∀ p, H p = none → Q (.ref p) (upd H p (.rng 0 j))) (tA (rc X) W g)) tNil))) : SV X W e (mLR lrng1 g) := PE.imp p fun σ H Q ⟨α, ρ, S, hE, hS, q⟩ => by
  refine ⟨α, ρ, S, hE, hS, ?_⟩
  refine wpR_mono (wpR_bind q) (fun xs S1 h1 vs H1 α1 x1 s1 r1 => ?_) fun _ _ z => z
  unfold lrng1 at h1
  split at h1
  · rename_i j
    by_cases hf : fits62 j = true ∧ (j - 0).toNat ≤ lim
    · rw [if_pos hf] at h1
      obtain ⟨v, rfl, hv⟩ := r1.one
      have := hv.int
      subst this
      obtain ⟨f1, f2⟩ := fits62_of hf.1
      refine ⟨j, rfl, fun p hp => ?_⟩
      exact ⟨p, 0, j, rfl, upd_same, ⟨by decide, by decide, f1, f2⟩, hf.2, newRng x1 s1 hp h1⟩
    · rw [if_neg hf] at h1
      exact h1.elim
  · exact h1.elim
theorem sv_lr2 {e : Expr} {g : AM} (p : PE X e (tCB rListR (tCons (tCB (fun vs H Q => ∃ i j, vs = [V.int i, V.int j] ∧ ∀ p, H p = none → Q (.ref p) (upd H p (.rng i j))) (tA (rc X) W g)) tNil))) : SV X W e (mLR lrng2 g) := PE.imp p fun σ H Q ⟨α, ρ, S, hE, hS, q⟩ => by
  refine ⟨α, ρ, S, hE, hS, ?_⟩
  refine wpR_mono (wpR_bind q) (fun xs S1 h1 vs H1 α1 x1 s1 r1 => ?_) fun _ _ z => z
  unfold lrng2 at h1
  split at h1
  · rename_i i j
    by_cases hf : (fits62 i && fits62 j) = true ∧ (j - i).toNat ≤ lim
    · rw [if_pos hf] at h1
      obtain ⟨v, w, rfl, hv, hw⟩ := r1.two
      have := hv.int
      subst this
      have := hw.int
      subst this
      obtain ⟨hf1, hf2⟩ := hf
      rw [Bool.and_eq_true] at hf1
      obtain ⟨f1, f2⟩ := fits62_of hf1.1
      obtain ⟨f3, f4⟩ := fits62_of hf1.2
      refine ⟨i, j, rfl, fun p hp => ?_⟩
      exact ⟨p, i, j, rfl, upd_same, ⟨f1, f2, f3, f4⟩, hf2, newRng x1 s1 hp h1⟩
    · rw [if_neg hf] at h1
      exact h1.elim
  · exact h1.elim
end
@[simp] theorem mLR_ap {k : List Val → Sto → R Val} {g : AM} {ρ : MEnv} {S : Sto} : mLR k g ρ S = (g ρ S).bind k := rfl
end M

namespace M
open PySem PySem.Spec PyProof.Rows L2

/-! ### xs[lo:hi:st] of a list -/
def stepIx (lo hi : Option Int) (st : Int) (n : Nat) : List Nat := sliceRange (sliceBounds lo hi (some st) n).1 (sliceBounds lo hi (some st) n).2.1 (sliceBounds lo hi (some st) n).2.2
def pickD {α : Type} (xs : List α) (lo hi : Option Int) (st : Int) : List α := (stepIx lo hi st xs.length).filterMap fun i => xs[i]?
theorem Vals.get' {xs : List V} {its : List Value} (r : Vals xs its) : ∀ i : Nat, (xs[i]? = none ∧ its[i]? = none) ∨ ∃ x u, xs[i]? = some x ∧ its[i]? = some u ∧ RelV x u := by
  intro i
  cases hx : xs[i]? with
  | none =>
    have := List.getElem?_eq_none_iff.mp hx
    have hl := r.length
    exact .inl ⟨rfl, List.getElem?_eq_none (by omega)⟩
  | some x =>
    obtain ⟨u, hu, ru⟩ := r.get hx
    exact .inr ⟨x, u, rfl, hu, ru⟩
theorem vals_pick {xs : List V} {its : List Value} (r : Vals xs its) : ∀ l : List Nat, Vals (l.filterMap fun i => xs[i]?) (l.filterMap fun i => its[i]?)
  | [] => .nil
  | i :: l => by
    rcases Vals.get' r i with ⟨h1, h2⟩ | ⟨x, u, h1, h2, ru⟩
    · rw [List.filterMap_cons_none h1, List.filterMap_cons_none h2]
      exact vals_pick r l
    · rw [List.filterMap_cons_some h1, List.filterMap_cons_some h2]
      exact .cons ru (vals_pick r l)
theorem reps_pick {c : RC} {H : Hp} {ds : List D} {xs : List V} (r : Reps c H ds xs) : ∀ l : List Nat, Reps c H (l.filterMap fun i => ds[i]?) (l.filterMap fun i => xs[i]?)
  | [] => .nil
  | i :: l => by
    cases hd : ds[i]? with
    | none =>
      have := List.getElem?_eq_none_iff.mp hd
      have hl := r.length
      rw [List.filterMap_cons_none hd, List.filterMap_cons_none (List.getElem?_eq_none (by omega))]
      exact reps_pick r l
    | some d =>
      obtain ⟨x, ex, rx⟩ := r.get hd
      rw [List.filterMap_cons_some hd, List.filterMap_cons_some ex]
      exact .cons rx (reps_pick r l)
theorem pickD_length {α : Type} {xs : List α} {lo hi : Option Int} {st : Int} : (pickD xs lo hi st).length ≤ (stepIx lo hi st xs.length).length := List.length_filterMap_le _ _
def rSl3 (K : PySem.W.Frag) : V → Option Int → Option Int → Option Int → Hp → VK → Prop := fun x lo hi so H Q => ∃ a xs st, x = .ref a ∧ SqL K H a xs ∧ so = some st ∧ st ≠ 0 ∧ (pickD xs lo hi st).length ≤ sizeLine ∧ ∀ p, H p = none → Q (.ref p) (upd H p (.lst (pickD xs lo hi st)))
def tSl3 (r : V → Option Int → Option Int → Option Int → Hp → VK → Prop) (te : TE) (tl th ts : TO) : TE := fun σ H Q => te σ H fun x H1 => tl σ H1 fun l H2 => th σ H2 fun u H3 => ts σ H3 fun st H4 => r x l u st H4 Q
section
variable {X : Cx} {W : WX} {e : Expr} {lo hi : Option Expr} {se : Expr} {p2 pos : Pos}
theorem pe_slice3 {te : TE} {tl th ts : TO} (he : PE X e te) (hl : PO X lo tl) (hu : PO X hi th) (hs : PO X (some se) ts) : PE X (.Subscript e (.Slice lo hi (some se) p2) pos) (tSl3 (rSl3 X.K) te tl th ts) := by
  refine ⟨fun pins s σ H Q I h => ?_⟩
  refine Subscript_ (thn (he.run pins s σ H _ I h) fun v s1 ⟨x, H1, I1, r1, q1⟩ => ?_)
  refine wpAny_Slice (thn (hl.run pins s1 σ H1 _ I1 q1) fun vl s2 ⟨l, H2, I2, pl, q2⟩ => thn (hu.run pins s2 σ H2 _ I2 q2) fun vu s3 ⟨u, H3, I3, pu, q3⟩ => thn (hs.run pins s3 σ H3 _ I3 q3) fun vs s4 ⟨so, H4, I4, ps, q4⟩ => ?_)
  obtain ⟨a, xs, st, rfl, hx, rfl, h0, hz2, q⟩ := q4
  cases r1
  have I5 : Inv X pins σ H4 { s4 with heap := s4.heap.push { cls := .type "slice", data := .fields #[vl, vu, vs] } } := I4.kept (t' := s4.toks) fun b ob q => Heap.get?_push_of_some _ q
  obtain ⟨its, r, ht, hz⟩ := I5.list hx
  have hlen := r.length
  have hg : wpAny (model X.prog X.w) X.A (getItem (.ref a) (.ref s4.heap.objs.size)) (EP X pins σ Q) X.xe { s4 with heap := s4.heap.push { cls := .type "slice", data := .fields #[vl, vu, vs] } } := by
    refine wpAny_getItem_list_slice ht.isList (Heap.IsSliceOf.new ..) pl pu ps (fun e => h0 (Option.some.inj e)) ?_ (by rw [List.size_toArray]; omega)
    have ep : slicePick its.toArray l u (some st) = ((stepIx l u st xs.length).filterMap fun i => its[i]?).toArray := by
      unfold slicePick stepIx
      rw [List.size_toArray, hlen]
      simp
    rw [ep]
    refine ⟨.ref _, _, I5.laid (t' := s4.toks) (o := .lst (pickD xs l u st)) (fun b ob q => Heap.get?_push_of_some _ q) (Nat.le_refl _) ?_, rfl, q _ (I5.hok.fresh (Nat.le_refl _))⟩
    exact ⟨hz2, _, 0, vals_pick r _, Heap.get?_push_size _ rfl⟩
  show wpAny (model X.prog X.w) X.A (subscriptTail e (.Slice lo hi (some se) p2) (.ref a) (.ref s4.heap.objs.size)) (EP X pins σ Q) X.xe { s4 with heap := s4.heap.push { cls := .type "slice", data := .fields #[vl, vu, vs] } }
  exact tail_any (ops := [.ref a, .ref s4.heap.objs.size]) ht.isList.typeIs slot_list_getitem.lookup hg (by with_unfolding_all rfl)
def gSl3 (lo hi so : Option Int) : D → Option Val
  | .lst ds => match so with
    | some st => if st ≠ 0 ∧ (pickD ds lo hi st).length ≤ lim then some (.n (.li (pickD ds lo hi st))) else none
    | none => none
  | _ => none
def mSl3 (f : VM) (lo hi st : OM) : VM := fun ρ S => (f ρ S).bind fun x S1 => (lo ρ S1).bind fun l S2 => (hi ρ S2).bind fun u S3 => (st ρ S3).bind fun so S4 => ap1 (gSl3 l u so) S4 x
theorem og_sl3 {lo hi so : Option Int} : UnG X (fun x H Q => rSl3 X.K x lo hi so H Q) (gSl3 lo hi so) := by
  intro H p x z Q rx hz k
  cases p with
  | lst ds =>
    unfold gSl3 at hz
    dsimp only at hz
    cases so with
    | none => cases hz
    | some st =>
      dsimp only at hz
      obtain ⟨⟨h1, h2⟩, rfl⟩ := ite_some hz
      obtain ⟨a, xs, rfl, q, r⟩ := rx.seqL
      have e : Reps (rc X) H (pickD ds lo hi st) (pickD xs lo hi st) := by
        unfold pickD
        rw [← r.length]
        exact reps_pick r _
      exact ⟨a, xs, st, rfl, q, rfl, h1, by rw [← e.length, lim_eq]; exact h2, k.new e⟩
  | _ => cases hz
theorem sv_slice3 {f : VM} {l u st : OM} (h : SV X W e f) (hl : SO X W lo l) (hu : SO X W hi u) (hs : SO X W (some se) st) : SV X W (.Subscript e (.Slice lo hi (some se) p2) pos) (mSl3 f l u st) := by
  refine PE.imp (pe_slice3 h hl hu hs) fun σ H Q ⟨α, ρ, S, hE, hS, q⟩ => ⟨α, ρ, S, hE, hS, ?_⟩
  refine wpR_mono (wpR_bind q) (fun x S1 h1 v H1 α1 x1 s1 r1 f1 => ?_) fun _ _ z => z
  refine ⟨α1, ρ, S1, hE.mono x1, s1, ?_⟩
  refine wpR_mono (wpR_bind h1) (fun l S2 h2 H2 α2 x2 s2 => ?_) fun _ _ z => z.mono x1
  have x12 := x1.trans x2
  refine ⟨α2, ρ, S2, hE.mono x12, s2, ?_⟩
  refine wpR_mono (wpR_bind h2) (fun u S3 h3 H3 α3 x3 s3 => ?_) fun _ _ z => z.mono x12
  have x13 := x12.trans x3
  refine ⟨α3, ρ, S3, hE.mono x13, s3, ?_⟩
  refine wpR_mono (wpR_bind h3) (fun so S4 h4 H4 α4 x4 s4 => ?_) fun _ _ z => z.mono x13
  have x14 := x13.trans x4
  exact ap1_ok (r := fun x H Q => rSl3 X.K x l u so H Q) og_sl3 s4 (r1.mono (x2.trans (x3.trans x4))) (wpR_mono h4 (fun z S' k => k.mono x14) fun _ _ z => z)
end
@[simp] theorem mSl3_ap {f : VM} {l u st : OM} {ρ : MEnv} {S : Sto} : mSl3 f l u st ρ S = (f ρ S).bind fun x S1 => (l ρ S1).bind fun l S2 => (u ρ S2).bind fun u S3 => (st ρ S3).bind fun so S4 => ap1 (gSl3 l u so) S4 x := rfl

/-! ### a, b, c = x, y, z -/
def sPar3 (i j l : Nat) (g : AM) : SM := fun ρ S => ofR (g ρ S) ρ fun xs S1 => match xs with
  | [x, y, z] => .nx (((ρ.set i (some x)).set j (some y)).set l (some z)) S1
  | _ => .bad
theorem ss_par3 {X : Cx} {W : WX} {st : Stmt} {i j l : Nat} {g : AM} (h : PS X st (tPar3 i j l (tA (rc X) W g))) : SS X W st (sPar3 i j l g) := by
  refine PS.imp h fun D σ H ⟨α, ρ, S, hE, hS, q⟩ => ⟨α, ρ, S, hE, hS, ?_⟩
  refine wpR_mono (wpS_ofR hE q) (fun xs S1 h1 vs H1 α1 x1 s1 r1 => ?_) fun _ _ z => z
  split at h1
  · rename_i x y z
    cases r1 with
    | cons ra t =>
      cases t with
      | cons rb t =>
        cases t with
        | cons rd t =>
          cases t
          exact ⟨_, _, _, rfl, h1 _ H1 α1 x1 ((((hE.mono x1).set ra i).set rb j).set rd l) s1⟩
  · exact h1.elim
@[simp] theorem sPar3_ap {i j l : Nat} {g : AM} {ρ : MEnv} {S : Sto} : sPar3 i j l g ρ S = ofR (g ρ S) ρ fun xs S1 => match xs with
  | [x, y, z] => .nx (((ρ.set i (some x)).set j (some y)).set l (some z)) S1
  | _ => .bad := rfl
@[simp] theorem sAsg_ap {f : VM} {g : GM} {ρ : MEnv} {S : Sto} : sAsg f g ρ S = ofR (f ρ S) ρ fun x S1 => match x with
  | .v d => (match g d ρ S1 with
    | .ok ρ2 S2 => .nx ρ2 S2
    | _ => .bad)
  | _ => .bad := rfl
@[simp] theorem gIxS_ap {fo fi : VM} {d : D} {ρ : MEnv} {S : Sto} : gIxS fo fi d ρ S = (fo ρ S).bind fun x S1 => (fi ρ S1).bind fun y S2 => match x with
  | .l n => (match S2[n]? with
    | some (some o) => (match setO o y d with
      | some o' => .ok ρ (S2.set n (some o'))
      | none => .bad)
    | _ => .bad)
  | _ => .bad := rfl
@[simp] theorem setO_li {ds : List D} {k : Int} {d : D} : setO (.li ds) (.v (.int k)) d = (L2.ixN ds.length k).map fun j => .li (ds.set j d) := rfl
@[simp] theorem setO_dk {ks : List DKey} {vs : List D} {q d : D} : setO (.dk ks vs) (.v q) d = (match keyD q with
  | some k => if ks.length < lim then some (.dk (putKs ks k) (putVs ks vs k d)) else none
  | none => none) := rfl
@[simp] theorem setO_dt {ks : List (List DKey)} {vs : List D} {es : List D} {d : D} : setO (.dt ks vs) (.v (.tup es)) d = (match keysD es with
  | some k => if ks.length < lim then some (.dt (putKs ks k) (putVs ks vs k d)) else none
  | none => none) := rfl
end M

namespace M
open PySem PySem.Spec PyProof.Rows L2

/-! ### list(zip(a, b)) -/
section
variable {prog : Program} {w : World} {A : Around} {E : Value → Shared → Prop} {s : Shared}
theorem wpAny_alive {M : Model} {a : Addr} {Q : Option Obj → Shared → Prop} (h : Q (s.heap.get? a) s) : wpAny M A (loadIfAlive a) Q E s := fun Γ p hΓ => by
  show Sem.wp M Γ (Sem.loadIfAlive a .pure) (fun a _ s' => Q a s') (fun e _ s' => E e s') p s
  rw [Sem.wp_loadIfAlive]
  exact (wpAny_pure (M := M) (A := A) (E := E) h) Γ p hΓ
/-- a zip that has handed out its tuple T, which is held -/
abbrev zipO (T : Int) (b : Bool) (TI TO : Addr) : Obj := { cls := .type "zip", dict := none, data := .fields #[rawInt T, .bool b, .bool false, .ref TI, .ref TO], slots := #[] }
theorem kept_free {z TI TO T : Addr} {b : Bool} {Q : Bool → Shared → Prop} (hz : s.heap.get? z = some (zipO T b TI TO)) (hT : ∃ o, s.heap.get? T = some o)
    (hQ : ∀ h', h'.get? z = some (zipO T true TI TO) → Heap.SameBut z s.heap h' → Q false { s with heap := h' }) :
    wpAny (model prog w) A (Builtin.SmallTypes.ownedTupleIsFree (.ref z)) Q E s := by
  obtain ⟨o, ho⟩ := hT
  unfold Builtin.SmallTypes.ownedTupleIsFree
  refine wpAny_bind (wpAny_field hz rfl (x := rawInt T) rfl ?_)
  show wpAny _ _ (loadIfAlive (T : Int).toNat >>= _) _ _ _
  refine wpAny_bind (wpAny_alive ?_)
  rw [show ((T : Int)).toNat = T from Int.toNat_natCast T, ho]
  simp only [Option.isNone_some, Bool.false_eq_true, if_false]
  refine wpAny_bind (wpAny_field hz rfl (x := .bool b) rfl ?_)
  cases b with
  | true =>
    rw [if_neg (by decide)]
    exact wpAny_pure (hQ s.heap hz (Heap.SameBut.refl _ _))
  | false =>
    rw [if_pos (by decide)]
    refine wpAny_bind (wpAny_setField_rec hz (by simp) fun h₁ hz₁ hs₁ => ?_)
    exact wpAny_pure (hQ h₁ hz₁ hs₁)
theorem zip_next_kept {z TI TO T i1 i2 l1 l2 : Addr} {bb : Bool} {k1 k2 : Nat} {xs ys : Array Value} {x y : Value} {Q : Value → Shared → Prop} (D : ZipApart z TI TO i1 i2 l1 l2)
    (hz : s.heap.get? z = some (zipO T bb TI TO)) (hT : ∃ o, s.heap.get? T = some o) (hTI : IsPair s.heap TI (.ref i1) (.ref i2))
    (h1 : s.heap.IsListIter i1 l1 k1) (h2 : s.heap.IsListIter i2 l2 k2) (hl1 : s.heap.IsList l1 xs) (hl2 : s.heap.IsList l2 ys) (hx : xs[k1]? = some x) (hy : ys[k2]? = some y)
    (hQ : ∀ h', h'.get? z = some (zipO T true TI TO) → h'.IsListIter i1 l1 (k1 + 1) → h'.IsListIter i2 l2 (k2 + 1) → IsPair h' s.heap.objs.size x y →
      (∀ c o, c ≠ z → c ≠ i1 → c ≠ i2 → s.heap.get? c = some o → h'.get? c = some o) → Q (.ref s.heap.objs.size) { s with heap := h' }) :
    wpAny (model prog w) A (Builtin.«zip.__next__» ⟨[.ref z], []⟩) (fun fin s' => ∃ v, fin = .done (.ret v) ∧ Q v s') E s := by
  show wpAny _ _ (field (.ref z) 2 >>= _) _ _ _
  refine wpAny_bind (wpAny_field hz rfl (x := .bool false) rfl ?_)
  show wpAny _ _ (field (.ref z) 3 >>= _) _ _ _
  refine wpAny_bind (wpAny_field hz rfl (x := .ref TI) rfl ?_)
  refine wpAny_bind (wpAny_seqItems hTI rfl ?_)
  show wpAny _ _ (Builtin.SmallTypes.ownedTupleIsFree (.ref z) >>= _) _ _ _
  refine wpAny_bind (kept_free hz hT fun ha hza hsa => ?_)
  simp only [Bool.false_eq_true, if_false]
  refine wpAny_bind ?_
  simp only [List.forIn_cons, List.forIn_nil, Array.forIn_toList, List.forIn_toArray]
  have h1a := h1.extBut hsa.extBut D.i1z
  have h2a := h2.extBut hsa.extBut D.i2z
  have hl1a := hl1.extBut hsa.extBut D.l1z
  have hl2a := hl2.extBut hsa.extBut D.l2z
  refine wpAny_bind (wpAny_bind (wpAny_holding ?_))
  show wpAny _ _ (Builtin.SmallTypes.nextOf (.ref i1) >>= _) _ _ _
  refine wpAny_bind (wpAny_nextOf_list_item h1a hl1a hx fun hb h1b hsb => wpAny_pure (wpAny_pure ?_))
  have h2b := h2a.extBut hsb.extBut D.i12.symm
  have hl2b := hl2a.extBut hsb.extBut D.l2i1
  refine wpAny_bind (wpAny_bind (wpAny_holding ?_))
  show wpAny _ _ (Builtin.SmallTypes.nextOf (.ref i2) >>= _) _ _ _
  refine wpAny_bind (wpAny_nextOf_list_item h2b hl2b hy fun hc h2c hsc => wpAny_pure (wpAny_pure (wpAny_pure ?_)))
  have h1c := h1b.extBut hsc.extBut D.i12
  have hzb : hb.get? z = some (zipO T true TI TO) := hsb.extBut _ _ D.i1z.symm hza
  have hzc : hc.get? z = some (zipO T true TI TO) := hsc.extBut _ _ D.i2z.symm hzb
  have hsz : hc.objs.size = s.heap.objs.size := by rw [hsc.1, hsb.1, hsa.1]
  refine wpAny_bind (wpAny_newTuple (hsz := by show 2 ≤ sizeLine; decide) ?_)
  refine wpAny_pure ⟨_, rfl, ?_⟩
  show Q (.ref hc.objs.size) _
  rw [hsz]
  have k : ∀ c o, c ≠ z → c ≠ i1 → c ≠ i2 → s.heap.get? c = some o → (hc.push { cls := .type "tuple", data := .seq #[x, y] }).get? c = some o := fun c o c1 c2 c3 e =>
    Heap.get?_push_of_some _ (hsc.extBut _ _ c3 (hsb.extBut _ _ c2 (hsa.extBut _ _ c1 e)))
  refine hQ _ (Heap.get?_push_of_some _ hzc) (h1c.at fun o e => Heap.get?_push_of_some _ e) (h2c.at fun o e => Heap.get?_push_of_some _ e) ?_ k
  rw [← hsz]
  exact Heap.get?_push_size _ rfl
theorem zip_next_keptEnd {z TI TO T i1 i2 l1 l2 : Addr} {bb : Bool} {k1 k2 : Nat} {xs ys : Array Value} {Q : Fin → Shared → Prop} (hh : A.handled = none) (D : ZipApart z TI TO i1 i2 l1 l2)
    (hz : s.heap.get? z = some (zipO T bb TI TO)) (hT : ∃ o, s.heap.get? T = some o) (hTI : IsPair s.heap TI (.ref i1) (.ref i2))
    (h1 : s.heap.IsListIter i1 l1 k1) (h2 : s.heap.IsListIter i2 l2 k2) (hl1 : s.heap.IsList l1 xs) (hl2 : s.heap.IsList l2 ys) (hend : xs[k1]? = none ∨ ys[k2]? = none)
    (hE : ∀ h' e, (∀ c o, c ≠ z → c ≠ i1 → c ≠ i2 → s.heap.get? c = some o → h'.get? c = some o) → (∃ o, h'.get? e = some o ∧ o.cls = .type "StopIteration") → E (.ref e) { s with heap := h' }) :
    wpAny (model prog w) A (Builtin.«zip.__next__» ⟨[.ref z], []⟩) Q E s := by
  show wpAny _ _ (field (.ref z) 2 >>= _) _ _ _
  refine wpAny_bind (wpAny_field hz rfl (x := .bool false) rfl ?_)
  show wpAny _ _ (field (.ref z) 3 >>= _) _ _ _
  refine wpAny_bind (wpAny_field hz rfl (x := .ref TI) rfl ?_)
  refine wpAny_bind (wpAny_seqItems hTI rfl ?_)
  show wpAny _ _ (Builtin.SmallTypes.ownedTupleIsFree (.ref z) >>= _) _ _ _
  refine wpAny_bind (kept_free hz hT fun ha hza hsa => ?_)
  simp only [Bool.false_eq_true, if_false]
  refine wpAny_bind ?_
  simp only [List.forIn_cons, List.forIn_nil, Array.forIn_toList, List.forIn_toArray]
  have h1a := h1.extBut hsa.extBut D.i1z
  have h2a := h2.extBut hsa.extBut D.i2z
  have hl1a := hl1.extBut hsa.extBut D.l1z
  have hl2a := hl2.extBut hsa.extBut D.l2z
  refine wpAny_bind (wpAny_bind (wpAny_holding ?_))
  show wpAny _ _ (Builtin.SmallTypes.nextOf (.ref i1) >>= _) _ _ _
  cases hx : xs[k1]? with
  | none =>
    exact wpAny_bind (wpAny_nextOf_list_end hh h1a hl1a hx fun hb e hsb he => hE hb e (fun c o c1 c2 _ q => hsb _ _ c2 (hsa.extBut _ _ c1 q)) he)
  | some x =>
    have hy : ys[k2]? = none := by
      rcases hend with h | h
      · rw [hx] at h
        cases h
      · exact h
    refine wpAny_bind (wpAny_nextOf_list_item h1a hl1a hx fun hb h1b hsb => wpAny_pure (wpAny_pure ?_))
    have h2b := h2a.extBut hsb.extBut D.i12.symm
    have hl2b := hl2a.extBut hsb.extBut D.l2i1
    refine wpAny_bind (wpAny_bind (wpAny_holding ?_))
    show wpAny _ _ (Builtin.SmallTypes.nextOf (.ref i2) >>= _) _ _ _
    exact wpAny_bind (wpAny_nextOf_list_end hh h2b hl2b hy fun hc e hsc he => hE hc e (fun c o c1 c2 c3 q => hsc _ _ c3 (hsb.extBut _ _ c2 (hsa.extBut _ _ c1 q))) he)
theorem pyNext_zip_kept {z TI TO T i1 i2 l1 l2 : Addr} {bb : Bool} {k1 k2 : Nat} {xs ys : Array Value} {x y : Value} {Q : Option Value → Shared → Prop} (D : ZipApart z TI TO i1 i2 l1 l2)
    (hz : s.heap.get? z = some (zipO T bb TI TO)) (hT : ∃ o, s.heap.get? T = some o) (hTI : IsPair s.heap TI (.ref i1) (.ref i2))
    (h1 : s.heap.IsListIter i1 l1 k1) (h2 : s.heap.IsListIter i2 l2 k2) (hl1 : s.heap.IsList l1 xs) (hl2 : s.heap.IsList l2 ys) (hx : xs[k1]? = some x) (hy : ys[k2]? = some y)
    (hQ : ∀ h', h'.get? z = some (zipO T true TI TO) → h'.IsListIter i1 l1 (k1 + 1) → h'.IsListIter i2 l2 (k2 + 1) → IsPair h' s.heap.objs.size x y →
      (∀ c o, c ≠ z → c ≠ i1 → c ≠ i2 → s.heap.get? c = some o → h'.get? c = some o) → Q (some (.ref s.heap.objs.size)) { s with heap := h' }) : wpAny (model prog w) A (pyNext (.ref z)) Q E s := by
  have hT' : s.TypeIs (.ref z) "zip" := ⟨_, hz, rfl⟩
  unfold pyNext
  exact wpAny_bind (wpAny_attempt (wpAny_callSpecial?_slot (name := Str.ofString "__next__") hT' F.slot_zip_next
    (wpAny_call_entry F.slot_zip_next hT' F.entry_zip_next
      (zip_next_kept D hz hT hTI h1 h2 hl1 hl2 hx hy fun h' a1 a2 a3 a4 a5 => wpAny_pure (hQ h' a1 a2 a3 a4 a5)) (F.args_zip_next_1 _))))
theorem pyNext_zip_keptEnd {z TI TO T i1 i2 l1 l2 : Addr} {bb : Bool} {k1 k2 : Nat} {xs ys : Array Value} {Q : Option Value → Shared → Prop} (hh : A.handled = none) (D : ZipApart z TI TO i1 i2 l1 l2)
    (hz : s.heap.get? z = some (zipO T bb TI TO)) (hT : ∃ o, s.heap.get? T = some o) (hTI : IsPair s.heap TI (.ref i1) (.ref i2))
    (h1 : s.heap.IsListIter i1 l1 k1) (h2 : s.heap.IsListIter i2 l2 k2) (hl1 : s.heap.IsList l1 xs) (hl2 : s.heap.IsList l2 ys) (hend : xs[k1]? = none ∨ ys[k2]? = none)
    (hQ : ∀ h', (∀ c o, c ≠ z → c ≠ i1 → c ≠ i2 → s.heap.get? c = some o → h'.get? c = some o) → Q none { s with heap := h' }) : wpAny (model prog w) A (pyNext (.ref z)) Q E s := by
  have hT' : s.TypeIs (.ref z) "zip" := ⟨_, hz, rfl⟩
  unfold pyNext
  refine wpAny_bind (wpAny_attempt (wpAny_callSpecial?_slot (name := Str.ofString "__next__") hT' F.slot_zip_next
    (wpAny_call_entry F.slot_zip_next hT' F.entry_zip_next (zip_next_keptEnd hh D hz hT hTI h1 h2 hl1 hl2 hend fun h' e hk he => ?_) (F.args_zip_next_1 _))))
  obtain ⟨o, ho, hc⟩ := he
  refine wpAny_bind (wpAny_isInstance (T := "StopIteration") (b := true) ⟨o, ho, hc⟩ isSubtype_stop ?_)
  exact wpAny_pure (hQ _ hk)
end
end M

namespace M
open PySem PySem.Spec PyProof.Rows L2
section
variable {prog : Program} {w : World} {A : Around}
/-- amid list(zip(..)): i pairs are in the list at S -/
structure ZipSt (h0 h : Heap) (S z TI TO i1 i2 l1 l2 : Addr) (xs ys : Array Value) (i : Nat) (acc : Array Value) : Prop where
  own : (i = 0 ∧ IsZip h z TI TO .none ∧ ∃ a b, IsPair h TO a b) ∨ (∃ (T : Addr) (b : Bool), h.get? z = some (zipO T b TI TO) ∧ ∃ o, h.get? T = some o)
  ti : IsPair h TI (.ref i1) (.ref i2)
  it1 : h.IsListIter i1 l1 i
  it2 : h.IsListIter i2 l2 i
  keep : ∀ c o, c ≠ S → c ≠ z → c ≠ TO → c ≠ i1 → c ≠ i2 → h0.get? c = some o → h.get? c = some o
  lst : ∃ c, h.get? S = some { cls := .type "list", dict := none, data := .seq acc c, slots := #[] }
  size : acc.size = i
  big : h0.objs.size ≤ h.objs.size
  items : ∀ (j : Nat) (v : Value), acc[j]? = some v → ∃ (T : Addr) (x y : Value), v = .ref T ∧ IsPair h T x y ∧ xs[j]? = some x ∧ ys[j]? = some y ∧ h0.get? T = none
/-- S is apart from all -/
structure ZipS (h0 : Heap) (S z TI TO i1 i2 l1 l2 : Addr) : Prop where
  sz : S ≠ z
  sTI : S ≠ TI
  sTO : S ≠ TO
  s1 : S ≠ i1
  s2 : S ≠ i2
  sl1 : S ≠ l1
  sl2 : S ≠ l2
  ex : ∀ c, c = S ∨ c = z ∨ c = TO ∨ c = i1 ∨ c = i2 → h0.get? c ≠ none
theorem zip_loop {R : Result → Shared → Prop} {h0 : Heap} {S z TI TO i1 i2 l1 l2 : Addr} {xs ys : Array Value} {n : Nat} (hh : A.handled = none) (D : ZipApart z TI TO i1 i2 l1 l2) (Z : ZipS h0 S z TI TO i1 i2 l1 l2)
    (hl1 : h0.IsList l1 xs) (hl2 : h0.IsList l2 ys) (hn : n = min xs.size ys.size) (hz : n ≤ sizeLine) (res : Value) :
    ∀ (k i : Nat) (s : Shared) (acc : Array Value), n - i = k → i ≤ n → ZipSt h0 s.heap S z TI TO i1 i2 l1 l2 xs ys i acc →
    (∀ h' acc' c', (∀ c o, c ≠ S → c ≠ z → c ≠ TO → c ≠ i1 → c ≠ i2 → h0.get? c = some o → h'.get? c = some o) → h'.get? S = some { cls := .type "list", dict := none, data := .seq acc' c', slots := #[] } → acc'.size = n →
      (∀ (j : Nat) (v : Value), acc'[j]? = some v → ∃ (T : Addr) (x y : Value), v = .ref T ∧ IsPair h' T x y ∧ xs[j]? = some x ∧ ys[j]? = some y ∧ h0.get? T = none) → R (.ok (.ret res)) { s with heap := h' }) →
    codeAny (model prog w) A (.builtin "list.extend.loop" ⟨[.ref S, .ref z, res], []⟩) R s := by
  have ne : ∀ {T c : Addr}, h0.get? T = none → (c = S ∨ c = z ∨ c = TO ∨ c = i1 ∨ c = i2) → T ≠ c := fun {T c} hT hc e => Z.ex c hc (e ▸ hT)
  intro k
  induction k with
  | zero =>
    intro i s acc hk hi st hR
    have hin : i = n := by omega
    subst hin
    have L1 : s.heap.IsList l1 xs := hl1.at fun o e => st.keep _ o Z.sl1.symm D.l1z D.l1TO D.l1i1 D.l1i2 e
    have L2' : s.heap.IsList l2 ys := hl2.at fun o e => st.keep _ o Z.sl2.symm D.l2z D.l2TO D.l2i1 D.l2i2 e
    have hend : xs[i]? = none ∨ ys[i]? = none := by
      by_cases h : xs.size ≤ ys.size
      · exact .inl (Array.getElem?_eq_none (by omega))
      · exact .inr (Array.getElem?_eq_none (by omega))
    obtain ⟨c, hS⟩ := st.lst
    refine codeAny_builtin F.entry_extend_loop ?_
    rw [Around.under_plainId F.plain_extend_loop _]
    show wpAny _ A.in1 (pyNext (.ref z) >>= _) _ _ s
    have fin : ∀ h', (∀ c o, c ≠ z → c ≠ TO → c ≠ i1 → c ≠ i2 → s.heap.get? c = some o → h'.get? c = some o) → R (.ok (.ret res)) { s with heap := h' } := fun h' hk => by
      refine hR h' acc c (fun c o c1 c2 c3 c4 c5 e => hk c o c2 c3 c4 c5 (st.keep c o c1 c2 c3 c4 c5 e)) (hk _ _ Z.sz Z.sTO Z.s1 Z.s2 hS) st.size fun j v hv => ?_
      obtain ⟨T, x, y, e1, e2, e3, e4, e5⟩ := st.items j v hv
      exact ⟨T, x, y, e1, hk _ _ (ne e5 (.inr (.inl rfl))) (ne e5 (.inr (.inr (.inl rfl)))) (ne e5 (.inr (.inr (.inr (.inl rfl))))) (ne e5 (.inr (.inr (.inr (.inr rfl))))) e2, e3, e4, e5⟩
    rcases st.own with ⟨_, hz0, a, b, hTO⟩ | ⟨T, b, hz0, hT⟩
    · refine wpAny_bind (wpAny_pyNext_zip_end hh D hz0 st.ti hTO st.it1 st.it2 L1 L2' hend fun h' hk => ?_)
      exact wpAny_pure (fin h' hk)
    · refine wpAny_bind (pyNext_zip_keptEnd hh D hz0 hT st.ti st.it1 st.it2 L1 L2' hend fun h' hk => ?_)
      exact wpAny_pure (fin h' fun c o c1 _ c3 c4 e => hk c o c1 c3 c4 e)
  | succ k ih =>
    intro i s acc hk hi st hR
    have hlt : i < n := by omega
    have L1 : s.heap.IsList l1 xs := hl1.at fun o e => st.keep _ o Z.sl1.symm D.l1z D.l1TO D.l1i1 D.l1i2 e
    have L2' : s.heap.IsList l2 ys := hl2.at fun o e => st.keep _ o Z.sl2.symm D.l2z D.l2TO D.l2i1 D.l2i2 e
    have hx : xs[i]? = some xs[i] := Array.getElem?_eq_getElem (by omega)
    have hy : ys[i]? = some ys[i] := Array.getElem?_eq_getElem (by omega)
    obtain ⟨c, hS⟩ := st.lst
    refine codeAny_builtin F.entry_extend_loop ?_
    rw [Around.under_plainId F.plain_extend_loop _]
    show wpAny _ A.in1 (pyNext (.ref z) >>= _) _ _ s
    -- on from the new pair
    have on : ∀ h', (∃ (T : Addr) (b : Bool), h'.get? z = some (zipO T b TI TO) ∧ ∃ o, h'.get? T = some o) → h'.IsListIter i1 l1 (i + 1) → h'.IsListIter i2 l2 (i + 1) → IsPair h' s.heap.objs.size xs[i] ys[i] →
        (∀ c o, c ≠ z → c ≠ TO → c ≠ i1 → c ≠ i2 → s.heap.get? c = some o → h'.get? c = some o) →
        wpAny (model prog w) A.in1 (updateSeq S (·.push (.ref s.heap.objs.size)) >>= fun _ => again (.builtin "list.extend.loop" ⟨[.ref S, .ref z, res], []⟩)) (fun fin s' => match fin with | .done f => R (.ok f) s' | .again c' => c'.quiet = true ∧ codeAny (model prog w) A c' R s') (fun e s' => R (.error e) s') { s with heap := h' } := by
      intro h' hown j1 j2 hT hk'
      have hS' : h'.get? S = some { cls := .type "list", dict := none, data := .seq acc c, slots := #[] } := hk' _ _ Z.sz Z.sTO Z.s1 Z.s2 hS
      have newS : s.heap.objs.size ≠ S := Nat.ne_of_gt (Heap.lt_size hS)
      have new0 : h0.get? s.heap.objs.size = none := by
        cases q : h0.get? s.heap.objs.size with
        | none => rfl
        | some o => exact absurd (Heap.lt_size q) (Nat.not_lt.mpr st.big)
      have big' : h0.objs.size ≤ (h'.update S (Obj.mapSeq (·.push (.ref s.heap.objs.size)))).objs.size := by
        rw [(Heap.SameBut.update h' S (Obj.mapSeq (·.push (.ref s.heap.objs.size)))).1]
        exact Nat.le_trans st.big (Nat.le_of_lt (Heap.lt_size hT))
      have oth : ∀ b o, b ≠ S → h'.get? b = some o → (h'.update S (Obj.mapSeq (·.push (.ref s.heap.objs.size)))).get? b = some o := fun b o hb e => (Heap.get?_update_other _ _ (Ne.symm hb)).trans e
      refine wpAny_bind ?_
      refine wpAny_updateSeq hS' rfl (wpAny_pure ⟨plainId_quiet F.plain_extend_loop _, ih (i + 1) _ (acc.push (.ref s.heap.objs.size)) (by omega) hlt ?_ fun h'' acc' c' k'' hS'' hz'' it'' => ?_⟩) (by rw [st.size]; omega) (by show (acc.push _).size ≤ sizeLine + 1; rw [Array.size_push, st.size]; omega)
      · obtain ⟨T, b, hz', o, hTo⟩ := hown
        refine ⟨.inr ⟨T, b, oth _ _ Z.sz.symm hz', ?_⟩, oth _ _ Z.sTI.symm (hk' _ _ D.TIz D.TITO D.TIi1 D.TIi2 st.ti), j1.at fun o e => oth _ o Z.s1.symm e, j2.at fun o e => oth _ o Z.s2.symm e, fun c o c1 c2 c3 c4 c5 e => oth _ _ c1 (hk' _ _ c2 c3 c4 c5 (st.keep c o c1 c2 c3 c4 c5 e)), ⟨_, Heap.get?_update_self _ hS' rfl⟩, by rw [Array.size_push, st.size], big', fun j v hv => ?_⟩
        · by_cases e : T = S
          · exact ⟨_, by rw [e]; exact Heap.get?_update_self _ hS' rfl⟩
          · exact ⟨_, oth _ _ e hTo⟩
        · rw [Array.getElem?_push] at hv
          split at hv
          · rename_i ej
            cases hv
            rw [ej, st.size]
            exact ⟨_, _, _, rfl, oth _ _ newS hT, hx, hy, new0⟩
          · obtain ⟨T, x, y, e1, e2, e3, e4, e5⟩ := st.items j v hv
            exact ⟨T, x, y, e1, oth _ _ (ne e5 (.inl rfl)) (hk' _ _ (ne e5 (.inr (.inl rfl))) (ne e5 (.inr (.inr (.inl rfl)))) (ne e5 (.inr (.inr (.inr (.inl rfl))))) (ne e5 (.inr (.inr (.inr (.inr rfl))))) e2), e3, e4, e5⟩
      · exact hR h'' acc' c' k'' hS'' hz'' it''
    rcases st.own with ⟨_, hz0, a, b, hTO⟩ | ⟨T, b, hz0, hT⟩
    · refine wpAny_bind (wpAny_pyNext_zip_item D hz0 st.ti hTO st.it1 st.it2 L1 L2' hx hy fun h' z' TO' j1 j2 hT hsz hk' => ?_)
      exact on h' ⟨s.heap.objs.size, false, z', _, hT⟩ j1 j2 hT hk'
    · refine wpAny_bind (pyNext_zip_kept D hz0 hT st.ti st.it1 st.it2 L1 L2' hx hy fun h' z' j1 j2 hT' hk' => ?_)
      obtain ⟨o, ho⟩ := hT
      refine on h' ⟨T, true, z', ?_⟩ j1 j2 hT' fun c o c1 _ c3 c4 e => hk' c o c1 c3 c4 e
      by_cases e1 : T = z
      · exact ⟨_, by rw [e1]; exact z'⟩
      · by_cases e2 : T = i1
        · obtain ⟨q, hq, _⟩ := j1
          exact ⟨q, by rw [e2]; exact hq⟩
        · by_cases e3 : T = i2
          · obtain ⟨q, hq, _⟩ := j2
            exact ⟨q, by rw [e3]; exact hq⟩
          · exact ⟨o, hk' _ _ e1 e2 e3 ho⟩
end
end M

namespace M
open PySem PySem.Spec PyProof.Rows L2
theorem zip_no_len : typeLookup (.type "zip") "__len__" = pure none := by rw [typeLookup_type, builtinLookup_eq_fast]; kernel_rfl
theorem zip_no_hint : typeLookup (.type "zip") "__length_hint__" = pure none := by rw [typeLookup_type, builtinLookup_eq_fast]; kernel_rfl
section
variable {prog : Program} {w : World} {A : Around} {E : Value → Shared → Prop} {s : Shared}
theorem zip_hint {z : Addr} {Q : Bool → Shared → Prop} (hT : s.TypeIs (.ref z) "zip") (h : Q true s) : wpAny (model prog w) A (Builtin.List.listLengthHint (.ref z)) Q E s := by
  unfold Builtin.List.listLengthHint
  refine wpAny_bind (wpAny_specialOf hT zip_no_len ?_)
  refine wpAny_bind (wpAny_specialOf hT zip_no_hint ?_)
  exact wpAny_pure h
theorem call_list_zip {z TI TO i1 i2 l1 l2 : Addr} {xs ys : Array Value} {n : Nat} {Q : Value → Shared → Prop} (hh : A.handled = none) (D : ZipApart z TI TO i1 i2 l1 l2)
    (hz : IsZip s.heap z TI TO .none) (hTI : IsPair s.heap TI (.ref i1) (.ref i2)) {a b : Value} (hTO : IsPair s.heap TO a b) (h1 : s.heap.IsListIter i1 l1 0) (h2 : s.heap.IsListIter i2 l2 0)
    (hl1 : s.heap.IsList l1 xs) (hl2 : s.heap.IsList l2 ys) (hn : n = min xs.size ys.size) (hsz : n ≤ sizeLine)
    (hQ : ∀ h' acc' c', (∀ c o, c ≠ z → c ≠ TO → c ≠ i1 → c ≠ i2 → s.heap.get? c = some o → h'.get? c = some o) → h'.get? s.heap.objs.size = some { cls := .type "list", dict := none, data := .seq acc' c', slots := #[] } → acc'.size = n →
      (∀ (j : Nat) (v : Value), acc'[j]? = some v → ∃ (T : Addr) (x y : Value), v = .ref T ∧ IsPair h' T x y ∧ xs[j]? = some x ∧ ys[j]? = some y ∧ s.heap.get? T = none ∧ T ≠ s.heap.objs.size) → Q (.ref s.heap.objs.size) { s with heap := h' }) :
    wpAny (model prog w) A (call (.type "list") [.ref z]) Q E s := by
  refine callType_codes (Q₁ := fun obj s₁ => obj = .ref s.heap.objs.size ∧ s₁ = { s with heap := s.heap.push { cls := .type "list", data := .seq #[] } }) F.called_list (F.typeCall_list_1 _) F.entry_list_init
    (code_list_new _ ⟨rfl, rfl⟩) fun obj s₁ h₁ => ?_
  obtain ⟨rfl, rfl⟩ := h₁
  have hS : (s.heap.push { cls := .type "list", data := .seq #[] }).get? s.heap.objs.size = some { cls := .type "list", data := .seq #[] } := Heap.get?_push_size _ rfl
  have up : ∀ c o, s.heap.get? c = some o → (s.heap.push { cls := .type "list", data := .seq #[] }).get? c = some o := fun c o e => Heap.get?_push_of_some _ e
  have nS : ∀ c o, s.heap.get? c = some o → s.heap.objs.size ≠ c := fun c o e => Nat.ne_of_gt (Heap.lt_size e)
  obtain ⟨o1, g1, r1⟩ := id h1
  obtain ⟨o2, g2, r2⟩ := id h2
  obtain ⟨p1, q1, s1⟩ := id hl1
  obtain ⟨p2, q2, s2⟩ := id hl2
  have Z : ZipS (s.heap.push { cls := .type "list", data := .seq #[] }) s.heap.objs.size z TI TO i1 i2 l1 l2 := by
    refine ⟨nS _ _ hz, nS _ _ hTI, nS _ _ hTO, nS _ _ g1, nS _ _ g2, nS _ _ q1, nS _ _ q2, fun c hc => ?_⟩
    rcases hc with rfl | rfl | rfl | rfl | rfl
    · rw [hS]; exact fun h => by cases h
    · rw [up _ _ hz]; exact fun h => by cases h
    · rw [up _ _ hTO]; exact fun h => by cases h
    · rw [up _ _ g1]; exact fun h => by cases h
    · rw [up _ _ g2]; exact fun h => by cases h
  refine ⟨⟨_, hS, rfl⟩, F.args_list_init_2 _ _, ?_⟩
  show wpAny _ _ (do let old ← Builtin.List.listItems (.ref s.heap.objs.size); Builtin.List.listUpdate (.ref s.heap.objs.size) (fun _ => #[]); letGo old.toList.reverse; Builtin.List.listExtendWith (.ref s.heap.objs.size) (.ref z) .none) _ _ _
  refine wpAny_bind ?_
  unfold Builtin.List.listItems
  refine wpAny_bind (wpAny_seqItems hS rfl (wpAny_pure ?_))
  show wpAny _ _ (updateSeq s.heap.objs.size (fun _ => #[]) >>= fun _ => letGo (#[] : Array Value).toList.reverse >>= fun _ => Builtin.List.listExtendWith (.ref s.heap.objs.size) (.ref z) .none) _ _ _
  refine wpAny_bind (wpAny_updateSeq hS rfl ?_)
  have hS₂ := Heap.get?_update_self (Obj.mapSeq (fun _ => (#[] : Array Value))) hS rfl
  have u2 : ∀ c o, c ≠ s.heap.objs.size → s.heap.get? c = some o → ((s.heap.push { cls := .type "list", data := .seq #[] }).update s.heap.objs.size (Obj.mapSeq (fun _ => (#[] : Array Value)))).get? c = some o :=
    fun c o hc e => (Heap.get?_update_other _ _ (Ne.symm hc)).trans (up c o e)
  refine wpAny_bind (wpAny_letGo ?_)
  have hT2 : (Shared.mk ((s.heap.push { cls := .type "list", data := .seq #[] }).update s.heap.objs.size (Obj.mapSeq (fun _ => (#[] : Array Value)))) s.gens s.drawn s.toks s.os).TypeIs (.ref z) "zip" := ⟨_, u2 _ _ Z.sz.symm hz, rfl⟩
  unfold Builtin.List.listExtendWith
  refine wpAny_bind (wpAny_typeOf (T := "zip") hT2 ?_)
  have hsame : Builtin.List.listSameRef (.ref s.heap.objs.size) (.ref z) = false := by simp [Builtin.List.listSameRef, Z.sz]
  have b1 : (Value.type "zip" == Value.type "list") = false := by decide
  have b2 : (Value.type "zip" == Value.type "tuple") = false := by decide
  simp only [hsame, b1, b2, Bool.or_false, Bool.false_eq_true, if_false]
  refine wpAny_bind (wpAny_pyIter_zip (u2 _ _ Z.sz.symm hz) ?_)
  refine wpAny_bind (wpAny_holding (zip_hint hT2 ?_))
  refine wpAny_ite_split (fun _ => ?_) (fun hab => absurd rfl hab)
  refine wpAny_bind (wpAny_rule ?_)
  refine wpAny_bind ?_
  show wpAny _ _ (updateSeq s.heap.objs.size (·.push .none) >>= fun _ => updateSeq s.heap.objs.size (·.pop)) _ _ _
  refine wpAny_bind (wpAny_updateSeq hS₂ rfl ?_)
  have hS₃ := Heap.get?_update_self (Obj.mapSeq (·.push Value.none)) hS₂ rfl
  refine wpAny_updateSeq (hz := by seq_fits) hS₃ rfl ?_
  have hS₄ := Heap.get?_update_self (Obj.mapSeq (·.pop)) hS₃ rfl
  have u4 : ∀ c o, c ≠ s.heap.objs.size → s.heap.get? c = some o → ((((s.heap.push { cls := .type "list", data := .seq #[] }).update s.heap.objs.size (Obj.mapSeq (fun _ => (#[] : Array Value)))).update s.heap.objs.size (Obj.mapSeq (·.push Value.none))).update s.heap.objs.size (Obj.mapSeq (·.pop))).get? c = some o :=
    fun c o hc e => (Heap.get?_update_other _ _ (Ne.symm hc)).trans ((Heap.get?_update_other _ _ (Ne.symm hc)).trans (u2 c o hc e))
  have v4 : ∀ c o, c ≠ s.heap.objs.size → (s.heap.push { cls := .type "list", data := .seq #[] }).get? c = some o → ((((s.heap.push { cls := .type "list", data := .seq #[] }).update s.heap.objs.size (Obj.mapSeq (fun _ => (#[] : Array Value)))).update s.heap.objs.size (Obj.mapSeq (·.push Value.none))).update s.heap.objs.size (Obj.mapSeq (·.pop))).get? c = some o :=
    fun c o hc e => (Heap.get?_update_other _ _ (Ne.symm hc)).trans ((Heap.get?_update_other _ _ (Ne.symm hc)).trans ((Heap.get?_update_other _ _ (Ne.symm hc)).trans e))
  refine wpAny_pure ⟨plainId_quiet F.plain_extend_loop _, ?_⟩
  refine zip_loop (h0 := s.heap.push { cls := .type "list", data := .seq #[] }) (A := A.in1) hh D Z (hl1.at fun o e => up _ _ e) (hl2.at fun o e => up _ _ e) hn hsz .none (n - 0) 0 _ #[] rfl (Nat.zero_le _)
    ⟨.inl ⟨rfl, u4 _ _ Z.sz.symm hz, a, b, u4 _ _ Z.sTO.symm hTO⟩, u4 _ _ Z.sTI.symm hTI, h1.at fun o e => u4 _ _ Z.s1.symm e, h2.at fun o e => u4 _ _ Z.s2.symm e, fun c o c1 _ _ _ _ e => v4 c o c1 e, ⟨_, hS₄⟩, rfl, ?_, fun j v hv => by simp at hv⟩ fun h' acc' c' k hS' hsz' items => ?_
  · rw [(Heap.SameBut.update _ _ _).1, (Heap.SameBut.update _ _ _).1, (Heap.SameBut.update _ _ _).1]
    exact Nat.le_refl _
  · refine ⟨rfl, hQ h' acc' c' (fun c o c1 c2 c3 c4 e => k c o (nS c o e).symm c1 c2 c3 c4 (up c o e)) hS' hsz' fun j v hv => ?_⟩
    obtain ⟨T, x, y, e1, e2, e3, e4, e5⟩ := items j v hv
    refine ⟨T, x, y, e1, e2, e3, e4, ?_, fun e => ?_⟩
    · cases q : s.heap.get? T with
      | none => rfl
      | some o =>
        rw [up _ _ q] at e5
        cases e5
    · rw [e, hS] at e5
      cases e5
end
end M

namespace M
open PySem PySem.Spec PyProof.Rows L2

/-! ### new tuples, all tracked at once -/
def trk (H : Hp) (ps : List (Addr × List V)) : Hp := fun b => match ps.lookup b with
  | some xs => some (.tup xs)
  | none => H b
theorem lookupA_mem {β : Type} {n : Addr} {r : β} : ∀ {t : List (Addr × β)}, t.lookup n = some r → (n, r) ∈ t
  | [], h => by cases h
  | (m, q) :: t, h => by
    unfold List.lookup at h
    split at h
    · rename_i e
      cases h
      have := eq_of_beq e
      subst this
      exact List.mem_cons_self
    · exact List.mem_cons_of_mem _ (lookupA_mem h)
theorem lookupA_some {β : Type} {n : Addr} {r : β} : ∀ {t : List (Addr × β)}, (n, r) ∈ t → ∃ r', t.lookup n = some r'
  | [], h => by cases h
  | (m, q) :: t, h => by
    unfold List.lookup
    split
    · exact ⟨_, rfl⟩
    · rename_i e
      rcases List.mem_cons.mp h with h | h
      · cases h
        simp at e
      · exact lookupA_some h
section
variable {X : Cx} {pins : List (Addr × Obj)} {σ : L2.St} {H : Hp} {s : Shared} {h' : Heap} {ps : List (Addr × List V)}
theorem trk_old (I : Inv X pins σ H s) (hp : ∀ p ∈ ps, s.heap.get? p.1 = none) {b : Addr} {o : Obj} (hb : s.heap.get? b = some o) : trk H ps b = H b := by
  unfold trk
  cases q : ps.lookup b with
  | none => rfl
  | some xs =>
    have := hp _ (lookupA_mem q)
    rw [hb] at this
    cases this
theorem trk_le (hp : ∀ p ∈ ps, H p.1 = none) {b : Addr} {o : HO} (hb : H b = some o) : trk H ps b = some o := by
  unfold trk
  cases q : ps.lookup b with
  | none => exact hb
  | some xs =>
    have := hp _ (lookupA_mem q)
    rw [hb] at this
    cases this
theorem Inv.track (I : Inv X pins σ H s) (k : ∀ b u, s.heap.get? b = some u → h'.get? b = some u) (hp : ∀ p ∈ ps, s.heap.get? p.1 = none ∧ H p.1 = none ∧ p.2.length ≤ sizeLine ∧ ∃ its : List Value, Vals p.2 its ∧ IsTup h' p.1 its.toArray) (t' : Nat) :
    Inv X pins σ (trk H ps) { s with heap := h', toks := t' } := by
  have o1 : ∀ {b o}, s.heap.get? b = some o → trk H ps b = H b := fun {b o} hb => trk_old I (fun p hm => (hp p hm).1) hb
  have o2 : ∀ {b o}, H b = some o → trk H ps b = some o := fun {b o} hb => trk_le (fun p hm => (hp p hm).2.1) hb
  refine I.un (t' := t') ⟨fun b o q _ _ _ => k b o q, fun b o q _ _ _ => ⟨o.slots, k b o q⟩, fun b o q n _ => by rw [o1 q]; exact n, fun b o q _ => ⟨o, k b o q⟩, fun b xs q => o2 q, fun b o u q => o2 q, fun b ps q => ⟨#[], by rw [o2 q]; simp⟩⟩ ?_
  intro b o q
  unfold trk at q
  cases hl : ps.lookup b with
  | some xs =>
    rw [hl] at q
    cases q
    obtain ⟨_, _, z, its, r, ht⟩ := hp _ (lookupA_mem hl)
    exact ⟨z, its, r, ht⟩
  | none =>
    rw [hl] at q
    exact (I.hok b o q).stay (fun b u _ e => k b u e) (fun b e => o2 e) fun b xs e => o2 e
theorem Inv.trackL {l : Addr} {zs : List V} (I : Inv X pins σ H s) (k : ∀ b u, s.heap.get? b = some u → h'.get? b = some u) (hp : ∀ p ∈ ps, s.heap.get? p.1 = none ∧ H p.1 = none ∧ p.2.length ≤ sizeLine ∧ ∃ its : List Value, Vals p.2 its ∧ IsTup h' p.1 its.toArray)
    (hl : s.heap.get? l = none) (hl2 : H l = none) (hz : zs.length ≤ sizeLine) {vs : List Value} {n : Nat} (rv : Vals zs vs) (ho : h'.get? l = some { cls := .type "list", data := .seq vs.toArray n }) (t' : Nat) :
    Inv X pins σ (upd (trk H ps) l (.lst zs)) { s with heap := h', toks := t' } := by
  have ne : ∀ {b o}, s.heap.get? b = some o → b ≠ l := fun {b o} hb e => by rw [e, hl] at hb; cases hb
  have ne2 : ∀ {b o}, H b = some o → b ≠ l := fun {b o} hb e => by rw [e, hl2] at hb; cases hb
  have o1 : ∀ {b o}, s.heap.get? b = some o → upd (trk H ps) l (.lst zs) b = H b := fun {b o} hb => by rw [upd_ne (ne hb)]; exact trk_old I (fun p hm => (hp p hm).1) hb
  have o2 : ∀ {b o}, H b = some o → upd (trk H ps) l (.lst zs) b = some o := fun {b o} hb => by rw [upd_ne (ne2 hb)]; exact trk_le (fun p hm => (hp p hm).2.1) hb
  refine I.un (t' := t') ⟨fun b o q _ _ _ => k b o q, fun b o q _ _ _ => ⟨o.slots, k b o q⟩, fun b o q n _ => by rw [o1 q]; exact n, fun b o q _ => ⟨o, k b o q⟩, fun b xs q => o2 q, fun b o u q => o2 q, fun b ps q => ⟨#[], by rw [o2 q]; simp⟩⟩ ?_
  intro b o q
  by_cases hb : b = l
  · subst hb
    rw [upd_same] at q
    cases q
    exact ⟨hz, vs, n, rv, ho⟩
  · rw [upd_ne hb] at q
    unfold trk at q
    cases hl : ps.lookup b with
    | some xs =>
      rw [hl] at q
      cases q
      obtain ⟨_, _, z, its, r, ht⟩ := hp _ (lookupA_mem hl)
      exact ⟨z, its, r, ht⟩
    | none =>
      rw [hl] at q
      exact (I.hok b o q).stay (fun b u _ e => k b u e) (fun b e => o2 e) fun b xs e => o2 e
end
/-! ### list(zip(a, b)) -/
def mLZ (g : AM) : VM := fun ρ S => (g ρ S).bind fun xs S1 => match xs with
  | [.v (.lst ds), .v (.lst es)] => if (pairsD ds es).length ≤ lim then .ok (.n (.li (pairsD ds es))) S1 else .bad
  | _ => .bad
@[simp] theorem mLZ_ap {g : AM} {ρ : MEnv} {S : Sto} : mLZ g ρ S = (g ρ S).bind fun xs S1 => match xs with
  | [.v (.lst ds), .v (.lst es)] => if (pairsD ds es).length ≤ lim then .ok (.n (.li (pairsD ds es))) S1 else .bad
  | _ => .bad := rfl
def addrOf : Value → Addr
  | .ref T => T
  | _ => 0
/-- what list(zip(..)) makes: pairs at the addresses ts -/
def zipPs (ts : List Addr) (xs ys : List V) : List (Addr × List V) := (List.range ts.length).filterMap fun j => match ts[j]?, xs[j]?, ys[j]? with
  | some t, some x, some y => some (t, [x, y])
  | _, _, _ => none
theorem zipPs_mem {ts : List Addr} {xs ys : List V} {p : Addr × List V} (h : p ∈ zipPs ts xs ys) : ∃ (j : Nat) (x y : V), ts[j]? = some p.1 ∧ xs[j]? = some x ∧ ys[j]? = some y ∧ p.2 = [x, y] := by
  unfold zipPs at h
  obtain ⟨j, _, hj⟩ := List.mem_filterMap.mp h
  split at hj
  · rename_i t x y h1 h2 h3
    cases hj
    exact ⟨j, x, y, h1, h2, h3, rfl⟩
  · cases hj
theorem zipPs_at {ts : List Addr} {xs ys : List V} {j : Nat} {t : Addr} {x y : V} (h1 : ts[j]? = some t) (h2 : xs[j]? = some x) (h3 : ys[j]? = some y) : (t, [x, y]) ∈ zipPs ts xs ys := by
  unfold zipPs
  refine List.mem_filterMap.mpr ⟨j, List.mem_range.mpr (List.getElem?_eq_some_iff.mp h1).1, ?_⟩
  rw [h1, h2, h3]
/-- the reading: two lists, a new list of new pairs -/
def tLZ (K : PySem.W.Frag) (ta : TA) : TE := fun σ H Q => ta σ H fun vs H1 => ∃ a b xs ys, vs = [.ref a, .ref b] ∧ SqL K H1 a xs ∧ SqL K H1 b ys ∧ min xs.length ys.length ≤ sizeLine ∧
  ∀ (ts : List Addr) (l : Addr) (H2 : Hp), ts.length = min xs.length ys.length → (∀ t ∈ ts, H1 t = none) → (∀ b o, H1 b = some o → H2 b = some o) → (∀ (j : Nat) (t : Addr) (x y : V), ts[j]? = some t → xs[j]? = some x → ys[j]? = some y → H2 t = some (.tup [x, y])) → H1 l = none → H2 l = none → l ∉ ts →
    Q (.ref l) (upd H2 l (.lst (ts.map V.ref)))
theorem pe_lz {X : Cx} {e1 e2 : Expr} {p p2 pos pos2 : Pos} {ta : TA} (hc : X.calm = true) (hgl : Gl X "list") (hml : X.mg "list" = none) (hgz : Gl X "zip") (hmz : X.mg "zip" = none) (ha : PA X [e1, e2] ta)
    (hs : starEach [e1, e2] X.env = (false, eval e1 X.env) :: starEach [e2] X.env := by rfl) (hpl : (backTo pos2 (starEach [e2] X.env)).any (·.1) = false := by rfl)
    (he : starEach [.Call (.Name "zip" p2) [e1, e2] [] pos2] X.env = (false, eval (.Call (.Name "zip" p2) [e1, e2] [] pos2) X.env) :: starEach [] X.env := by rfl) (hpl2 : (backTo pos (starEach [] X.env)).any (·.1) = false := by rfl) :
    PE X (.Call (.Name "list" p) [.Call (.Name "zip" p2) [e1, e2] [] pos2] [] pos) (tLZ X.K ta) := by
  refine ⟨fun pins s σ H Q I h => ?_⟩
  refine wpAny_Call_Name_kw (ld_blt I hgl hml bt_list ?_)
  refine PyProof.Rows.callWith_type1 ?_ he hpl2
  rw [he]
  show wpAny _ _ (spliced ((false, eval (.Call (.Name "zip" p2) [e1, e2] [] pos2) X.env) :: backTo pos (starEach [] X.env))) _ _ s
  refine Calls.spliced_cons ?_
  refine wpAny_Call_Name_kw (ld_blt I hgz hmz PyProof.Rows.boot_zip (PyProof.Rows.callWith_type1 (thn (ha.run pos2 pins s σ H _ I h) fun us s1 ⟨vs, H1, I1, r1, q1⟩ => ?_) hs hpl))
  obtain ⟨a, b, xs, ys, ex, hqx, hqy, hmin, q⟩ := q1
  subst ex
  obtain ⟨u1, u2, rfl, ra, rb⟩ := vals2 r1
  cases ra
  cases rb
  obtain ⟨its, rv, p1, _⟩ := I1.list hqx
  obtain ⟨its2, rv2, p2', _⟩ := I1.list hqy
  have la : a < s1.heap.objs.size := p1.lt
  have lb : b < s1.heap.objs.size := p2'.lt
  refine call_zip_2 p1.isList p2'.isList fun h1 hz hTI hTO i1 i2 hsz hk => ?_
  refine wpAny_pure ?_
  have l1 := rv.length
  have l2 := rv2.length
  have hn : min xs.length ys.length = min its.toArray.size its2.toArray.size := by simp [l1, l2]
  refine call_list_zip (I1.ok.hd hc) (PySem.W.ktu_apart s1.heap.objs.size a b la lb) hz hTI hTO i1 i2 (p1.isList.at fun o e => hk _ _ e) (p2'.isList.at fun o e => hk _ _ e) hn hmin fun h2 acc c' k2 hS hacc items => ?_
  have k12 : ∀ c o, s1.heap.get? c = some o → h2.get? c = some o := fun c o e => by
    have hlt := Heap.lt_size e
    exact k2 c o (Nat.ne_of_lt (Nat.lt_of_lt_of_le hlt (Nat.le_add_right _ _))) (Nat.ne_of_lt (Nat.lt_of_lt_of_le hlt (Nat.le_add_right _ _))) (Nat.ne_of_lt hlt) (Nat.ne_of_lt (Nat.lt_of_lt_of_le hlt (Nat.le_add_right _ _))) (hk c o e)
  -- the addresses
  have addr : ∀ (j : Nat) (v : Value), acc[j]? = some v → v = .ref (addrOf v) ∧ ∃ u1 u2, IsPair h2 (addrOf v) u1 u2 ∧ its[j]? = some u1 ∧ its2[j]? = some u2 ∧ h1.get? (addrOf v) = none ∧ addrOf v ≠ h1.objs.size := fun j v hv => by
    obtain ⟨T, u1, u2, e1, e2, e3, e4, e5, e6⟩ := items j v hv
    subst e1
    exact ⟨rfl, u1, u2, e2, by simpa using e3, by simpa using e4, e5, e6⟩
  have hts : ∀ (j : Nat) (t : Addr), (acc.toList.map addrOf)[j]? = some t → ∃ v, acc[j]? = some v ∧ t = addrOf v := fun j t ht => by
    rw [List.getElem?_map] at ht
    cases q : acc.toList[j]? with
    | none => rw [q] at ht; cases ht
    | some v =>
      rw [q] at ht
      cases ht
      exact ⟨v, by simpa using q, rfl⟩
  have hnew : ∀ t, h1.get? t = none → s1.heap.get? t = none ∧ H1 t = none := fun t ht => by
    have : s1.heap.get? t = none := by
      cases q : s1.heap.get? t with
      | none => rfl
      | some o => rw [hk _ _ q] at ht; cases ht
    exact ⟨this, I1.hok.gone this⟩
  have hpp : ∀ p ∈ zipPs (acc.toList.map addrOf) xs ys, s1.heap.get? p.1 = none ∧ H1 p.1 = none ∧ p.2.length ≤ sizeLine ∧ ∃ its : List Value, Vals p.2 its ∧ IsTup h2 p.1 its.toArray := fun p hp => by
    obtain ⟨j, x, y, t1, t2, t3, t4⟩ := zipPs_mem hp
    obtain ⟨v, hv, et⟩ := hts j _ t1
    obtain ⟨_, u1, u2, e1, e2, e3, e4, _⟩ := addr j v hv
    obtain ⟨n1, n2⟩ := hnew _ e4
    obtain ⟨w1, f1, g1⟩ := rv.get t2
    obtain ⟨w2, f2, g2⟩ := rv2.get t3
    rw [e2] at f1
    cases f1
    rw [e3] at f2
    cases f2
    refine ⟨by rw [et]; exact n1, by rw [et]; exact n2, by rw [t4]; show 2 ≤ sizeLine; decide, [u1, u2], ?_, ?_⟩
    · rw [t4]
      exact .cons g1 (.cons g2 .nil)
    · rw [et]
      exact ⟨_, e1, rfl, _, rfl⟩
  have hl0 : s1.heap.get? h1.objs.size = none ∧ H1 h1.objs.size = none := by
    have : s1.heap.get? h1.objs.size = none := by
      cases q : s1.heap.get? h1.objs.size with
      | none => rfl
      | some o => exact absurd (Heap.lt_size (hk _ _ q)) (Nat.lt_irrefl _)
    exact ⟨this, I1.hok.gone this⟩
  have hvals : Vals ((acc.toList.map addrOf).map V.ref) acc.toList := by
    have key : ∀ l : List Value, (∀ v ∈ l, v = .ref (addrOf v)) → Vals ((l.map addrOf).map V.ref) l := by
      intro l
      induction l with
      | nil => exact fun _ => .nil
      | cons v l ih =>
        intro hv
        exact .cons (hv v List.mem_cons_self) (ih fun u hu => hv u (List.mem_cons_of_mem _ hu))
    refine key _ fun v hv => ?_
    obtain ⟨j, hj⟩ := List.mem_iff_getElem?.mp hv
    exact (addr j v (by simpa using hj)).1
  have hlen : (acc.toList.map addrOf).length = min xs.length ys.length := by rw [List.length_map, Array.length_toList, hacc]
  have I3 := Inv.trackL (l := h1.objs.size) (zs := (acc.toList.map addrOf).map V.ref) (vs := acc.toList) (n := c') I1 k12 hpp hl0.1 hl0.2 (by rw [List.length_map, hlen]; exact hmin) hvals (by simpa using hS) s1.toks
  refine ⟨.ref h1.objs.size, _, I3, rfl, q (acc.toList.map addrOf) h1.objs.size (trk H1 (zipPs (acc.toList.map addrOf) xs ys)) hlen (fun t ht => ?_) (fun b o hb => trk_le (fun p hm => (hpp p hm).2.1) hb) (fun j t x y t1 t2 t3 => ?_) hl0.2 ?_ fun hm => ?_⟩
  · obtain ⟨j, hj⟩ := List.mem_iff_getElem?.mp ht
    obtain ⟨v, hv, rfl⟩ := hts j t hj
    exact (hnew _ (addr j v hv).2.choose_spec.choose_spec.2.2.2.1).2
  · obtain ⟨r, hr⟩ := lookupA_some (zipPs_at t1 t2 t3)
    unfold trk
    rw [hr]
    obtain ⟨k', x', y', t1', t2', t3', t4'⟩ := zipPs_mem (lookupA_mem hr)
    dsimp only at t1' t4'
    subst t4'
    obtain ⟨v, hv, et⟩ := hts j _ t1
    obtain ⟨v', hv', et'⟩ := hts k' _ t1'
    obtain ⟨_, u1, u2, e1, e2, e3, _⟩ := addr j v hv
    obtain ⟨_, w1, w2, f1, f2, f3, _⟩ := addr k' v' hv'
    rw [← et'] at f1
    rw [← et] at e1
    have ee : IsPair h2 t u1 u2 := e1
    have ff : IsPair h2 t w1 w2 := f1
    unfold IsPair at ee ff
    rw [ee] at ff
    simp only [Option.some.injEq, Obj.mk.injEq, Data.seq.injEq] at ff
    obtain ⟨_, _, g, _⟩ := ff
    obtain ⟨a1, m1, n1⟩ := rv.get t2
    obtain ⟨a2, m2, n2⟩ := rv2.get t3
    obtain ⟨b1, m1', n1'⟩ := rv.get t2'
    obtain ⟨b2, m2', n2'⟩ := rv2.get t3'
    rw [e2] at m1
    cases m1
    rw [e3] at m2
    cases m2
    rw [f2] at m1'
    cases m1'
    rw [f3] at m2'
    cases m2'
    simp at g
    obtain ⟨g1, g2⟩ := g
    subst g1 g2
    rw [RelV.inj n1' n1, RelV.inj n2' n2]
  · unfold trk
    cases hq : (zipPs (acc.toList.map addrOf) xs ys).lookup h1.objs.size with
    | none => exact hl0.2
    | some r =>
      obtain ⟨j, x, y, t1, _⟩ := zipPs_mem (lookupA_mem hq)
      obtain ⟨v, hv, et⟩ := hts j _ t1
      obtain ⟨_, _, _, _, _, _, _, e⟩ := addr j v hv
      exact absurd et.symm e
  · obtain ⟨j, hj⟩ := List.mem_iff_getElem?.mp hm
    obtain ⟨v, hv, et⟩ := hts j _ hj
    obtain ⟨_, _, _, _, _, _, _, e⟩ := addr j v hv
    exact absurd et.symm e
theorem reps_of {c : RC} {H : Hp} : ∀ {ds : List D} {xs : List V}, ds.length = xs.length → (∀ (j : Nat) (d : D) (x : V), ds[j]? = some d → xs[j]? = some x → Rep c H d x) → Reps c H ds xs
  | [], [], _, _ => .nil
  | [], _ :: _, h, _ => by simp at h
  | _ :: _, [], h, _ => by simp at h
  | d :: ds, x :: xs, h, k => .cons (k 0 d x rfl rfl) (reps_of (by simpa using h) fun j d x h1 h2 => k (j + 1) d x (by simpa using h1) (by simpa using h2))
theorem sv_lz {X : Cx} {W : WX} {e : Expr} {g : AM} (p : PE X e (tLZ X.K (tA (rc X) W g))) : SV X W e (mLZ g) := PE.imp p fun σ H Q ⟨α, ρ, S, hE, hS, q⟩ => by
  refine ⟨α, ρ, S, hE, hS, ?_⟩
  refine wpR_mono (wpR_bind q) (fun xs S1 h1 vs H1 α1 x1 s1 r1 => ?_) fun _ _ z => z
  split at h1
  · rename_i ds es
    by_cases hl : (pairsD ds es).length ≤ lim
    · rw [if_pos hl] at h1
      obtain ⟨v, w, rfl, hv, hw⟩ := r1.two
      obtain ⟨a, ys, rfl, k1, t1⟩ := hv.listF (.inl rfl)
      obtain ⟨b, zs, rfl, k2, t2⟩ := hw.listF (.inl rfl)
      have pl : (pairsD ds es).length = min ys.length zs.length := by
        unfold pairsD
        rw [List.length_zipWith, t1.length, t2.length]
      refine ⟨a, b, ys, zs, rfl, k1.seq, k2.seq, by rw [← pl, lim_eq]; exact hl, fun ts l H2 ht hn ho htup hl1 hl2 hlt => ?_⟩
      have sm : Same H1 (upd H2 l (.lst (ts.map V.ref))) := fun b o hb => by
        rw [upd_ne (fun e => by rw [e, hl1] at hb; cases hb)]
        exact ho b o hb
      have hl0 : H l = none := by
        cases q : H l with
        | none => rfl
        | some u =>
          by_cases hm : l ∈ α
          · have hm1 : l ∈ α1 := by
              obtain ⟨β, rfl⟩ := x1.pre
              exact List.mem_append_left _ hm
            exact absurd hl1 (s1.tr l hm1)
          · rw [x1.fr l u q hm] at hl1
            cases hl1
      refine h1 (.ref l) _ α1 (x1.trans (.of_same sm)) (s1.same sm) ⟨l, rfl, ⟨ts.map V.ref, upd_same, reps_of (by rw [pl, List.length_map, ht]) fun j d x hd hx => ?_⟩, fun hm => s1.tr l hm hl1⟩ fun a e => by cases e; exact hl0
      unfold pairsD at hd
      rw [List.getElem?_zipWith] at hd
      cases hd1 : ds[j]? with
      | none => rw [hd1] at hd; simp at hd
      | some p =>
        cases hd2 : es[j]? with
        | none => rw [hd1, hd2] at hd; simp at hd
        | some q =>
          rw [hd1, hd2] at hd
          cases hd
          obtain ⟨x1', ex1, rx1⟩ := t1.get hd1
          obtain ⟨x2', ex2, rx2⟩ := t2.get hd2
          rw [List.getElem?_map] at hx
          cases hq : ts[j]? with
          | none => rw [hq] at hx; cases hx
          | some t =>
            rw [hq] at hx
            cases hx
            have htn : t ≠ l := fun e => hlt (e ▸ List.mem_of_getElem? hq)
            have h2 := htup j t x1' x2' hq ex1 ex2
            simp only [Rep]
            exact ⟨t, [x1', x2'], rfl, by rw [upd_ne htn]; exact h2, .cons (rx1.mono (LeH.same sm)) (.one (rx2.mono (LeH.same sm)))⟩
    · rw [if_neg hl] at h1
      exact h1.elim
  · exact h1.elim
end M

namespace M
open PySem PySem.Spec PyProof.Rows L2

/-! ### sorted of a list or a tuple of data that can be compared -/
def SeqOf (s : Shared) (l : Addr) (vs : List Value) : Prop := ∃ (o : Obj) (n : Nat), s.heap.get? l = some o ∧ (o.cls = .type "list" ∨ o.cls = .type "tuple") ∧ o.data = .seq vs.toArray n
section
variable {prog : Program} {w : World} {A : Around} {E : Value → Shared → Prop} {s : Shared}
theorem collect_sq {l : Addr} {vs : List Value} {Q : List Value → Shared → Prop} (hl : SeqOf s l vs)
    (h : Q vs { s with heap := (s.heap.push (seqObj "list" #[] 0)).update s.heap.objs.size (Obj.mapSeq (· ++ vs.toArray)) }) (hz : vs.length ≤ sizeLine) :
    wpAny (model prog w) A (collect (.ref l)) Q E s := by
  obtain ⟨o, n, ho, hc, hd⟩ := hl
  unfold collect
  refine wpAny_bind (wpAny_runValue (codeAny_builtin entry_proto_collect' ?_))
  show wpAny _ _
    (do
      let z ← newList []
      again (.builtin "list.__iadd__" ⟨[z, .ref l], []⟩)) _ _ s
  refine wpAny_bind (wpAny_newList (wpAny_pure
    ⟨Code.quiet_builtin _ (by decide +kernel), codeAny_builtin entry_list_iadd' ?_⟩))
  show wpAny _ _
    (Builtin.List.listExtendWith (.ref s.heap.objs.size) (.ref l) (.ref s.heap.objs.size)) _ _
    { s with heap := s.heap.push (seqObj "list" #[] 0) }
  unfold Builtin.List.listExtendWith
  have ho2 : (s.heap.push (seqObj "list" #[] 0)).get? l = some o := Heap.get?_push_of_some _ ho
  have nt : ∃ T, o.cls = .type T ∧ (T = "list" ∨ T = "tuple") := by
    rcases hc with hc | hc
    · exact ⟨_, hc, .inl rfl⟩
    · exact ⟨_, hc, .inr rfl⟩
  obtain ⟨T, hT, hT2⟩ := nt
  refine wpAny_bind (wpAny_typeOf (T := T) ⟨o, ho2, hT⟩ ?_)
  have tt : (Value.type T == Value.type "list" || Value.type T == Value.type "tuple") = true := by rcases hT2 with rfl | rfl <;> rfl
  rw [Bool.or_assoc, tt, Bool.or_true, if_pos rfl]
  refine wpAny_bind (listItems_at ho2 hd ?_)
  have hsz0 : (s.heap.push (seqObj "list" #[] 0)).get? s.heap.objs.size = some (seqObj "list" #[] 0) := Heap.get?_push_size _ rfl
  refine wpAny_bind (listItems_at (xs := #[]) (n := 0) hsz0 rfl ?_)
  rw [if_neg (by simp)]
  refine wpAny_bind (listUpdate_at (xs := #[]) (n := 0) hsz0 rfl ?_ (Nat.zero_le _) (by
    show (#[] ++ vs.toArray).size ≤ sizeLine + 1
    simp only [Array.size_append, List.size_toArray, List.length_nil]
    omega))
  refine wpAny_pure ?_
  show wpAny (model prog w) A
    (do
      let o ← load s.heap.objs.size
      match o.data with
      | .seq xs _ => pure xs.toList
      | _ => unsupported "internal:collect") Q E
    { s with heap := (s.heap.push (seqObj "list" #[] 0)).update s.heap.objs.size (Obj.mapSeq (· ++ vs.toArray)) }
  refine wpAny_bind (wpAny_load (get?_update_seq hsz0 _) ?_)
  show wpAny _ _
    (pure ((#[] : Array Value) ++ vs.toArray).toList) Q E _
  have e : ((#[] : Array Value) ++ vs.toArray).toList = vs := by simp
  rw [e]
  exact wpAny_pure h
theorem sorted_sq {l : Addr} {vs : List Value} {Q : Value → Shared → Prop} (hl : SeqOf s l vs) (hL : vs.length ≤ sizeLine)
    (body : ∀ E' : Value → Shared → Prop, wpAny (model prog w) A.in1.in1 (Builtin.«list.sort» ⟨[.ref (s.heap.objs.size + 1)], []⟩) (fun f s' => f = .done (.ret .none) ∧ Q (.ref (s.heap.objs.size + 1)) s') E' { s with heap := PySem.W.copyHeap s.heap vs }) :
    wpAny (model prog w) A (call (.builtin "sorted") [.ref l]) Q E s := by
  refine Calls.call_function_entry kind_sorted plain_sorted entry_sorted (args_sorted1 _) ?_
  unfold Builtin.«sorted»
  refine wpAny_bind (m := checkCount "sorted" 1 1 _) (wpAny_pure ?_)
  refine wpAny_bind (collect_sq hl ?_ hL)
  refine wpAny_bind (wpAny_newList ?_ hL)
  have hsz : ((s.heap.push (seqObj "list" #[] 0)).update s.heap.objs.size (Obj.mapSeq (· ++ vs.toArray))).objs.size = s.heap.objs.size + 1 := (Heap.size_update _ _ _).trans (size_push' _ _)
  show wpAny _ _ _ _ _ { s with heap := PySem.W.copyHeap s.heap vs }
  rw [hsz]
  refine wpAny_bind (wpAny_holding (wpAny_call_entry slot_list_sort ⟨_, PySem.W.copyHeap_at s.heap vs, rfl⟩ entry_list_sort ?b (args_list_sort _)))
  case b =>
    refine wpAny_mono (body _) (fun f s' h => ?_) fun _ _ z => z
    obtain ⟨rfl, h⟩ := h
    exact ⟨_, rfl, wpAny_pure ⟨_, rfl, h⟩⟩
end
section
variable {prog : Program} {w : World} {A : Around} {E : Value → Shared → Prop} {s : Shared} {β : Type} {vs : List Value} {bs : List β} {R : Value → β → Prop} {enc : β → PyData}
open PySem.W in
theorem sorted_sq_data {l : Addr} {Q : Value → Shared → Prop} (hl : SeqOf s l vs) (e : EachIs R vs bs) (er : EachIs (fun v b => ∃ as, Reads s.heap v (enc b) as) vs bs)
    (hal : AllAlike (bs.map enc)) (hk : Sortable (bs.map enc)) (hL : bs.length ≤ sizeLine) (hu : ∀ b, b ∈ bs → A.units + 2 + (enc b).depth < cLine)
    (h : ∀ out, out.length = bs.length → EachIs R out (bs.mergeSort (dataLe false enc)) → Q (.ref (s.heap.objs.size + 1)) { s with heap := sortedAll s.heap vs (List.toArray out) }) :
    wpAny (model prog w) A (call (.builtin "sorted") [.ref l]) Q E s := by
  let H2 := sortingHeap (copyHeap s.heap vs) (s.heap.objs.size + 1) vs
  have er' : EachIs (fun v b => ∃ as, Reads H2 v (enc b) as) vs bs := er.mono fun _ _ q => by
    obtain ⟨as, r⟩ := q
    exact ⟨as, PyProof.Rows.Reads.keeps (fun _ _ => sorting_copy_old) r⟩
  have hz : vs.length ≤ sizeLine := by
    rw [e.length]
    exact hL
  have S := SortsAt.data (prog := prog) (w := w) (A := A.in1.in1) (s := { s with heap := H2 }) (each_map (R := fun v d => ∃ as, Reads H2 v d as) enc er') hal hk (bound_map hu)
  refine sorted_sq hl hz fun E' => list_sort_vals (s := { s with heap := copyHeap s.heap vs }) (copyHeap_at s.heap vs) S hz ⟨rfl, ?_⟩
  refine h _ ?_ (sortVals_data false e er' hal)
  rw [sortVals_length false rfl]
  exact e.length
end
/-- data for a sort -/
def pyD (d : D) : PyData := (D.py d).getD .none
def alikeD (ds : List D) : Bool := ds.all fun a => ds.all fun b => PySem.W.alike (pyD a) (pyD b)
def isTupP : PyData → Bool
  | .tuple (_ :: _) => true
  | _ => false
def isOtherP : PyData → Bool
  | .none => false
  | .tuple _ => false
  | _ => true
theorem tupP_of {p : PyData} (h : isTupP p = true) : ∃ x r, p = .tuple (x :: r) := by
  unfold isTupP at h
  split at h
  · exact ⟨_, _, rfl⟩
  · cases h
theorem otherP_of {p : PyData} (h : isOtherP p = true) : p ≠ .none ∧ ∀ xs, p ≠ .tuple xs := by
  constructor
  · intro e
    subst e
    cases h
  · intro xs e
    subst e
    cases h
def sortableD (ds : List D) : Bool := (ds.all fun d => isTupP (pyD d)) || ds.all fun d => isOtherP (pyD d)
/-- by insertion (a function that the kernel runs) -/
def insL {α : Type} (le : α → α → Bool) (a : α) : List α → List α
  | [] => [a]
  | b :: r => if le a b = true then a :: b :: r else b :: insL le a r
def isort {α : Type} (le : α → α → Bool) (l : List α) : List α := l.foldr (insL le) []
theorem insL_at {α : Type} {le : α → α → Bool} {a : α} : ∀ {l1 l2 : List α}, (∀ b ∈ l1, (!le a b) = true) → (∀ b ∈ l2, le a b = true) → insL le a (l1 ++ l2) = l1 ++ a :: l2
  | [], [], _, _ => rfl
  | [], b :: r, _, h => by
    show (if le a b = true then _ else _) = _
    rw [if_pos (h b List.mem_cons_self)]
    rfl
  | b :: l1, l2, h1, h2 => by
    show (if le a b = true then _ else _) = _
    have := h1 b List.mem_cons_self
    rw [if_neg (by simpa using this)]
    show b :: insL le a (l1 ++ l2) = _
    rw [insL_at (fun x hx => h1 x (List.mem_cons_of_mem _ hx)) h2]
    rfl
theorem isort_eq {α : Type} {le : α → α → Bool} (tr : ∀ a b c : α, le a b = true → le b c = true → le a c = true) (to : ∀ a b : α, (le a b || le b a) = true) : ∀ l : List α, isort le l = l.mergeSort le
  | [] => by simp [isort]
  | a :: l => by
    obtain ⟨l1, l2, e1, e2, h⟩ := List.mergeSort_cons tr to a l
    have ih := isort_eq tr to l
    have sp : List.Pairwise (fun x y => le x y = true) (l1 ++ a :: l2) := by
      rw [← e1]
      exact List.pairwise_mergeSort tr to _
    have h2 : ∀ b ∈ l2, le a b = true := (List.pairwise_cons.mp (List.pairwise_append.mp sp).2.1).1
    show insL le a (isort le l) = _
    rw [ih, e2, e1]
    exact insL_at h h2
def leD : D → D → Bool := PySem.W.dataLe false pyD
theorem leD_sort (ds : List D) : isort leD ds = ds.mergeSort (PySem.W.dataLe false pyD) := by
  have T := PySem.W.sortLe_total (PyProof.Rows.listOrd PyProof.Rows.itemOrd) false fun d : D => PySem.W.keyToks (pyD d)
  exact isort_eq (fun a b c => T.trans a b c) (fun a b => by simpa using T.total a b) ds
def sortD' (ds : List D) : Option (List D) := if ((ds.all fun d => (D.py d).isSome) && (alikeD ds && (sortableD ds && ds.all fun d => decide ((pyD d).depth ≤ 32)))) = true then some (isort leD ds) else none
def sortA : D → Option Val
  | .lst ds => (sortD' ds).map fun es => .n (.li es)
  | .tup ds => (sortD' ds).map fun es => .n (.li es)
  | _ => none
def rSortA (K : PySem.W.Frag) (c : RC) : List V → Hp → VK → Prop := fun vs H Q => ∃ (a : Addr) (xs : List V) (ds es : List D), vs = [V.ref a] ∧ (SqL K H a xs ∨ SqT K H a xs) ∧ Reps c H ds xs ∧ sortD' ds = some es ∧ ∀ (ys : List V) (p : Addr), Reps c H es ys → H p = none → Q (.ref p) (upd H p (.lst ys))
section
variable {X : Cx}
theorem each_of {c : RC} {H : Hp} : ∀ {ds : List D} {xs : List V} {its : List Value}, Reps c H ds xs → Vals xs its → PySem.W.EachIs (fun u d => ∃ v, RelV v u ∧ Rep c H d v) its ds
  | [], _, _, r, v => by
    simp only [Reps] at r
    subst r
    cases v
    exact .nil
  | d :: ds, _, _, r, v => by
    simp only [Reps] at r
    obtain ⟨x, t, rfl, q, r⟩ := r
    cases v with
    | cons a b => exact .cons ⟨x, a, q⟩ (each_of r b)
theorem of_each {c : RC} {H : Hp} : ∀ {ds : List D} {its : List Value}, PySem.W.EachIs (fun u d => ∃ v, RelV v u ∧ Rep c H d v) its ds → ∃ xs, Reps c H ds xs ∧ Vals xs its
  | _, _, .nil => ⟨[], .nil, .nil⟩
  | _, _, .cons h t => by
    obtain ⟨v, a, q⟩ := h
    obtain ⟨xs, r, b⟩ := of_each t
    exact ⟨v :: xs, .cons q r, .cons a b⟩
theorem each_reads {pins : List (Addr × Obj)} {σ : L2.St} {H : Hp} {s : Shared} (I : Inv X pins σ H s) : ∀ {ds : List D} {xs : List V} {its : List Value}, (ds.all fun d => (D.py d).isSome) = true → Reps (rc X) H ds xs → Vals xs its →
    PySem.W.EachIs (fun u d => ∃ as, Reads s.heap u (pyD d) as) its ds
  | [], _, _, _, r, v => by
    simp only [Reps] at r
    subst r
    cases v
    exact .nil
  | d :: ds, _, _, hp, r, v => by
    simp only [Reps] at r
    obtain ⟨x, t, rfl, q, r⟩ := r
    simp only [List.all_cons, Bool.and_eq_true] at hp
    cases v with
    | cons a b =>
      refine .cons ?_ (each_reads I hp.2 r b)
      cases hd : D.py d with
      | none => rw [hd] at hp; exact absurd hp.1 (by decide)
      | some p =>
        have e : pyD d = p := by unfold pyD; rw [hd]; rfl
        rw [e]
        exact Dp.reads I _ _ _ (Rep.dp q hd) a
theorem call_sortA (hu : X.A.units + 65 < cLine) : CallR X (.builtin "sorted") (rSortA X.K (rc X)) := by
  intro pins s σ H vs us Q I r h
  obtain ⟨a, xs, ds, es, rfl, hs, rp, hsort, q⟩ := h
  obtain ⟨u, rfl, ru⟩ := vals1 r
  obtain rfl : u = Value.ref a := ru
  unfold sortD' at hsort
  split at hsort
  case isFalse => cases hsort
  case isTrue hc =>
  cases hsort
  simp only [Bool.and_eq_true] at hc
  obtain ⟨c1, c2, c3, c4⟩ := hc
  have key : ∀ its : List Value, Vals xs its → SeqOf s a its → xs.length ≤ sizeLine → wpAny (model X.prog X.w) X.A (call (.builtin "sorted") [.ref a]) (EP X pins σ Q) X.xe s := fun its rv hq hz => by
    have el : ds.length = xs.length := rp.length
    refine sorted_sq_data (bs := ds) (enc := pyD) (R := fun u d => ∃ v, RelV v u ∧ Rep (rc X) H d v) hq (each_of rp rv) (each_reads I c1 rp rv) ?_ ?_ (by omega) ?_ fun out ho he => ?_
    · intro d hd d' hd'
      obtain ⟨b, hb, rfl⟩ := List.mem_map.mp hd
      obtain ⟨b', hb', rfl⟩ := List.mem_map.mp hd'
      exact List.all_eq_true.mp (List.all_eq_true.mp c2 b hb) b' hb'
    · unfold sortableD at c3
      rcases Bool.or_eq_true _ _ ▸ c3 with c3 | c3
      · refine .inl fun d hd => ?_
        obtain ⟨b, hb, rfl⟩ := List.mem_map.mp hd
        have := List.all_eq_true.mp c3 b hb
        exact tupP_of this
      · refine .inr fun d hd => ?_
        obtain ⟨b, hb, rfl⟩ := List.mem_map.mp hd
        have := List.all_eq_true.mp c3 b hb
        exact otherP_of this
    · intro b hb
      have := of_decide_eq_true (List.all_eq_true.mp c4 b hb)
      omega
    · rw [← leD_sort] at he
      obtain ⟨ys, ry, vy⟩ := of_each he
      obtain ⟨ep, he'⟩ := PyProof.Rows.sortedAll_at s.heap its out.toArray
      have hl : ys.length = ds.length := by rw [← ry.length, leD_sort, List.length_mergeSort]
      exact ⟨.ref _, upd H (s.heap.objs.size + 1) (.lst ys), I.laid (t' := s.toks) (fun _ _ => PyProof.Rows.sortedAll_old) (Nat.le_succ _) ⟨by omega, out, ep, vy, he'⟩, rfl, q _ _ ry (I.hok.fresh (Nat.le_succ _))⟩
  rcases hs with hs | hs
  · obtain ⟨its, rv, pl, hz⟩ := I.list hs
    obtain ⟨o, ho, hc, n, hd⟩ := pl.isList
    exact key its rv ⟨o, n, ho, .inl hc, hd⟩ hz
  · obtain ⟨its, rv, pl, hz⟩ := I.tuple hs
    obtain ⟨o, ho, hc, n, hd⟩ := pl
    exact key its rv ⟨o, n, ho, .inr hc, hd⟩ hz
theorem cg_sortA : CallG X (rSortA X.K (rc X)) (g1 sortA) := cg1 fun H p x z Q rx hz k => by
  have fin : ∀ ds es : List D, ∀ a xs, x = .ref a → (SqL X.K H a xs ∨ SqT X.K H a xs) → Reps (rc X) H ds xs → sortD' ds = some es → z = .n (.li es) → rSortA X.K (rc X) [x] H Q := fun ds es a xs e1 e2 e3 e4 e5 => by
    subst e1 e5
    exact ⟨a, xs, ds, es, rfl, e2, e3, e4, fun ys p r hp => k.new r p hp⟩
  cases p with
  | lst ds =>
    obtain ⟨es, he, e⟩ := map_some hz
    obtain ⟨a, xs, rfl, h1, h2⟩ := rx.seqL
    exact fin ds es a xs rfl (.inl h1) h2 he e
  | tup ds =>
    obtain ⟨es, he, e⟩ := map_some hz
    obtain ⟨a, xs, rfl, h1, h2⟩ := rx.tup
    exact fin ds es a xs rfl (.inr h1) h2 he e
  | _ => cases hz
end
end M

namespace M
open PySem PySem.Spec PyProof.Rows L2

/-! ### o[i] op= e -/
section
variable {X : Cx} {W : WX}
theorem get_list : PGet X (rIxL X.K) := by
  intro pins s σ H o i ov iv Q I ro ri h
  obtain ⟨p, xs, k, z, rfl, rfl, hq, he, q⟩ := h
  obtain rfl : ov = Value.ref p := ro
  obtain ⟨t, rfl⟩ := ri
  obtain ⟨its, r, pl, hz⟩ := I.list hq
  obtain ⟨j, h1, h2, h3, h4, h5⟩ := atI_get he
  obtain ⟨w, ew, rw'⟩ := r.get h2
  have hl := r.length
  have hn := line63
  have fin : EP X pins σ Q w s := ⟨z, H, I, rw', q⟩
  by_cases h0 : 0 ≤ k
  · have hj : k.toNat = j := by
      rw [seqIndex_of h0 h5] at h1
      exact Option.some.inj h1
    exact wpAny_getItem_list pl.isList h0 (by omega) (by rw [hj]; simpa using ew) fin
  · have hj : (k + (its.toArray.size : Int)).toNat = j := by
      rw [seqIndex_neg (by omega) h4] at h1
      rw [List.size_toArray, ← hl]
      exact Option.some.inj h1
    exact wpAny_getItem_list_neg pl.isList (by omega) (by rw [List.size_toArray]; omega) (by omega) (by rw [hj]; simpa using ew) fin
theorem get_dict (hu : X.A.units + 1 < cLine) : PGet X rDGetV := by
  intro pins s σ H o i ov iv Q I ro ri h
  obtain ⟨a, v, rfl, g, q⟩ := h
  obtain rfl : ov = Value.ref a := ro
  exact d_getItem hu I g ri fun w' s3 I3 rw' => ⟨v, H, I3, rw', q⟩
def rGetA (K : PySem.W.Frag) : R2 := fun x y H Q => rIxL K x y H Q ∨ rDGetV x y H Q
theorem get_any (hu : X.A.units + 65 < cLine) : PGet X (rGetA X.K) := by
  intro pins s σ H o i ov iv Q I ro ri h
  rcases h with h | h
  · exact get_list pins s σ H o i ov iv Q I ro ri h
  · exact get_dict (by omega) pins s σ H o i ov iv Q I ro ri h
/-- the item that is changed -/
def gIxM : D → D → Option Val
  | .lst ds, .int i => (L2.atI ds i).map fun d => .v d
  | .fdk ks vs, q => match getDk (.fdk ks vs) q with
    | some (some d) => some (.v d)
    | _ => none
  | .fdt ks vs, q => match getDk (.fdt ks vs) q with
    | some (some d) => some (.v d)
    | _ => none
  | _, _ => none
theorem og_ixM : OpG X (rGetA X.K) gIxM := by
  intro H p q x y z Q rx ry hz k
  cases p with
  | fdk ks vs => exact .inr (ix_dict_of rx ry hz k)
  | fdt ks vs => exact .inr (ix_dict_of rx ry hz k)
  | lst ds =>
    cases q with
    | int i =>
      obtain ⟨d, hd, rfl⟩ := map_some hz
      obtain ⟨l, xs, rfl, q, r⟩ := rx.seqL
      obtain ⟨v, ev, rv⟩ := r.atI hd
      exact .inl ⟨l, xs, i, v, rfl, ry.int, q, ev, k.old rv⟩
    | _ => cases hz
  | _ => cases q <;> cases hz
def sAugT (fo fi : VM) (g : D → D → Option Val) (fe : VM) : SM := fun ρ S => ofR (fo ρ S) ρ fun x S1 => ofR (fi ρ S1) ρ fun y S2 => ofR (ap2 gIxM S2 x y) ρ fun z S3 => ofR (fe ρ S3) ρ fun e S4 => ofR (ap2 g S4 z e) ρ fun r S5 => match x, y, r with
  | .l n, .v _, .v d => (match S5[n]? with
    | some (some o) => (match setO o y d with
      | some o' => .nx ρ (S5.set n (some o'))
      | none => .bad)
    | _ => .bad)
  | _, _, _ => .bad
theorem ss_augT {o i e : Expr} {fo fi fe : VM} {op : Operator} {pos tpos : Pos} {tip : TIp} {g : D → D → Option Val} (hu : X.A.units + 65 < cLine) (ho : SV X W o fo) (hi : SV X W i fi) (he : SV X W e fe) (hp : PIp X op tip) (hg : OpG X tip g)
    (ha : ∀ ov iv new, augStore i ov iv new = (do
      holding [new, ov, iv] (setItem ov iv new)
      release [new, ov, iv] []
      pure .next) := by intros; rfl) : SS X W (.AugAssign (.Subscript o i tpos) op e pos) (sAugT fo fi g fe) := by
  refine PS.imp (ps_augS ho hi (get_any hu) he hp (set_any hu) ha) fun D σ H ⟨α, ρ, S, hE, hS, q⟩ => ⟨α, ρ, S, hE, hS, ?_⟩
  refine wpR_mono (wpS_ofR hE q) (fun x S1 h1 v1 H1 α1 x1 s1 r1 f1 => ?_) fun _ _ z => z
  have e1 := hE.mono x1
  refine ⟨α1, ρ, S1, e1, s1, ?_⟩
  refine wpR_mono (wpS_ofR e1 (h1.ext x1)) (fun y S2 h2 v2 H2 α2 x2 s2 r2 f2 => ?_) fun _ _ z => z
  have e2 := e1.mono x2
  have h2' := wpS_ofR e2 (h2.ext x2)
  -- the item
  refine ap2_ok og_ixM (er := okE (rc X) W σ α2 H2) s2 (r1.mono x2) r2 ?_
  refine wpR_mono h2' (fun z S3 h3 v3 H3 α3 x3 s3 r3 f3 => ?_) fun _ _ z => z
  have e3 := e2.mono x3
  refine ⟨α3, ρ, S3, e3, s3, ?_⟩
  refine wpR_mono (wpS_ofR e3 (h3.ext x3)) (fun w S4 h4 v4 H4 α4 x4 s4 r4 f4 => ?_) fun _ _ z => z
  have e4 := e3.mono x4
  refine ap2_ok hg (er := okE (rc X) W σ α4 H4) s4 (r3.mono x4) r4 ?_
  refine wpR_mono (wpS_ofR e4 (h4.ext x4)) (fun r S5 h5 v5 H5 α5 x5 s5 r5 f5 => ?_) fun _ _ z => z
  have x25 := (x3.trans x4).trans x5
  cases x with
  | v d => exact h5.elim
  | n ob => exact h5.elim
  | l n =>
    cases y with
    | l m => exact h5.elim
    | n ob => exact h5.elim
    | v q =>
      cases r with
      | l m => exact h5.elim
      | n ob => exact h5.elim
      | v d =>
        dsimp only at h5
        obtain ⟨a, ea, rfl⟩ := r1
        have ea5 : α5[n]? = some a := pre_get (x2.trans x25).pre ea
        cases hq : S5[n]? with
        | none => rw [hq] at h5; exact h5.elim
        | some o2 =>
          rw [hq] at h5
          cases o2 with
          | none => exact h5.elim
          | some ob =>
            dsimp only at h5
            cases hs : setO ob (.v q) d with
            | none => rw [hs] at h5; exact h5.elim
            | some o' =>
              rw [hs] at h5
              refine setO_ok s5 ea5 hq (r2.mono x25) r5 hs fun H' l ext s6 => ?_
              have x6 := ext _ _ x5
              exact h5 σ H' α5 x6 (e4.mono x6) s6
end
end M

namespace M
open PySem PySem.Spec PyProof.Rows L2

/-! ### {}; d.get(k), d.get(k, x) -/
section
variable {X : Cx} {W : WX}
def mNewK : VM := fun _ S => .ok (.n (.dk [] [])) S
def mNewT : VM := fun _ S => .ok (.n (.dt [] [])) S
theorem newO {c : RC} {Q : VK} {α : List Addr} {H : Hp} {S : Sto} {o : Ob} {u : HO} (hS : RelS c α H S) (q : okV c Q α H (.n o) S) (r : ∀ p, RepO c (upd H p u) o p) : ∀ p, H p = none → Q (.ref p) (upd H p u) := fun p hp =>
  q _ _ α (.of_same (same_upd hp)) (hS.same (same_upd hp)) ⟨p, rfl, r p, hS.new hp⟩ fun a e => by
    cases e
    exact hp
theorem sv_newK {pos : Pos} : SV X W (.Dict [] [] pos) mNewK := PE.imp pe_dnewK fun σ H Q ⟨α, ρ, S, hE, hS, q⟩ => newO hS q fun p => ⟨[], upd_same, rfl, .nil⟩
theorem sv_newT {pos : Pos} : SV X W (.Dict [] [] pos) mNewT := PE.imp pe_dnewT fun σ H Q ⟨α, ρ, S, hE, hS, q⟩ => newO hS q fun p => ⟨[], upd_same, rfl, .nil⟩
def isDk : D → Bool
  | .fdk _ _ => true
  | .fdt _ _ => true
  | _ => false
theorem isDk_rep {c : RC} {H : Hp} {p : D} {x : V} (h : isDk p = true) (r : RepP c H p x) : ∃ a, x = .ref a ∧ IsD H a := by
  cases p with
  | fdk ks vs =>
    obtain ⟨a, xs, rfl, q, _⟩ := r
    exact ⟨a, rfl, .inl ⟨_, q⟩⟩
  | fdt ks vs =>
    obtain ⟨a, xs, rfl, q, _⟩ := r
    exact ⟨a, rfl, .inr ⟨_, q⟩⟩
  | _ => cases h
/-- is it a dict? -/
def onDk (S : Sto) (x : Val) : Bool := match pk S x with
  | some p => isDk p
  | none => false
theorem onDk_rep {c : RC} {α : List Addr} {H : Hp} {S : Sto} {x : Val} {v : V} (h : onDk S x = true) (s : RelS c α H S) (r : RepX c α H x v) : ∃ a, v = .ref a ∧ IsD H a := by
  unfold onDk at h
  cases hp : pk S x with
  | none => rw [hp] at h; cases h
  | some p =>
    rw [hp] at h
    exact isDk_rep h (pk_rep s r hp)
def getDo (S : Sto) (x y : Val) : Option (Option D) := match pk S x, pk S y with
  | some p, some q => getDk p q
  | _, _ => none
theorem getDo_rep {c : RC} {α : List Addr} {H : Hp} {S : Sto} {x y : Val} {v w : V} {r : Option D} (h : getDo S x y = some r) (s : RelS c α H S) (rx : RepX c α H x v) (ry : RepX c α H y w) : ∃ a o, v = .ref a ∧ DGet H a w o ∧ RelDV c H r o := by
  unfold getDo at h
  cases hp : pk S x with
  | none => rw [hp] at h; cases h
  | some p =>
    cases hq : pk S y with
    | none => rw [hp, hq] at h; cases h
    | some q =>
      rw [hp, hq] at h
      exact getDk_rep h (pk_rep s rx hp) (pk_rep s ry hq)
def mGet1 (f g : VM) : VM := fun ρ S => (f ρ S).bind fun x S1 => if onDk S1 x = true then (g ρ S1).bind fun y S2 => (match getDo S2 x y with
    | some o => .ok (.v (o.getD .non)) S2
    | none => .bad) else .bad
def mGet2 (f g h : VM) : VM := fun ρ S => (f ρ S).bind fun x S1 => if onDk S1 x = true then (g ρ S1).bind fun y S2 => (h ρ S2).bind fun z S3 => (match z, getDo S3 x y with
    | .v d, some o => .ok (.v (o.getD d)) S3
    | _, _ => .bad) else .bad
theorem RelDV.getD {c : RC} {H : Hp} {r : Option D} {o : Option V} {d : D} {z : V} (h : RelDV c H r o) (q : Rep c H d z) : Rep c H (r.getD d) (o.getD z) := by
  cases r <;> cases o <;> first | exact h | exact q | exact h.elim
theorem sv_get1 {o e : Expr} {apos cpos : Pos} {f g : VM} (hu : X.A.units + 65 < cLine) (ho : SV X W o f) (he : SV X W e g) (m : M1 X o "get" apos e cpos) : SV X W (.Call (.Attribute o "get" apos) [e] [] cpos) (mGet1 f g) := by
  refine PE.imp (pe_dget1 (by omega) ho he m) fun σ H Q ⟨α, ρ, S, hE, hS, q⟩ => ⟨α, ρ, S, hE, hS, ?_⟩
  refine wpR_mono (wpR_bind q) (fun x S1 h1 v H1 α1 x1 s1 r1 f1 => ?_) fun _ _ z => z
  by_cases hd : onDk S1 x = true
  · rw [if_pos hd] at h1
    obtain ⟨a, rfl, hi⟩ := onDk_rep hd s1 r1
    refine ⟨a, rfl, hi, α1, ρ, S1, hE.mono x1, s1, ?_⟩
    refine wpR_mono (wpR_bind h1) (fun y S2 h2 w H2 α2 x2 s2 r2 f2 => ?_) fun _ _ z => z.mono x1
    cases hg : getDo S2 x y with
    | none => rw [hg] at h2; exact h2.elim
    | some o =>
      rw [hg] at h2
      obtain ⟨b, ov, eb, gd, rv⟩ := getDo_rep hg s2 (r1.mono x2) r2
      cases eb
      refine ⟨ov, gd, h2 _ H2 α2 (x1.trans x2) s2 ?_ trivial⟩
      show Rep (rc X) H2 (o.getD .non) (ov.getD .non)
      exact rv.getD (by simp only [Rep])
  · rw [if_neg hd] at h1
    exact h1.elim
theorem sv_get2 {o e e2 : Expr} {apos cpos : Pos} {f g h : VM} (hu : X.A.units + 65 < cLine) (ho : SV X W o f) (he : SV X W e g) (hf : SV X W e2 h) (m : M2 X o "get" apos e e2 cpos) : SV X W (.Call (.Attribute o "get" apos) [e, e2] [] cpos) (mGet2 f g h) := by
  refine PE.imp (pe_dget2 (by omega) ho he hf m) fun σ H Q ⟨α, ρ, S, hE, hS, q⟩ => ⟨α, ρ, S, hE, hS, ?_⟩
  refine wpR_mono (wpR_bind q) (fun x S1 h1 v H1 α1 x1 s1 r1 f1 => ?_) fun _ _ z => z
  by_cases hd : onDk S1 x = true
  · rw [if_pos hd] at h1
    obtain ⟨a, rfl, hi⟩ := onDk_rep hd s1 r1
    refine ⟨a, rfl, hi, α1, ρ, S1, hE.mono x1, s1, ?_⟩
    refine wpR_mono (wpR_bind h1) (fun y S2 h2 w H2 α2 x2 s2 r2 f2 => ?_) fun _ _ z => z.mono x1
    refine ⟨α2, ρ, S2, (hE.mono x1).mono x2, s2, ?_⟩
    refine wpR_mono (wpR_bind h2) (fun z S3 h3 u H3 α3 x3 s3 r3 f3 => ?_) fun _ _ z => z.mono (x1.trans x2)
    cases z with
    | l n => exact h3.elim
    | n ob => exact h3.elim
    | v d =>
      cases hg : getDo S3 x y with
      | none => rw [hg] at h3; exact h3.elim
      | some o =>
        rw [hg] at h3
        obtain ⟨b, ov, eb, gd, rv⟩ := getDo_rep hg s3 ((r1.mono x2).mono x3) (r2.mono x3)
        cases eb
        refine ⟨ov, gd, h3 _ H3 α3 ((x1.trans x2).trans x3) s3 ?_ trivial⟩
        show Rep (rc X) H3 (o.getD d) (ov.getD u)
        exact rv.getD r3
  · rw [if_neg hd] at h1
    exact h1.elim
end
section
variable {ρ : MEnv} {S : Sto} {f g h : VM}
@[simp] theorem mNewK_ap : mNewK ρ S = .ok (.n (.dk [] [])) S := rfl
@[simp] theorem mNewT_ap : mNewT ρ S = .ok (.n (.dt [] [])) S := rfl
@[simp] theorem mGet1_ap : mGet1 f g ρ S = (f ρ S).bind fun x S1 => if onDk S1 x = true then (g ρ S1).bind fun y S2 => (match getDo S2 x y with
    | some o => .ok (.v (o.getD .non)) S2
    | none => .bad) else .bad := rfl
@[simp] theorem mGet2_ap : mGet2 f g h ρ S = (f ρ S).bind fun x S1 => if onDk S1 x = true then (g ρ S1).bind fun y S2 => (h ρ S2).bind fun z S3 => (match z, getDo S3 x y with
    | .v d, some o => .ok (.v (o.getD d)) S3
    | _, _ => .bad) else .bad := rfl
@[simp] theorem sAugT_ap {fo fi fe : VM} {o : D → D → Option Val} : sAugT fo fi o fe ρ S = ofR (fo ρ S) ρ fun x S1 => ofR (fi ρ S1) ρ fun y S2 => ofR (ap2 gIxM S2 x y) ρ fun z S3 => ofR (fe ρ S3) ρ fun e S4 => ofR (ap2 o S4 z e) ρ fun r S5 => match x, y, r with
  | .l n, .v _, .v d => (match S5[n]? with
    | some (some o) => (match setO o y d with
      | some o' => .nx ρ (S5.set n (some o'))
      | none => .bad)
    | _ => .bad)
  | _, _, _ => .bad := rfl
end
end M

namespace M
open PySem PySem.Spec PyProof.Rows L2

/-! ### walks over dicts: the dict is frozen from then on -/
section
variable {X : Cx} {W : WX} {e tg : Expr}
def mFzD (f : VM) : VM := fun ρ S => (f ρ S).bind fun x S => match x with
  | .n o => .ok (.v o.D) S
  | .v d => .ok (.v d) S
  | .l n => (match S[n]? with
    | some (some (.dk ks vs)) => .ok (.v (.fdk ks vs)) (S.set n (some (.fz (.fdk ks vs))))
    | some (some (.dt ks vs)) => .ok (.v (.fdt ks vs)) (S.set n (some (.fz (.fdt ks vs))))
    | some (some (.fz d)) => .ok (.v d) S
    | _ => .ok (.l n) S)
theorem set_fz {S : Sto} {n : Nat} {o : Ob} (hn : S[n]? = some (some o)) : S.set n (some o) = S := by
  apply List.ext_getElem?
  intro i
  by_cases hi : n = i
  · subst hi
    rw [List.getElem?_set_self (List.getElem?_eq_some_iff.mp hn).1, hn]
  · rw [List.getElem?_set_ne hi]
theorem sv_fzD {f : VM} (h : SV X W e f) : SV X W e (mFzD f) := by
  refine PE.freeze (sv_fz h) fun σ H Q ⟨α, ρ, S, hE, hS, q⟩ => ⟨α, ρ, S, hE, hS, ?_⟩
  have q1 := wpR_bind q
  unfold mFz
  cases hf : f ρ S with
  | bad => rw [hf] at q1; exact q1
  | er e S1 => rw [hf] at q1; exact q1
  | ok x S1 =>
    rw [hf] at q1
    cases x with
    | v d => exact fun v H1 α1 x1 s1 r1 f1 => .inl (q1 v H1 α1 x1 s1 r1 trivial)
    | n ds => exact fun v H1 α1 x1 s1 r1 f1 => .inl (q1 v H1 α1 x1 s1 r1 trivial)
    | l n =>
      intro v H1 α1 x1 s1 r1 f1
      obtain ⟨a, e1, rfl⟩ := r1
      have q2 : wpR (match S1[n]? with
        | some (some (.dk ks vs)) => R.ok (Val.v (.fdk ks vs)) (S1.set n (some (.fz (.fdk ks vs))))
        | some (some (.dt ks vs)) => .ok (.v (.fdt ks vs)) (S1.set n (some (.fz (.fdt ks vs))))
        | some (some (.fz d)) => .ok (.v d) S1
        | _ => .ok (.l n) S1) (okV (rc X) Q α H) (okE (rc X) W σ α H) := q1
      cases hn : S1[n]? with
      | none =>
        rw [hn] at q2
        exact .inl (q2 _ H1 α1 x1 s1 ⟨a, e1, rfl⟩ trivial)
      | some od =>
        rw [hn] at q2
        cases od with
        | none => exact .inl (q2 _ H1 α1 x1 s1 ⟨a, e1, rfl⟩ trivial)
        | some ob =>
          obtain ⟨b, e2, ro⟩ := s1.at_ n ob hn
          rw [e1] at e2
          cases e2
          cases ob with
          | li ds => exact .inl (q2 _ H1 α1 x1 s1 ⟨a, e1, rfl⟩ trivial)
          | fz d => exact .inl (q2 _ H1 α1 x1 s1 ro.1 trivial)
          | dk ks vs =>
            rcases RepO.hot (o := .dk ks vs) ro with ⟨u, ea, fu, r⟩ | ⟨d, e, _⟩
            · exact .inr ⟨a, u, ea, fu, fun o => q2 _ _ α1 (x1.fix fu e1 ea) (s1.fix fu e1 ea (r _ _ (LeH.frz fu ea) upd_same)) (r _ _ (LeH.frz fu ea) upd_same) trivial⟩
            · cases e
          | dt ks vs =>
            rcases RepO.hot (o := .dt ks vs) ro with ⟨u, ea, fu, r⟩ | ⟨d, e, _⟩
            · exact .inr ⟨a, u, ea, fu, fun o => q2 _ _ α1 (x1.fix fu e1 ea) (s1.fix fu e1 ea (r _ _ (LeH.frz fu ea) upd_same)) (r _ _ (LeH.frz fu ea) upd_same) trivial⟩
            · cases e
theorem zip_get {κ : Type} : ∀ {ks : List κ} {xs : List V} {i : Nat}, ks.length = xs.length → (ks.zip xs)[i]? = (match ks[i]?, xs[i]? with
    | some k, some x => some (k, x)
    | _, _ => none)
  | [], [], i, _ => by simp
  | k :: ks, x :: xs, 0, _ => by simp
  | k :: ks, x :: xs, i + 1, h => by
    simp only [List.length_cons, Nat.add_right_cancel_iff] at h
    simp only [List.zip_cons_cons, List.getElem?_cons_succ]
    exact zip_get h
  | [], x :: xs, _, h => by simp at h
  | k :: ks, [], _, h => by simp at h
theorem zip_len {κ : Type} {ks : List κ} {xs : List V} (h : ks.length = xs.length) : (ks.zip xs).length = ks.length := by rw [List.length_zip, ← h, Nat.min_self]
theorem unKey_rep {c : RC} {H : Hp} {k : DKey} : Rep c H (unKey k) (kV k) := by
  cases k <;> simp only [unKey, Rep] <;> rfl
theorem unKeys_rep {c : RC} {H : Hp} : ∀ {k : List DKey}, Reps c H (k.map unKey) (k.map kV)
  | [] => .nil
  | k :: ks => .cons unKey_rep unKeys_rep
theorem ItOk.keys {c : RC} {α : List Addr} {H : Hp} {d : Addr} {o : Obj} {ks : List DKey} {xs : List V} (h : H d = some (.frz o (.dK (ks.zip xs)))) (hl : ks.length = xs.length) : ItOk c α (Itk d o (ks.zip xs)) H (.fix (ks.map unKey)) := by
  intro H1 l i
  have h1 := (l d).2 _ _ h
  refine ⟨fun y hy => ?_, fun hn => ⟨h1, ?_⟩⟩
  · rw [List.getElem?_map] at hy
    obtain ⟨k, hk, rfl⟩ := Option.map_eq_some_iff.mp hy
    have hi := (List.getElem?_eq_some_iff.mp hk).1
    refine ⟨⟨h1, by rw [zip_len hl]; exact hi⟩, ?_⟩
    rintro x H2 ⟨rfl, k', v, e, rfl⟩
    rw [zip_get hl, hk] at e
    cases hx : xs[i]? with
    | none => rw [hx] at e; cases e
    | some x =>
      rw [hx] at e
      cases e
      exact ⟨Same.refl _, unKey_rep⟩
  · rw [zip_len hl]
    have := List.getElem?_eq_none_iff.mp hn
    rw [List.length_map] at this
    exact this
theorem ItOk.keysT {c : RC} {α : List Addr} {H : Hp} {d : Addr} {o : Obj} {ks : List (List DKey)} {xs : List V} (h : H d = some (.frz o (.dT (ks.zip xs)))) (hl : ks.length = xs.length) : ItOk c α (Itkt d o (ks.zip xs)) H (.fix (ks.map fun k => .tup (k.map unKey))) := by
  intro H1 l i
  have h1 := (l d).2 _ _ h
  refine ⟨fun y hy => ?_, fun hn => ⟨h1, ?_⟩⟩
  · rw [List.getElem?_map] at hy
    obtain ⟨k, hk, rfl⟩ := Option.map_eq_some_iff.mp hy
    have hi := (List.getElem?_eq_some_iff.mp hk).1
    refine ⟨⟨h1, by rw [zip_len hl]; exact hi⟩, ?_⟩
    rintro x H2 ⟨rfl, k', v, q, e, rfl, hq⟩
    rw [zip_get hl, hk] at e
    cases hx : xs[i]? with
    | none => rw [hx] at e; cases e
    | some x =>
      rw [hx] at e
      cases e
      refine ⟨Same.refl _, ?_⟩
      simp only [Rep]
      exact ⟨q, _, rfl, hq, unKeys_rep⟩
  · rw [zip_len hl]
    have := List.getElem?_eq_none_iff.mp hn
    rw [List.length_map] at this
    exact this
/-- a list, a tuple, a text, a dict by its keys -/
def mItA (f : VM) : IM := fun ρ S => match mFzD f ρ S with
  | .ok (.v (.fdk ks _)) S1 => .ok (.fix (ks.map unKey)) S1
  | .ok (.v (.fdt ks _)) S1 => .ok (.fix (ks.map fun k => .tup (k.map unKey))) S1
  | _ => mIt (mFzD f) ρ S
theorem si_anyA {f : VM} (h : SV X W e f) : SI X W tg e (mItA f) := by
  refine ⟨fun pins s σ H Rw I ⟨α, ρ, S, hE, hS, q⟩ => ?_⟩
  unfold mItA at q
  split at q
  · rename_i ks vs S1 hf
    refine (pi_keys (sv_fzD h)).run pins s σ H Rw I ⟨α, ρ, S, hE, hS, ?_⟩
    rw [hf]
    intro v H1 α1 x1 s1 r1 f1
    have r1' : Rep (rc X) H1 (.fdk ks vs) v := r1
    simp only [Rep] at r1'
    obtain ⟨a, xs, rfl, ⟨o, hd⟩, hl, r⟩ := r1'
    exact ⟨a, o, rfl, .inl ⟨_, hd, q _ H1 α1 x1 s1 (.keys hd hl)⟩⟩
  · rename_i ks vs S1 hf
    refine (pi_keys (sv_fzD h)).run pins s σ H Rw I ⟨α, ρ, S, hE, hS, ?_⟩
    rw [hf]
    intro v H1 α1 x1 s1 r1 f1
    have r1' : Rep (rc X) H1 (.fdt ks vs) v := r1
    simp only [Rep] at r1'
    obtain ⟨a, xs, rfl, ⟨o, hd⟩, hl, r⟩ := r1'
    exact ⟨a, o, rfl, .inr ⟨_, hd, q _ H1 α1 x1 s1 (.keysT hd hl)⟩⟩
  · exact (si_any (sv_fzD h)).run pins s σ H Rw I ⟨α, ρ, S, hE, hS, q⟩
end
end M

namespace M
open PySem PySem.Spec PyProof.Rows L2

/-! ### d.items(), d.values() -/
section
variable {X : Cx} {W : WX} {e tg : Expr}
def itemsD (ks : List DKey) (vs : List D) : List D := ks.zipWith (fun k v => .tup [unKey k, v]) vs
theorem zipWith_at {κ β : Type} {f : κ → D → β} : ∀ {ks : List κ} {vs : List D} {i : Nat} {y : β}, (ks.zipWith f vs)[i]? = some y → ∃ k v, ks[i]? = some k ∧ vs[i]? = some v ∧ y = f k v := by
  intro ks vs i y h
  rw [List.getElem?_zipWith] at h
  cases hk : ks[i]? with
  | none => rw [hk] at h; cases h
  | some k =>
    cases hv : vs[i]? with
    | none => rw [hk, hv] at h; cases h
    | some v =>
      rw [hk, hv] at h
      cases h
      exact ⟨k, v, rfl, rfl, rfl⟩
theorem ItOk.items {c : RC} {α : List Addr} {H : Hp} {d : Addr} {o : Obj} {ks : List DKey} {vs : List D} {xs : List V} (h : H d = some (.frz o (.dK (ks.zip xs)))) (hl : ks.length = xs.length) (r : Reps c H vs xs) : ItOk c α (Iti d o (ks.zip xs)) H (.fix (itemsD ks vs)) := by
  intro H1 l i
  have h1 := (l d).2 _ _ h
  have r1 := r.mono l
  refine ⟨fun y hy => ?_, fun hn => ⟨h1, ?_⟩⟩
  · obtain ⟨k, v, hk, hv, rfl⟩ := zipWith_at hy
    have hi := (List.getElem?_eq_some_iff.mp hk).1
    obtain ⟨x, hx, rx⟩ := r1.get hv
    refine ⟨⟨h1, by rw [zip_len hl]; exact hi⟩, ?_⟩
    rintro y' H2 ⟨T, k', x', e, rfl, hT, rfl⟩
    rw [zip_get hl, hk, hx] at e
    cases e
    exact tup2 hT unKey_rep rx
  · rw [zip_len hl]
    have := List.getElem?_eq_none_iff.mp hn
    unfold itemsD at this
    rw [List.length_zipWith] at this
    have := r.length
    omega
theorem ItOk.vals {c : RC} {α : List Addr} {H : Hp} {d : Addr} {o : Obj} {ks : List DKey} {vs : List D} {xs : List V} (h : H d = some (.frz o (.dK (ks.zip xs)))) (hl : ks.length = xs.length) (r : Reps c H vs xs) : ItOk c α (Itd d o (ks.zip xs)) H (.fix vs) := by
  intro H1 l i
  have h1 := (l d).2 _ _ h
  have r1 := r.mono l
  have hlen := r.length
  refine ⟨fun y hy => ?_, fun hn => ⟨h1, ?_⟩⟩
  · have hi := (List.getElem?_eq_some_iff.mp hy).1
    obtain ⟨x, hx, rx⟩ := r1.get hy
    refine ⟨⟨h1, by rw [zip_len hl]; omega⟩, ?_⟩
    rintro y' H2 ⟨rfl, k', e⟩
    rw [zip_get hl, hx] at e
    cases hk : ks[i]? with
    | none => rw [hk] at e; cases e
    | some k =>
      rw [hk] at e
      cases e
      exact ⟨Same.refl _, rx⟩
  · rw [zip_len hl]
    have := List.getElem?_eq_none_iff.mp hn
    omega
def mItems (f : VM) : IM := fun ρ S => (mFzD f ρ S).bind fun x S1 => match x with
  | .v (.fdk ks vs) => .ok (.fix (itemsD ks vs)) S1
  | _ => .bad
def mVals (f : VM) : IM := fun ρ S => (mFzD f ρ S).bind fun x S1 => match x with
  | .v (.fdk _ vs) => .ok (.fix vs) S1
  | _ => .bad
theorem si_items {elts : List Expr} {kk : Nat} {tpos apos cpos : Pos} {f : VM} (h : SV X W e f) (hbase : attributeBase e "items" X.env (eval e X.env) = eval e X.env := by rfl) (hline : (apos.endLine == cpos.line) = true := by rfl) :
    SI X W (.Tuple elts kk tpos) (.Call (.Attribute e "items" apos) [] [] cpos) (mItems f) := by
  refine PI.imp (pi_items (sv_fzD h) hbase hline) fun σ H Rw ⟨α, ρ, S, hE, hS, q⟩ => ⟨α, ρ, S, hE, hS, ?_⟩
  refine wpR_mono (wpR_bind q) (fun x S1 h1 v H1 α1 x1 s1 r1 f1 => ?_) fun _ _ z => z
  split at h1
  · rename_i ks vs
    have r1' : Rep (rc X) H1 (.fdk ks vs) v := r1
    simp only [Rep] at r1'
    obtain ⟨a, xs, rfl, ⟨o, hd⟩, hl, r⟩ := r1'
    exact ⟨a, o, _, rfl, hd, h1 _ H1 α1 x1 s1 (.items hd hl r)⟩
  · exact h1.elim
theorem si_vals {apos cpos : Pos} {f : VM} (h : SV X W e f) (hbase : attributeBase e "values" X.env (eval e X.env) = eval e X.env := by rfl) (hline : (apos.endLine == cpos.line) = true := by rfl) :
    SI X W tg (.Call (.Attribute e "values" apos) [] [] cpos) (mVals f) := by
  refine PI.imp (pi_values (sv_fzD h) hbase hline) fun σ H Rw ⟨α, ρ, S, hE, hS, q⟩ => ⟨α, ρ, S, hE, hS, ?_⟩
  refine wpR_mono (wpR_bind q) (fun x S1 h1 v H1 α1 x1 s1 r1 f1 => ?_) fun _ _ z => z
  split at h1
  · rename_i ks vs
    have r1' : Rep (rc X) H1 (.fdk ks vs) v := r1
    simp only [Rep] at r1'
    obtain ⟨a, xs, rfl, ⟨o, hd⟩, hl, r⟩ := r1'
    exact ⟨a, o, _, rfl, hd, h1 _ H1 α1 x1 s1 (.vals hd hl r)⟩
  · exact h1.elim
end
end M

namespace M
open PySem PySem.Spec PyProof.Rows L2

/-! ### [e for x in a for y in b(x)] -/
theorem RepA.gro {c : RC} {α α' : List Addr} {H H' : Hp} (p : ∃ β, α' = α ++ β) (l : LeH H H') {y : Val} {v : V} (h : RepA c α H y v) : RepA c α' H' y v := by
  cases y with
  | v d => exact Rep.mono l h
  | l n =>
    obtain ⟨a, e, q⟩ := h
    exact ⟨a, pre_get p e, q⟩
  | n ds => exact h.elim
theorem RelE.gro {c : RC} {α α' : List Addr} {H H' : Hp} (p : ∃ β, α' = α ++ β) (l : LeH H H') {ρ : MEnv} {σ : L2.St} (h : RelE c α H ρ σ) : RelE c α' H' ρ σ := ⟨h.le, fun i y e => by
  obtain ⟨v, e1, r⟩ := h.at_ i y e
  exact ⟨v, e1, r.gro p l⟩⟩
theorem pre_trans {α α1 α2 : List Addr} (a : ∃ β, α1 = α ++ β) (b : ∃ β, α2 = α1 ++ β) : ∃ β, α2 = α ++ β := by
  obtain ⟨β, rfl⟩ := a
  obtain ⟨γ, rfl⟩ := b
  exact ⟨β ++ γ, by simp⟩
section
variable {X : Cx} {W : WX}
/-- one clause's loop, with what is found -/
def lcLA (ρ : MEnv) (g : GP) (tt : TM) (te : VM) : List D → List D → Sto → R (List D)
  | [], acc, S => .ok acc S
  | d :: ds, acc, S => lcTurn ρ g tt te d acc S (lcLA ρ g tt te ds)
def lcNA (ρ : MEnv) (g : GP) (tt : TM) (te : VM) (n : Nat) : Nat → Nat → List D → Sto → R (List D)
  | k, i, acc, S => match liAt S n with
    | some ds => (match ds[i]? with
      | none => .ok acc S
      | some d => (match k with
        | 0 => .bad
        | k + 1 => lcTurn ρ g tt te d acc S (lcNA ρ g tt te n k (i + 1))))
    | _ => .bad
def lcIA (ρ : MEnv) (g : GP) (tt : TM) (te : VM) (t : Items) (acc : List D) (S : Sto) : R (List D) := match t with
  | .fix ds => lcLA ρ g tt te ds acc S
  | .at_ n => lcNA ρ g tt te n (lenAt S n) 0 acc S
theorem lcI_ok {c : RC} {J : It} {t : Items} {α0 α : List Addr} {H0 H : Hp} {Dd : Addr} {ρ : MEnv} {g : GP} {tt : TM} {te : VM} {acc : List D} {xs : List V} {S : Sto} {σ : L2.St} {vs : List Nat} {er : Exc → Sto → Prop} {Nx : Hp → Prop}
    (hD : H0 Dd = none) (x0 : Ext α0 α H0 H) (nD : Dd ∉ α) (eD : H Dd = some (.lst xs)) (hE : RelE c α H ρ σ) (s : RelS c α H S) (ra : Reps c H acc xs) (ok : ItOk c α J H t)
    (h : wpR (lcIA (wipeM ρ vs) g tt te t acc S) (fun acc' S' => ∀ xs' H' α', Ext α0 α' H0 H' → Dd ∉ α' → H' Dd = some (.lst xs') → RelS c α' H' S' → Reps c H' acc' xs' → (∃ β, α' = α ++ β) → LeH H H' → Nx H') er) :
    ∃ W1 : Nat → Nat → Hp → Prop, (∃ m, W1 0 m H) ∧ ∀ j k H1, W1 j k H1 → (J.stop j H1 ∧ Nx H1) ∨ (J.go j H1 ∧ ∃ Nx1 : Hp → Prop, (∀ H', Nx1 H' → ∃ k', k' < k ∧ W1 (j + 1) k' H') ∧
      ∀ x H', J.yld j H1 x H' → tGw c vs g x (L2.wipe σ vs) H' fun σ3 H5 => L2.wipe σ3 vs = L2.wipe σ vs ∧ tT c W0 tt σ3 H5 fun b H6 =>
        if b = true then tV c W0 te σ3 H6 fun y H7 => ∃ acc, H7 Dd = some (.lst acc) ∧ acc.length < sizeLine ∧ Nx1 (upd H7 Dd (.lst (acc ++ [y]))) else Nx1 H6) := by
  cases t with
  | fix ds =>
    refine ⟨fun i m H1 => m = ds.length - i ∧ i ≤ ds.length ∧ ∃ α1 S1 acc xs, Ext α0 α1 H0 H1 ∧ Dd ∉ α1 ∧ H1 Dd = some (.lst xs) ∧ RelS c α1 H1 S1 ∧ Reps c H1 acc xs ∧ (∃ β, α1 = α ++ β) ∧ LeH H H1 ∧
        wpR (lcLA (wipeM ρ vs) g tt te (ds.drop i) acc S1) (fun acc' S' => ∀ xs' H' α', Ext α0 α' H0 H' → Dd ∉ α' → H' Dd = some (.lst xs') → RelS c α' H' S' → Reps c H' acc' xs' → (∃ β, α' = α ++ β) → LeH H H' → Nx H') er,
      ⟨ds.length, by simp, Nat.zero_le _, α, S, acc, xs, x0, nD, eD, s, ra, ⟨[], by simp⟩, .refl _, by rw [List.drop_zero]; exact h⟩, ?_⟩
    rintro i m H1 ⟨rfl, hi, α1, S1, acc, xs, x1, nd, ed, s1, ra, p1, l1, h1⟩
    obtain ⟨ok1, ok2⟩ := ok H1 l1 i
    by_cases hlt : i < ds.length
    · have hd : ds[i]? = some ds[i] := by simp [hlt]
      obtain ⟨go, yl⟩ := ok1 _ hd
      have hdrop : ds.drop i = ds[i] :: ds.drop (i + 1) := List.drop_eq_getElem_cons hlt
      rw [hdrop] at h1
      refine .inr ⟨go, fun H2 => ∃ α2 S2 acc2 xs2, Ext α0 α2 H0 H2 ∧ Dd ∉ α2 ∧ H2 Dd = some (.lst xs2) ∧ RelS c α2 H2 S2 ∧ Reps c H2 acc2 xs2 ∧ (∃ β, α2 = α ++ β) ∧ LeH H H2 ∧
        wpR (lcLA (wipeM ρ vs) g tt te (ds.drop (i + 1)) acc2 S2) (fun acc' S' => ∀ xs' H' α', Ext α0 α' H0 H' → Dd ∉ α' → H' Dd = some (.lst xs') → RelS c α' H' S' → Reps c H' acc' xs' → (∃ β, α' = α ++ β) → LeH H H' → Nx H') er, ?_, fun x H2 y => ?_⟩
      · rintro H2 ⟨α2, S2, acc2, xs2, z⟩
        exact ⟨ds.length - (i + 1), by omega, rfl, hlt, α2, S2, acc2, xs2, z⟩
      · obtain ⟨sm, rd⟩ := yl x H2 y
        have x12 : Ext α1 α1 H1 H2 := .of_same sm
        have hw : RelE c α1 H2 (wipeM ρ vs) (L2.wipe σ vs) := (hE.gro p1 (l1.trans x12.le)).wipe vs
        exact lcTurn_ok (σ := σ) hD (x1.trans x12) nd (sm _ _ ed) hw (s1.same sm) (ra.mono x12.le) rd h1 fun acc' S' xs' H' α' z1 z2 z3 z4 z5 z6 z7 z8 => ⟨α', S', acc', xs', z2, z3, z4, z5, z6, pre_trans p1 z7, (l1.trans x12.le).trans z8, z1⟩
    · have hi2 : i = ds.length := by omega
      subst hi2
      rw [List.drop_length] at h1
      exact .inl ⟨ok2 (by simp), h1 _ _ _ x1 nd ed s1 ra p1 l1⟩
  | at_ n =>
    obtain ⟨a, ea, rfl⟩ := ok
    refine ⟨fun i m H1 => ∃ α1 S1 acc xs, Ext α0 α1 H0 H1 ∧ Dd ∉ α1 ∧ H1 Dd = some (.lst xs) ∧ RelS c α1 H1 S1 ∧ Reps c H1 acc xs ∧ (∃ β, α1 = α ++ β) ∧ LeH H H1 ∧
        wpR (lcNA (wipeM ρ vs) g tt te n m i acc S1) (fun acc' S' => ∀ xs' H' α', Ext α0 α' H0 H' → Dd ∉ α' → H' Dd = some (.lst xs') → RelS c α' H' S' → Reps c H' acc' xs' → (∃ β, α' = α ++ β) → LeH H H' → Nx H') er,
      ⟨lenAt S n, α, S, acc, xs, x0, nD, eD, s, ra, ⟨[], by simp⟩, .refl _, h⟩, ?_⟩
    rintro i m H1 ⟨α1, S1, acc, xs, x1, nd, ed, s1, ra, p1, l1, h1⟩
    have h2 := h1
    rw [lcNA.eq_def] at h2
    dsimp only at h2
    cases hn : liAt S1 n with
    | none => rw [hn] at h2; exact h2.elim
    | some ds =>
      match () with
      | () =>
        rw [hn] at h2
        dsimp only at h2
        obtain ⟨b, ys, eb, hb, r⟩ := s1.li n ds hn
        have eb' := pre_get p1 ea
        rw [eb'] at eb
        cases eb
        have sq : SqL c.K H1 a ys := .inl (.inl hb)
        cases hd : ds[i]? with
        | none =>
          rw [hd] at h2
          refine .inl ⟨⟨ys, sq, ?_⟩, h2 _ _ _ x1 nd ed s1 ra p1 l1⟩
          rw [← r.length]
          exact List.getElem?_eq_none_iff.mp hd
        | some d =>
          rw [hd] at h2
          cases m with
          | zero => exact h2.elim
          | succ k =>
            obtain ⟨x, ex, rx⟩ := r.get hd
            refine .inr ⟨⟨ys, x, sq, ex⟩, fun H2 => ∃ α2 S2 acc2 xs2, Ext α0 α2 H0 H2 ∧ Dd ∉ α2 ∧ H2 Dd = some (.lst xs2) ∧ RelS c α2 H2 S2 ∧ Reps c H2 acc2 xs2 ∧ (∃ β, α2 = α ++ β) ∧ LeH H H2 ∧
              wpR (lcNA (wipeM ρ vs) g tt te n k (i + 1) acc2 S2) (fun acc' S' => ∀ xs' H' α', Ext α0 α' H0 H' → Dd ∉ α' → H' Dd = some (.lst xs') → RelS c α' H' S' → Reps c H' acc' xs' → (∃ β, α' = α ++ β) → LeH H H' → Nx H') er, ?_, fun y H2 yy => ?_⟩
            · rintro H2 ⟨α2, S2, acc2, xs2, z⟩
              exact ⟨k, by omega, α2, S2, acc2, xs2, z⟩
            · obtain ⟨rfl, fy⟩ := yy
              have ey := fy ys sq
              rw [ex] at ey
              cases ey
              have hw : RelE c α1 H2 (wipeM ρ vs) (L2.wipe σ vs) := (hE.gro p1 l1).wipe vs
              exact lcTurn_ok (σ := σ) hD x1 nd ed hw s1 ra rx h2 fun acc' S' xs' H' α' z1 z2 z3 z4 z5 z6 z7 z8 => ⟨α', S', acc', xs', z2, z3, z4, z5, z6, pre_trans p1 z7, l1.trans z8, z1⟩
/-- a turn of the first clause -/
def lc2Turn (ρ : MEnv) (g : GP) (tt : TM) (it1 : IM) (vs1 : List Nat) (g1 : GP) (tt1 : TM) (te : VM) (d : D) (acc : List D) (S : Sto) (k : List D → Sto → R Val) : R Val := match g d ρ with
  | none => .bad
  | some ρ1 => (match tt ρ1 S with
    | .ok b S2 => if b = true then (match it1 ρ1 S2 with
      | .ok t S3 => (match lcIA (wipeM ρ1 vs1) g1 tt1 te t acc S3 with
        | .ok acc' S4 => k acc' S4
        | _ => .bad)
      | _ => .bad) else k acc S2
    | _ => .bad)
def lc2L (ρ : MEnv) (g : GP) (tt : TM) (it1 : IM) (vs1 : List Nat) (g1 : GP) (tt1 : TM) (te : VM) : List D → List D → Sto → R Val
  | [], acc, S => .ok (.n (.li acc)) S
  | d :: ds, acc, S => lc2Turn ρ g tt it1 vs1 g1 tt1 te d acc S (lc2L ρ g tt it1 vs1 g1 tt1 te ds)
def lc2N (ρ : MEnv) (g : GP) (tt : TM) (it1 : IM) (vs1 : List Nat) (g1 : GP) (tt1 : TM) (te : VM) (n : Nat) : Nat → Nat → List D → Sto → R Val
  | k, i, acc, S => match liAt S n with
    | some ds => (match ds[i]? with
      | none => .ok (.n (.li acc)) S
      | some d => (match k with
        | 0 => .bad
        | k + 1 => lc2Turn ρ g tt it1 vs1 g1 tt1 te d acc S (lc2N ρ g tt it1 vs1 g1 tt1 te n k (i + 1))))
    | _ => .bad
def mLC2 (it : IM) (g : GP) (tt : TM) (it1 : IM) (g1 : GP) (tt1 : TM) (te : VM) (vs vs1 : List Nat) : VM := fun ρ S => (it ρ S).bind fun t S1 => match t with
  | .fix ds => lc2L (wipeM ρ vs) g tt it1 vs1 g1 tt1 te ds [] S1
  | .at_ n => lc2N (wipeM ρ vs) g tt it1 vs1 g1 tt1 te n (lenAt S1 n) 0 [] S1
theorem lc2Turn_ok {c : RC} {d : D} {vs vs1 : List Nat} {α0 α1 : List Addr} {H0 H1 : Hp} {D' : Addr} {ρ : MEnv} {g g1 : GP} {tt tt1 : TM} {it1 : IM} {te : VM} {acc : List D} {xs : List V} {S : Sto} {σ : L2.St} {x : V} {k : List D → Sto → R Val} {er : Exc → Sto → Prop} {fin : Val → Sto → Prop} {Nx : Hp → Prop}
    (hD : H0 D' = none) (x1 : Ext α0 α1 H0 H1) (nD : D' ∉ α1) (eD : H1 D' = some (.lst xs)) (e1 : RelE c α1 H1 ρ (L2.wipe σ vs)) (s1 : RelS c α1 H1 S) (ra : Reps c H1 acc xs) (rd : Rep c H1 d x)
    (h : wpR (lc2Turn ρ g tt it1 vs1 g1 tt1 te d acc S k) fin er)
    (hN : ∀ acc' S' xs' H' α', wpR (k acc' S') fin er → Ext α0 α' H0 H' → D' ∉ α' → H' D' = some (.lst xs') → RelS c α' H' S' → Reps c H' acc' xs' → Nx H') :
    tGw c vs g x (L2.wipe σ vs) H1 fun σ2 H2 => L2.wipe σ2 vs = L2.wipe σ vs ∧ tT c W0 tt σ2 H2 fun b H3 =>
      if b = true then tI c W0 it1 σ2 H3 fun J1 H4 => ∃ W1 : Nat → Nat → Hp → Prop, (∃ m, W1 0 m H4) ∧ ∀ j k H, W1 j k H →
      (J1.stop j H ∧ Nx H) ∨ (J1.go j H ∧ ∃ Nx1 : Hp → Prop, (∀ H', Nx1 H' → ∃ k', k' < k ∧ W1 (j + 1) k' H') ∧ ∀ x H', J1.yld j H x H' → tGw c vs1 g1 x (L2.wipe σ2 vs1) H' fun σ3 H5 => L2.wipe σ3 vs1 = L2.wipe σ2 vs1 ∧ tT c W0 tt1 σ3 H5 fun b H6 =>
        if b = true then tV c W0 te σ3 H6 fun y H7 => ∃ acc, H7 D' = some (.lst acc) ∧ acc.length < sizeLine ∧ Nx1 (upd H7 D' (.lst (acc ++ [y]))) else Nx1 H6)
      else Nx H3 := by
  unfold lc2Turn at h
  refine ⟨α1, ρ, d, e1, rd, ?_⟩
  cases hg : g d ρ with
  | none => rw [hg] at h; exact h.elim
  | some ρ1 =>
    rw [hg] at h
    dsimp only at h
    intro σ2 w2 e2
    refine ⟨w2.trans wipe_wipe, α1, ρ1, S, e2, s1, ?_⟩
    cases ht : tt ρ1 S with
    | bad => rw [ht] at h; exact h.elim
    | er e S2 => rw [ht] at h; exact h.elim
    | ok b S2 =>
      rw [ht] at h
      dsimp only at h
      intro H3 α3 x3 s3
      have eD3 : H3 D' = some (.lst xs) := x3.fr _ _ eD nD
      have nD3 : D' ∉ α3 := fun hm => by
        have := x3.nw _ hm nD
        rw [eD] at this
        cases this
      cases b with
      | false =>
        rw [if_neg Bool.false_ne_true] at h
        exact iteF (hN acc S2 xs H3 α3 h (x1.trans x3) nD3 eD3 s3 (ra.mono x3.le))
      | true =>
        rw [if_pos rfl] at h
        refine iteT ⟨α3, ρ1, S2, e2.mono x3, s3, ?_⟩
        cases hi : it1 ρ1 S2 with
        | bad => rw [hi] at h; exact h.elim
        | er e S4 => rw [hi] at h; exact h.elim
        | ok t S4 =>
          rw [hi] at h
          dsimp only at h
          intro J H4 α4 x4 s4 ok
          have eD4 : H4 D' = some (.lst xs) := x4.fr _ _ eD3 nD3
          have nD4 : D' ∉ α4 := fun hm => by
            have := x4.nw _ hm nD3
            rw [eD3] at this
            cases this
          refine lcI_ok (er := fun _ _ => False) (S := S4) hD ((x1.trans x3).trans x4) nD4 eD4 ((e2.mono x3).mono x4) s4 ((ra.mono x3.le).mono x4.le) ok ?_
          cases hl : lcIA (wipeM ρ1 vs1) g1 tt1 te t acc S4 with
          | bad => rw [hl] at h; exact h.elim
          | er e S5 => rw [hl] at h; exact h.elim
          | ok acc' S5 =>
            rw [hl] at h
            exact fun xs' H' α' z1 z2 z3 z4 z5 _ _ => hN acc' S5 xs' H' α' h z1 z2 z3 z4 z5
theorem lc2_of {it it1 : IM} {g g1 : GP} {tt tt1 : TM} {te : VM} {vs vs1 : List Nat} {σ : L2.St} {H : Hp} {Q : VK} (h : tV (rc X) W (mLC2 it g tt it1 g1 tt1 te vs vs1) σ H Q) :
    tLc2 (tI (rc X) W it) (tGw (rc X) vs g) (tT (rc X) W0 tt) (tI (rc X) W0 it1) (tGw (rc X) vs1 g1) (tT (rc X) W0 tt1) (tV (rc X) W0 te) vs vs1 σ H Q := by
  obtain ⟨α, ρ, S, hE, hS, q⟩ := h
  refine ⟨α, ρ, S, hE, hS, ?_⟩
  refine wpR_mono (wpR_bind q) (fun t S0 h0 J H0 α0 x0 s0 ok Dd hDd => ?_) fun _ _ z => z
  have hD : H0 Dd = none := hDd
  have nD : Dd ∉ α0 := s0.new hD
  have smD : Same H0 (upd H0 Dd (.lst [])) := same_upd hD
  have fD : H Dd = none := by
    cases q : H Dd with
    | none => rfl
    | some o =>
      by_cases hm : Dd ∈ α
      · obtain ⟨β, rfl⟩ := x0.pre
        exact absurd (List.mem_append_left _ hm) nD
      · have := x0.fr _ _ q hm
        rw [hD] at this
        cases this
  -- the end
  have fin : ∀ {acc : List D} {S1 : Sto} {xs : List V} {H1 : Hp} {α1 : List Addr}, okV (rc X) Q α H (.n (.li acc)) S1 → Ext α0 α1 H0 H1 → Dd ∉ α1 → H1 Dd = some (.lst xs) → RelS (rc X) α1 H1 S1 → Reps (rc X) H1 acc xs → Q (.ref Dd) H1 :=
    fun {acc S1 xs H1 α1} k x1 nd ed s1 r => k _ H1 α1 (x0.trans x1) s1 ⟨Dd, rfl, ⟨xs, ed, r⟩, nd⟩ fun a e => by
      cases e
      exact fD
  cases t with
  | fix ds =>
    dsimp only at h0
    refine ⟨fun i m H1 => m = ds.length - i ∧ i ≤ ds.length ∧ ∃ α1 S1 acc xs, Ext α0 α1 H0 H1 ∧ Dd ∉ α1 ∧ H1 Dd = some (.lst xs) ∧ RelS (rc X) α1 H1 S1 ∧ Reps (rc X) H1 acc xs ∧ wpR (lc2L (wipeM ρ vs) g tt it1 vs1 g1 tt1 te (ds.drop i) acc S1) (okV (rc X) Q α H) (okE (rc X) W σ α H),
      ⟨ds.length, by simp, Nat.zero_le _, α0, S0, [], [], .of_same smD, nD, upd_same, s0.same smD, .nil, by simpa using h0⟩, ?_⟩
    rintro i m H1 ⟨rfl, hi, α1, S1, acc, xs, x1, nd, ed, s1, ra, h1⟩
    obtain ⟨ok1, ok2⟩ := ok H1 x1.le i
    by_cases hlt : i < ds.length
    · have hd : ds[i]? = some ds[i] := by simp [hlt]
      obtain ⟨go, yl⟩ := ok1 _ hd
      have hdrop : ds.drop i = ds[i] :: ds.drop (i + 1) := List.drop_eq_getElem_cons hlt
      rw [hdrop] at h1
      refine .inr ⟨go, fun H2 => ∃ α2 S2 acc2 xs2, Ext α0 α2 H0 H2 ∧ Dd ∉ α2 ∧ H2 Dd = some (.lst xs2) ∧ RelS (rc X) α2 H2 S2 ∧ Reps (rc X) H2 acc2 xs2 ∧ wpR (lc2L (wipeM ρ vs) g tt it1 vs1 g1 tt1 te (ds.drop (i + 1)) acc2 S2) (okV (rc X) Q α H) (okE (rc X) W σ α H), ?_, fun x H2 y => ?_⟩
      · rintro H2 ⟨α2, S2, acc2, xs2, z⟩
        exact ⟨ds.length - (i + 1), by omega, rfl, hlt, α2, S2, acc2, xs2, z⟩
      · obtain ⟨sm, rd⟩ := yl x H2 y
        have x12 : Ext α1 α1 H1 H2 := .of_same sm
        have hw : RelE (rc X) α1 H2 (wipeM ρ vs) (L2.wipe σ vs) := ((hE.mono x0).mono (x1.trans x12)).wipe vs
        exact lc2Turn_ok (σ := σ) hD (x1.trans x12) nd (sm _ _ ed) hw (s1.same sm) (ra.mono x12.le) rd h1 fun acc' S' xs' H' α' z1 z2 z3 z4 z5 z6 => ⟨α', S', acc', xs', z2, z3, z4, z5, z6, z1⟩
    · have hi2 : i = ds.length := by omega
      subst hi2
      rw [List.drop_length] at h1
      exact .inl ⟨ok2 (by simp), fin h1 x1 nd ed s1 ra⟩
  | at_ n =>
    dsimp only at h0
    obtain ⟨a, ea, rfl⟩ := ok
    refine ⟨fun i m H1 => ∃ α1 S1 acc xs, Ext α0 α1 H0 H1 ∧ Dd ∉ α1 ∧ H1 Dd = some (.lst xs) ∧ RelS (rc X) α1 H1 S1 ∧ Reps (rc X) H1 acc xs ∧ wpR (lc2N (wipeM ρ vs) g tt it1 vs1 g1 tt1 te n m i acc S1) (okV (rc X) Q α H) (okE (rc X) W σ α H),
      ⟨lenAt S0 n, α0, S0, [], [], .of_same smD, nD, upd_same, s0.same smD, .nil, h0⟩, ?_⟩
    rintro i m H1 ⟨α1, S1, acc, xs, x1, nd, ed, s1, ra, h1⟩
    have h2 := h1
    rw [lc2N.eq_def] at h2
    dsimp only at h2
    cases hn : liAt S1 n with
    | none => rw [hn] at h2; exact h2.elim
    | some ds =>
      match () with
      | () =>
        rw [hn] at h2
        dsimp only at h2
        obtain ⟨b, ys, eb, hb, r⟩ := s1.li n ds hn
        have eb' := pre_get x1.pre ea
        rw [eb'] at eb
        cases eb
        have sq : SqL X.K H1 a ys := .inl (.inl hb)
        cases hd : ds[i]? with
        | none =>
          rw [hd] at h2
          refine .inl ⟨⟨ys, sq, ?_⟩, fin h2 x1 nd ed s1 ra⟩
          rw [← r.length]
          exact List.getElem?_eq_none_iff.mp hd
        | some d =>
          rw [hd] at h2
          cases m with
          | zero => exact h2.elim
          | succ k =>
            obtain ⟨x, ex, rx⟩ := r.get hd
            refine .inr ⟨⟨ys, x, sq, ex⟩, fun H2 => ∃ α2 S2 acc2 xs2, Ext α0 α2 H0 H2 ∧ Dd ∉ α2 ∧ H2 Dd = some (.lst xs2) ∧ RelS (rc X) α2 H2 S2 ∧ Reps (rc X) H2 acc2 xs2 ∧ wpR (lc2N (wipeM ρ vs) g tt it1 vs1 g1 tt1 te n k (i + 1) acc2 S2) (okV (rc X) Q α H) (okE (rc X) W σ α H), ?_, fun y H2 yy => ?_⟩
            · rintro H2 ⟨α2, S2, acc2, xs2, z⟩
              exact ⟨k, by omega, α2, S2, acc2, xs2, z⟩
            · obtain ⟨rfl, fy⟩ := yy
              have ey := fy ys sq
              rw [ex] at ey
              cases ey
              have hw : RelE (rc X) α1 H2 (wipeM ρ vs) (L2.wipe σ vs) := ((hE.mono x0).mono x1).wipe vs
              exact lc2Turn_ok (σ := σ) hD x1 nd ed hw s1 ra rx h2 fun acc' S' xs' H' α' z1 z2 z3 z4 z5 z6 => ⟨α', S', acc', xs', z2, z3, z4, z5, z6, z1⟩
end
section
variable {X : Cx} {W : WX}
theorem sv_lc2 {elt tg iter tg1 iter1 : Expr} {ifs ifs1 : List Expr} {scope : Scope} {own : List (PySem.Str × Nat)} {vs1 : List Nat} {pos : Pos} {it it1 : IM} {g g1 : GP} {tt tt1 : TM} {te : VM} (hc : X.calm = true) (hN : X.N.Nodup) (hi : SI X W tg iter it) (ok : BlkOk X.N X.env.scope scope own) (hv : ∀ i ∈ vs1, i ∈ own.map (·.2))
    (hg : ∀ (s : Shared) (H : Hp) (C : Addr) (cl : List (PySem.Str × Addr)) (fp : List Addr), SGw (X.blk s H scope (compEnvC scope cl C X.env) fp) (List.map (fun x : PySem.Str × Nat => x.2) own) tg g) (ht : ∀ (s : Shared) (H : Hp) (C : Addr) (cl : List (PySem.Str × Addr)) (fp : List Addr), STs (X.blk s H scope (compEnvC scope cl C X.env) fp) W0 ifs tt)
    (hi1 : ∀ (s : Shared) (H : Hp) (C : Addr) (cl : List (PySem.Str × Addr)) (fp : List Addr), SI (X.blk s H scope (compEnvC scope cl C X.env) fp) W0 tg1 iter1 it1)
    (hg1 : ∀ (s : Shared) (H : Hp) (C : Addr) (cl : List (PySem.Str × Addr)) (fp : List Addr), SGw (X.blk s H scope (compEnvC scope cl C X.env) fp) vs1 tg1 g1) (ht1 : ∀ (s : Shared) (H : Hp) (C : Addr) (cl : List (PySem.Str × Addr)) (fp : List Addr), STs (X.blk s H scope (compEnvC scope cl C X.env) fp) W0 ifs1 tt1)
    (he : ∀ (s : Shared) (H : Hp) (C : Addr) (cl : List (PySem.Str × Addr)) (fp : List Addr), SV (X.blk s H scope (compEnvC scope cl C X.env) fp) W0 elt te) (hs : ∀ x, foldedSetIterable iter X.env x = pure x := by intro _; rfl) (hs1 : ∀ env x, foldedSetIterable iter1 env x = pure x := by intro _ _; rfl) :
    SV X W (.ListComp elt [⟨tg, iter, ifs, 0⟩, ⟨tg1, iter1, ifs1, 0⟩] scope pos) (mLC2 it g tt it1 g1 tt1 te (List.map (fun x : PySem.Str × Nat => x.2) own) vs1) :=
  PE.imp (pe_lc2 (wi := tI (rc X) W it) (g := tGw (rc X) (List.map (fun x : PySem.Str × Nat => x.2) own) g) (tt := tT (rc X) W0 tt) (wi1 := tI (rc X) W0 it1) (g1 := tGw (rc X) vs1 g1) (tt1 := tT (rc X) W0 tt1) (te := tV (rc X) W0 te) hc hN hi ok hv hg ht hi1 hg1 ht1 he hs hs1) fun _ _ _ q => lc2_of q
theorem ps_lc2 {i : Nat} {y : PySem.Str} {py : Pos} {elt tg iter tg1 iter1 : Expr} {ifs ifs1 : List Expr} {scope : Scope} {own : List (PySem.Str × Nat)} {vs1 : List Nat} {pos spos : Pos} {it it1 : IM} {g g1 : GP} {tt tt1 : TM} {te : VM} (hc : X.calm = true) (hN : X.N.Nodup) (hy : X.N[i]? = some y) (hyl : X.env.scope.names.lookup y = some .local)
    (hsw : swapsWith (.ListComp elt [⟨tg, iter, ifs, 0⟩, ⟨tg1, iter1, ifs1, 0⟩] scope pos) (some (.Name y py)) spos.line X.env = pure true) (hi : SI X W tg iter it) (ok : BlkOk X.N X.env.scope scope own) (hv : ∀ i ∈ vs1, i ∈ own.map (·.2))
    (hg : ∀ (s : Shared) (H : Hp) (C : Addr) (cl : List (PySem.Str × Addr)) (fp : List Addr), SGw (X.blk s H scope (compEnvC scope cl C X.env) fp) (List.map (fun x : PySem.Str × Nat => x.2) own) tg g) (ht : ∀ (s : Shared) (H : Hp) (C : Addr) (cl : List (PySem.Str × Addr)) (fp : List Addr), STs (X.blk s H scope (compEnvC scope cl C X.env) fp) W0 ifs tt)
    (hi1 : ∀ (s : Shared) (H : Hp) (C : Addr) (cl : List (PySem.Str × Addr)) (fp : List Addr), SI (X.blk s H scope (compEnvC scope cl C X.env) fp) W0 tg1 iter1 it1)
    (hg1 : ∀ (s : Shared) (H : Hp) (C : Addr) (cl : List (PySem.Str × Addr)) (fp : List Addr), SGw (X.blk s H scope (compEnvC scope cl C X.env) fp) vs1 tg1 g1) (ht1 : ∀ (s : Shared) (H : Hp) (C : Addr) (cl : List (PySem.Str × Addr)) (fp : List Addr), STs (X.blk s H scope (compEnvC scope cl C X.env) fp) W0 ifs1 tt1)
    (he : ∀ (s : Shared) (H : Hp) (C : Addr) (cl : List (PySem.Str × Addr)) (fp : List Addr), SV (X.blk s H scope (compEnvC scope cl C X.env) fp) W0 elt te) (hs : ∀ x, foldedSetIterable iter X.env x = pure x := by intro _; rfl) (hs1 : ∀ env x, foldedSetIterable iter1 env x = pure x := by intro _ _; rfl) :
    PS X (.Assign [.Name y py] (.ListComp elt [⟨tg, iter, ifs, 0⟩, ⟨tg1, iter1, ifs1, 0⟩] scope pos) spos) (tAsg (tV (rc X) W (mLC2 it g tt it1 g1 tt1 te (List.map (fun x : PySem.Str × Nat => x.2) own) vs1)) (gName i)) :=
  PS.imp (ps_setLc2 (wi := tI (rc X) W it) (g := tGw (rc X) (List.map (fun x : PySem.Str × Nat => x.2) own) g) (tt := tT (rc X) W0 tt) (wi1 := tI (rc X) W0 it1) (g1 := tGw (rc X) vs1 g1) (tt1 := tT (rc X) W0 tt1) (te := tV (rc X) W0 te) hc hN hy hyl hsw hi ok hv hg ht hi1 hg1 ht1 he hs hs1) fun D σ H q => tAsg_imp (fun Q h => lc2_of h) q
end
end M

namespace M
open PySem PySem.Spec PyProof.Rows L2

/-! ### {k: v for x in a} -/
section
variable {X : Cx} {W : WX}
def dcTurn (ρ : MEnv) (g : GP) (tt : TM) (tk tv : VM) (d : D) (ks : List DKey) (vs : List D) (S : Sto) (k : List DKey → List D → Sto → R Val) : R Val := match g d ρ with
  | none => .bad
  | some ρ1 => (match tt ρ1 S with
    | .ok b S2 => if b = true then (match tk ρ1 S2 with
      | .ok (.v y) S3 => (match keyD y with
        | some key => (match tv ρ1 S3 with
          | .ok (.v z) S4 => if ks.length < lim then k (putKs ks key) (putVs ks vs key z) S4 else .bad
          | _ => .bad)
        | none => .bad)
      | _ => .bad) else k ks vs S2
    | _ => .bad)
def dcL (ρ : MEnv) (g : GP) (tt : TM) (tk tv : VM) : List D → List DKey → List D → Sto → R Val
  | [], ks, vs, S => .ok (.n (.dk ks vs)) S
  | d :: ds, ks, vs, S => dcTurn ρ g tt tk tv d ks vs S (dcL ρ g tt tk tv ds)
def dcN (ρ : MEnv) (g : GP) (tt : TM) (tk tv : VM) (n : Nat) : Nat → Nat → List DKey → List D → Sto → R Val
  | k, i, ks, vs, S => match liAt S n with
    | some ds => (match ds[i]? with
      | none => .ok (.n (.dk ks vs)) S
      | some d => (match k with
        | 0 => .bad
        | k + 1 => dcTurn ρ g tt tk tv d ks vs S (dcN ρ g tt tk tv n k (i + 1))))
    | _ => .bad
def mDC (it : IM) (g : GP) (tt : TM) (tk tv : VM) (vs : List Nat) : VM := fun ρ S => (it ρ S).bind fun t S1 => match t with
  | .fix ds => dcL (wipeM ρ vs) g tt tk tv ds [] [] S1
  | .at_ n => dcN (wipeM ρ vs) g tt tk tv n (lenAt S1 n) 0 [] [] S1
/-- a dict's place holds these -/
def DkAt (c : RC) (H : Hp) (D' : Addr) (ks : List DKey) (vs : List D) : Prop := ∃ xs, H D' = some (.dK (ks.zip xs)) ∧ ks.length = xs.length ∧ Reps c H vs xs
theorem DkAt.ext {c : RC} {α α' : List Addr} {H H' : Hp} {D' : Addr} {ks : List DKey} {vs : List D} (h : DkAt c H D' ks vs) (x : Ext α α' H H') (n : D' ∉ α) : DkAt c H' D' ks vs ∧ D' ∉ α' := by
  obtain ⟨xs, e, l, r⟩ := h
  exact ⟨⟨xs, x.fr _ _ e n, l, r.mono x.le⟩, fun hm => by
    have := x.nw _ hm n
    rw [e] at this
    cases this⟩
theorem dcTurn_ok {c : RC} {d : D} {vs : List Nat} {α0 α1 : List Addr} {H0 H1 : Hp} {D' : Addr} {ρ : MEnv} {g : GP} {tt : TM} {tk tv : VM} {ks : List DKey} {ws : List D} {S : Sto} {σ : L2.St} {x : V} {k : List DKey → List D → Sto → R Val} {er : Exc → Sto → Prop} {fin : Val → Sto → Prop} {Nx : Hp → Prop}
    (hD : H0 D' = none) (x1 : Ext α0 α1 H0 H1) (nD : D' ∉ α1) (eD : DkAt c H1 D' ks ws) (e1 : RelE c α1 H1 ρ (L2.wipe σ vs)) (s1 : RelS c α1 H1 S) (rd : Rep c H1 d x)
    (h : wpR (dcTurn ρ g tt tk tv d ks ws S k) fin er)
    (hN : ∀ ks' ws' S' H' α', wpR (k ks' ws' S') fin er → Ext α0 α' H0 H' → D' ∉ α' → DkAt c H' D' ks' ws' → RelS c α' H' S' → Nx H') :
    tGw c vs g x (L2.wipe σ vs) H1 fun σ2 H2 => L2.wipe σ2 vs = L2.wipe σ vs ∧ tT c W0 tt σ2 H2 fun b H3 =>
      if b = true then tV c W0 tk σ2 H3 fun y H4 => tV c W0 tv σ2 H4 fun z H5 => ∃ kvs k, y = kV k ∧ H5 D' = some (.dK kvs) ∧ kvs.length < sizeLine ∧ Nx (upd H5 D' (.dK (putK kvs k z))) else Nx H3 := by
  unfold dcTurn at h
  refine ⟨α1, ρ, d, e1, rd, ?_⟩
  cases hg : g d ρ with
  | none => rw [hg] at h; exact h.elim
  | some ρ1 =>
    rw [hg] at h
    dsimp only at h
    intro σ2 w2 e2
    refine ⟨w2.trans wipe_wipe, α1, ρ1, S, e2, s1, ?_⟩
    cases ht : tt ρ1 S with
    | bad => rw [ht] at h; exact h.elim
    | er e S2 => rw [ht] at h; exact h.elim
    | ok b S2 =>
      rw [ht] at h
      dsimp only at h
      intro H3 α3 x3 s3
      obtain ⟨eD3, nD3⟩ := eD.ext x3 nD
      cases b with
      | false =>
        rw [if_neg Bool.false_ne_true] at h
        exact iteF (hN ks ws S2 H3 α3 h (x1.trans x3) nD3 eD3 s3)
      | true =>
        rw [if_pos rfl] at h
        refine iteT ⟨α3, ρ1, S2, e2.mono x3, s3, ?_⟩
        cases hv : tk ρ1 S2 with
        | bad => rw [hv] at h; exact h.elim
        | er e S4 => rw [hv] at h; exact h.elim
        | ok z S4 =>
          rw [hv] at h
          cases z with
          | l n => exact h.elim
          | n ds => exact h.elim
          | v y =>
            dsimp only at h
            cases hk : keyD y with
            | none => rw [hk] at h; exact h.elim
            | some key =>
              rw [hk] at h
              dsimp only at h
              intro v H4 α4 x4 s4 r4 f4
              obtain ⟨eD4, nD4⟩ := eD3.ext x4 nD3
              have r4' : Rep c H4 y v := r4
              have ev := keyD_rep hk r4'
              refine ⟨α4, ρ1, S4, (e2.mono x3).mono x4, s4, ?_⟩
              cases hw : tv ρ1 S4 with
              | bad => rw [hw] at h; exact h.elim
              | er e S5 => rw [hw] at h; exact h.elim
              | ok z S5 =>
                rw [hw] at h
                cases z with
                | l n => exact h.elim
                | n ds => exact h.elim
                | v z =>
                  dsimp only at h
                  by_cases hl : ks.length < lim
                  · rw [if_pos hl] at h
                    intro u H5 α5 x5 s5 r5 f5
                    obtain ⟨⟨xs, eD5, hx, ra⟩, nD5⟩ := eD4.ext x5 nD4
                    have x15 : Ext α0 α5 H0 H5 := ((x1.trans x3).trans x4).trans x5
                    obtain ⟨xs', e6, l6, r6⟩ := put_zip (k := key) (show Rep c H5 z u from r5) hx ra
                    have le5 : LeH H5 (upd H5 D' (.dK (putK (ks.zip xs) key u))) := fun b => ⟨fun ys q => by rw [upd_ne (fun z => by rw [z, eD5] at q; cases q)]; exact q, fun u w q => by rw [upd_ne (fun z => by rw [z, eD5] at q; cases q)]; exact q⟩
                    refine ⟨_, key, ev, eD5, by rw [zip_len hx, lim_eq]; exact hl, hN _ _ S5 _ α5 h ⟨x15.pre, fun b o q nb => ?_, x15.nw, x15.le.trans le5⟩ nD5 ⟨xs', by rw [upd_same, e6], l6, r6.mono le5⟩ ?_⟩
                    · have hb : b ≠ D' := fun z => by rw [z, hD] at q; cases q
                      rw [upd_ne hb]
                      exact x15.fr b o q nb
                    · refine ⟨s5.len, s5.nd, fun b hb => ?_, fun n ds q => ?_⟩
                      · have hb' : b ≠ D' := fun z => nD5 (z ▸ hb)
                        rw [upd_ne hb']
                        exact s5.tr b hb
                      · obtain ⟨b, q1, r⟩ := s5.at_ n ds q
                        have hb' : b ≠ D' := fun z => nD5 (z ▸ List.mem_of_getElem? q1)
                        exact ⟨b, q1, r.mono le5 fun u q => by rw [upd_ne hb']; exact q⟩
                  · rw [if_neg hl] at h
                    exact h.elim
theorem dc_of {it : IM} {g : GP} {tt : TM} {tk tv : VM} {vs : List Nat} {σ : L2.St} {H : Hp} {Q : VK} (h : tV (rc X) W (mDC it g tt tk tv vs) σ H Q) : tDc (tI (rc X) W it) (tGw (rc X) vs g) (tT (rc X) W0 tt) (tV (rc X) W0 tk) (tV (rc X) W0 tv) vs σ H Q := by
  obtain ⟨α, ρ, S, hE, hS, q⟩ := h
  refine ⟨α, ρ, S, hE, hS, ?_⟩
  refine wpR_mono (wpR_bind q) (fun t S0 h0 J H0 α0 x0 s0 ok Dd hDd => ?_) fun _ _ z => z
  have hD : H0 Dd = none := hDd
  have nD : Dd ∉ α0 := s0.new hD
  have smD : Same H0 (upd H0 Dd (.dK [])) := same_upd hD
  have fD : H Dd = none := by
    cases q : H Dd with
    | none => rfl
    | some o =>
      by_cases hm : Dd ∈ α
      · obtain ⟨β, rfl⟩ := x0.pre
        exact absurd (List.mem_append_left _ hm) nD
      · have := x0.fr _ _ q hm
        rw [hD] at this
        cases this
  have st0 : DkAt (rc X) (upd H0 Dd (.dK [])) Dd [] [] := ⟨[], upd_same, rfl, .nil⟩
  -- the end
  have fin : ∀ {ks : List DKey} {ws : List D} {S1 : Sto} {H1 : Hp} {α1 : List Addr}, okV (rc X) Q α H (.n (.dk ks ws)) S1 → Ext α0 α1 H0 H1 → Dd ∉ α1 → DkAt (rc X) H1 Dd ks ws → RelS (rc X) α1 H1 S1 → Q (.ref Dd) H1 :=
    fun {ks ws S1 H1 α1} k x1 nd ed s1 => k _ H1 α1 (x0.trans x1) s1 ⟨Dd, rfl, ed, nd⟩ fun a e => by
      cases e
      exact fD
  cases t with
  | fix ds =>
    dsimp only at h0
    refine ⟨fun i m H1 => m = ds.length - i ∧ i ≤ ds.length ∧ ∃ α1 S1 ks ws, Ext α0 α1 H0 H1 ∧ Dd ∉ α1 ∧ DkAt (rc X) H1 Dd ks ws ∧ RelS (rc X) α1 H1 S1 ∧ wpR (dcL (wipeM ρ vs) g tt tk tv (ds.drop i) ks ws S1) (okV (rc X) Q α H) (okE (rc X) W σ α H),
      ⟨ds.length, by simp, Nat.zero_le _, α0, S0, [], [], .of_same smD, nD, st0, s0.same smD, by simpa using h0⟩, ?_⟩
    rintro i m H1 ⟨rfl, hi, α1, S1, ks, ws, x1, nd, ed, s1, h1⟩
    obtain ⟨ok1, ok2⟩ := ok H1 x1.le i
    by_cases hlt : i < ds.length
    · have hd : ds[i]? = some ds[i] := by simp [hlt]
      obtain ⟨go, yl⟩ := ok1 _ hd
      have hdrop : ds.drop i = ds[i] :: ds.drop (i + 1) := List.drop_eq_getElem_cons hlt
      rw [hdrop] at h1
      refine .inr ⟨go, fun H2 => ∃ α2 S2 ks2 ws2, Ext α0 α2 H0 H2 ∧ Dd ∉ α2 ∧ DkAt (rc X) H2 Dd ks2 ws2 ∧ RelS (rc X) α2 H2 S2 ∧ wpR (dcL (wipeM ρ vs) g tt tk tv (ds.drop (i + 1)) ks2 ws2 S2) (okV (rc X) Q α H) (okE (rc X) W σ α H), ?_, fun x H2 y => ?_⟩
      · rintro H2 ⟨α2, S2, ks2, ws2, z⟩
        exact ⟨ds.length - (i + 1), by omega, rfl, hlt, α2, S2, ks2, ws2, z⟩
      · obtain ⟨sm, rd⟩ := yl x H2 y
        have x12 : Ext α1 α1 H1 H2 := .of_same sm
        have hw : RelE (rc X) α1 H2 (wipeM ρ vs) (L2.wipe σ vs) := ((hE.mono x0).mono (x1.trans x12)).wipe vs
        exact dcTurn_ok (σ := σ) hD (x1.trans x12) nd (ed.ext x12 nd).1 hw (s1.same sm) rd h1 fun ks' ws' S' H' α' z1 z2 z3 z4 z5 => ⟨α', S', ks', ws', z2, z3, z4, z5, z1⟩
    · have hi2 : i = ds.length := by omega
      subst hi2
      rw [List.drop_length] at h1
      exact .inl ⟨ok2 (by simp), fin h1 x1 nd ed s1⟩
  | at_ n =>
    dsimp only at h0
    obtain ⟨a, ea, rfl⟩ := ok
    refine ⟨fun i m H1 => ∃ α1 S1 ks ws, Ext α0 α1 H0 H1 ∧ Dd ∉ α1 ∧ DkAt (rc X) H1 Dd ks ws ∧ RelS (rc X) α1 H1 S1 ∧ wpR (dcN (wipeM ρ vs) g tt tk tv n m i ks ws S1) (okV (rc X) Q α H) (okE (rc X) W σ α H),
      ⟨lenAt S0 n, α0, S0, [], [], .of_same smD, nD, st0, s0.same smD, h0⟩, ?_⟩
    rintro i m H1 ⟨α1, S1, ks, ws, x1, nd, ed, s1, h1⟩
    have h2 := h1
    rw [dcN.eq_def] at h2
    dsimp only at h2
    cases hn : liAt S1 n with
    | none => rw [hn] at h2; exact h2.elim
    | some ds =>
      match () with
      | () =>
        rw [hn] at h2
        dsimp only at h2
        obtain ⟨b, ys, eb, hb, r⟩ := s1.li n ds hn
        have eb' := pre_get x1.pre ea
        rw [eb'] at eb
        cases eb
        have sq : SqL X.K H1 a ys := .inl (.inl hb)
        cases hd : ds[i]? with
        | none =>
          rw [hd] at h2
          refine .inl ⟨⟨ys, sq, ?_⟩, fin h2 x1 nd ed s1⟩
          rw [← r.length]
          exact List.getElem?_eq_none_iff.mp hd
        | some d =>
          rw [hd] at h2
          cases m with
          | zero => exact h2.elim
          | succ k =>
            obtain ⟨x, ex, rx⟩ := r.get hd
            refine .inr ⟨⟨ys, x, sq, ex⟩, fun H2 => ∃ α2 S2 ks2 ws2, Ext α0 α2 H0 H2 ∧ Dd ∉ α2 ∧ DkAt (rc X) H2 Dd ks2 ws2 ∧ RelS (rc X) α2 H2 S2 ∧ wpR (dcN (wipeM ρ vs) g tt tk tv n k (i + 1) ks2 ws2 S2) (okV (rc X) Q α H) (okE (rc X) W σ α H), ?_, fun y H2 yy => ?_⟩
            · rintro H2 ⟨α2, S2, ks2, ws2, z⟩
              exact ⟨k, by omega, α2, S2, ks2, ws2, z⟩
            · obtain ⟨rfl, fy⟩ := yy
              have ey := fy ys sq
              rw [ex] at ey
              cases ey
              have hw : RelE (rc X) α1 H2 (wipeM ρ vs) (L2.wipe σ vs) := ((hE.mono x0).mono x1).wipe vs
              exact dcTurn_ok (σ := σ) hD x1 nd ed hw s1 rx h2 fun ks' ws' S' H' α' z1 z2 z3 z4 z5 => ⟨α', S', ks', ws', z2, z3, z4, z5, z1⟩
theorem sv_dc {kx vx tg iter : Expr} {ifs : List Expr} {scope : Scope} {own : List (PySem.Str × Nat)} {pos : Pos} {it : IM} {g : GP} {tt : TM} {tk tv : VM} (hc : X.calm = true) (hN : X.N.Nodup) (hi : SI X W tg iter it) (ok : BlkOk X.N X.env.scope scope own)
    (hg : ∀ (s : Shared) (H : Hp) (C : Addr) (cl : List (PySem.Str × Addr)) (fp : List Addr), SGw (X.blk s H scope (compEnvC scope cl C X.env) fp) (List.map (fun x : PySem.Str × Nat => x.2) own) tg g) (ht : ∀ (s : Shared) (H : Hp) (C : Addr) (cl : List (PySem.Str × Addr)) (fp : List Addr), STs (X.blk s H scope (compEnvC scope cl C X.env) fp) W0 ifs tt)
    (hk : ∀ (s : Shared) (H : Hp) (C : Addr) (cl : List (PySem.Str × Addr)) (fp : List Addr), SV (X.blk s H scope (compEnvC scope cl C X.env) fp) W0 kx tk)
    (he : ∀ (s : Shared) (H : Hp) (C : Addr) (cl : List (PySem.Str × Addr)) (fp : List Addr), SV (X.blk s H scope (compEnvC scope cl C X.env) fp) W0 vx tv) (hs : ∀ x, foldedSetIterable iter X.env x = pure x := by intro _; rfl) :
    SV X W (.DictComp kx vx [⟨tg, iter, ifs, 0⟩] scope pos) (mDC it g tt tk tv (List.map (fun x : PySem.Str × Nat => x.2) own)) :=
  PE.imp (pe_dc (wi := tI (rc X) W it) (g := tGw (rc X) (List.map (fun x : PySem.Str × Nat => x.2) own) g) (tt := tT (rc X) W0 tt) (tk := tV (rc X) W0 tk) (tv := tV (rc X) W0 tv) hc hN hi ok hg ht hk he hs) fun _ _ _ q => dc_of q
end
end M

namespace M
open PySem PySem.Spec PyProof.Rows L2

/-! ### a tuple times an int -/
section
variable {X : Cx}
def gMulA : D → D → Option Val
  | .tup a, .int k => if !a.isEmpty && (decide (2 ≤ k) && (decide (k ≤ 1000) && decide (a.length ≤ 1000))) then some (.v (.tup (List.replicate k.toNat a).flatten)) else none
  | .int i, .int j => gMulI (.int i) (.int j)
  | _, _ => none
def rMulA (K : PySem.W.Frag) : R2 := fun x y H Q => rI CMul (fun i j => .int (i * j)) x y H Q ∨ rRepT K x y H Q
theorem op_mulA : OpR X (binaryOp .Mult) (rMulA X.K) := op_mul.or op_repT
theorem og_mulA : OpG X (rMulA X.K) gMulA := by
  intro H p q x y z Q rx ry hz k
  cases p with
  | int i =>
    cases q with
    | int j => exact .inl (og_mulI H _ _ x y z Q rx ry hz k)
    | _ => cases hz
  | tup a =>
    cases q with
    | int j =>
      obtain ⟨hc, rfl⟩ := ite_some hz
      simp only [Bool.and_eq_true, decide_eq_true_eq, Bool.not_eq_true', List.isEmpty_eq_false_iff] at hc
      obtain ⟨c1, c2, c3, c4⟩ := hc
      obtain ⟨l, xs, rfl, h1, r1⟩ := rx.tupS
      refine .inr ⟨l, j, xs, rfl, ry.int, tupQ h1, fun e => c1 ?_, c2, c3, by rw [← r1.length]; exact c4, k.newT (r1.rep _)⟩
      subst e
      exact List.length_eq_zero_iff.mp r1.length
    | _ => cases hz
  | _ => cases q <;> cases hz
end
end M

namespace M
open PySem PySem.Spec PyProof.Rows L2
open AutoSeq1 (wpAny_loadPart')

/-! ### enumerate(tuple) -/
theorem meets_enumerate_newT (l : Addr) (items : Array Value) (n : Nat) (dct : Option Addr) (sl : Array (Option Value)) :
    Meets (Builtin.«enumerate.__new__» ⟨[.type "enumerate", .ref l], []⟩) (fun _ R s => s.heap.get? l = some { cls := .type "tuple", dict := dct, data := .seq items n, slots := sl } ∧
      R (.ok (.ret (.ref (s.heap.push { cls := .type "tuple_iterator", data := .fields #[.ref l, .int 0 0] }).objs.size)))
        { s with heap := (s.heap.push { cls := .type "tuple_iterator", data := .fields #[.ref l, .int 0 0] }).push { cls := .type "enumerate", data := .fields #[.none, .bool false, .ref s.heap.objs.size, rawInt 0, .none, .none] } }) :=
  .of_wp fun prog w A R s h => by
    obtain ⟨hp, g, d, tk, os⟩ := s; obtain ⟨hl, h⟩ := h
    have hsub := sub_enumerate
    have hL : Heap.IsTuple (Shared.heap ⟨hp, g, d, tk, os⟩) l items := ⟨_, hl, rfl, n, rfl⟩
    wp_walk using wpAny_loadPart' hl
    refine wpAny_stack_any fun st => wpAny_pure ?_
    split
    · rename_i c _ _ _ _ _
      cases (c == Value.type "enumerate")
      · wp_walk using wpAny_loadPart' hl, wpAny_pyIter_tuple hL
        exact ⟨_, rfl, h⟩
      · wp_walk using wpAny_loadPart' hl, wpAny_pyIter_tuple hL
        exact ⟨_, rfl, h⟩
    · wp_walk using wpAny_loadPart' hl, wpAny_pyIter_tuple hL
      exact ⟨_, rfl, h⟩
section
variable {prog : Program} {w : World} {A : Around} {E : Value → Shared → Prop} {s : Shared}
theorem call_enumerate_tuple {l : Addr} {items : Array Value} {Q : Value → Shared → Prop} (hL : s.heap.IsTuple l items)
    (h : ∀ h', IsEnum h' (s.heap.objs.size + 1) s.heap.objs.size 0 .none → h'.IsTupleIter s.heap.objs.size l 0 → h'.objs.size = s.heap.objs.size + 2 →
      (∀ b o, s.heap.get? b = some o → h'.get? b = some o) → Q (.ref (s.heap.objs.size + 1)) { s with heap := h' }) :
    wpAny (model prog w) A (call (.type "enumerate") [.ref l]) Q E s := by
  obtain ⟨⟨c, dct, dt, sl⟩, hl, hc, n, hd⟩ := hL
  replace hc : c = .type "tuple" := hc
  replace hd : dt = .seq items n := hd
  subst hc hd
  refine callType_new F.called_enumerate (by decide) (F.typeCall_enumerate_1 _) (F.newCall_enumerate_1 _) (fun obj => F.args_object_init_2 obj _) F.entry_enumerate_new
    (meets_enumerate_newT l items n dct sl) ⟨hl, ?_⟩
  have hz : (s.heap.push { cls := .type "tuple_iterator", data := .fields #[.ref l, .int 0 0] }).objs.size = s.heap.objs.size + 1 := Heap.size_push ..
  show _ ∧ _
  rw [hz]
  have he : IsEnum ((s.heap.push { cls := .type "tuple_iterator", data := .fields #[.ref l, .int 0 0] }).push
      { cls := .type "enumerate", data := .fields #[.none, .bool false, .ref s.heap.objs.size, rawInt 0, .none, .none] }) (s.heap.objs.size + 1) s.heap.objs.size 0 .none := by
    have := Heap.get?_push_size (s.heap.push { cls := .type "tuple_iterator", data := .fields #[.ref l, .int 0 0] })
      (o := { cls := .type "enumerate", data := .fields #[.none, .bool false, .ref s.heap.objs.size, rawInt 0, .none, .none] }) rfl
    rw [hz] at this; exact this
  refine ⟨⟨_, he, rfl⟩, h _ he ⟨_, Heap.get?_push_of_some _ (Heap.get?_push_size _ rfl), rfl, rfl⟩ (by rw [Heap.size_push, hz]) fun b o x => Heap.get?_push_of_some _ (Heap.get?_push_of_some _ x)⟩
theorem pyNext_enumT_end {e it l : Addr} {i : Nat} {items : Array Value} {old : Value} {Q : Option Value → Shared → Prop} (hh : A.handled = none)
    (he : IsEnum s.heap e it i old) (hit : s.heap.IsTupleIter it l i) (hl : s.heap.IsTuple l items) (hx : items[i]? = none)
    (hQ : ∀ h', Heap.ExtBut it s.heap h' → Q none { s with heap := h' }) : wpAny (model prog w) A (pyNext (.ref e)) Q E s := by
  have hT : s.TypeIs (.ref e) "enumerate" := ⟨_, he, rfl⟩
  unfold pyNext
  refine wpAny_bind (wpAny_attempt (wpAny_callSpecial?_slot (name := Str.ofString "__next__") hT F.slot_enumerate_next
    (wpAny_call_entry F.slot_enumerate_next hT F.entry_enumerate_next ?_ (F.args_enumerate_next_1 _))))
  show wpAny _ _ (field (.ref e) 2 >>= _) _ _ _
  refine wpAny_bind (wpAny_field he rfl (x := .ref it) rfl ?_)
  refine wpAny_bind (RZ.nextOf_tuple_end hh hit hl hx fun h' x he' hx' => ?_)
  obtain ⟨o, ho, hc⟩ := hx'
  refine wpAny_bind (wpAny_isInstance (T := "StopIteration") (b := true) ⟨o, ho, hc⟩ isSubtype_stop ?_)
  exact wpAny_pure (hQ _ he')
end
/-- the tuple at a, each item in a new pair -/
def IteT (K : PySem.W.Frag) (a : Addr) : It :=
  ⟨fun i H => ∃ (xs : List V) (x : V), SqT K H a xs ∧ xs[i]? = some x, fun i H v H' => ∃ T x, v = .ref T ∧ H T = none ∧ H' = upd H T (.tup [.int (i : Nat), x]) ∧ ∀ xs, SqT K H a xs → xs[i]? = some x, fun i H => ∃ xs : List V, SqT K H a xs ∧ xs.length ≤ i⟩
theorem turn_enumT {P : Program} {w : World} {K : PySem.W.Frag} {elts : List Expr} {kk : Nat} {tpos : Pos} (a e it : Addr) :
    Turn P w K (.Tuple elts kk tpos) (IteT K a) [e, it] e (fun i h => (∃ old, IsEnum h e it ((i : Nat) : Int) old) ∧ h.IsTupleIter it a i ∧ e ≠ it) where
  mem := by simp
  obj := fun i h st b hb => by
    obtain ⟨⟨old, he⟩, ⟨o, ho, hc, hd⟩, _⟩ := st
    have e' : b = e ∨ b = it := by simpa using hb
    rcases e' with z | z
    · rw [z]; exact ⟨_, he, fun v q => nomatch q⟩
    · rw [z]; exact ⟨o, ho, fun v q => by rw [hd] at q; cases q⟩
  keep := fun i h h' st k => let ⟨⟨old, he⟩, hi, hne⟩ := st; ⟨⟨old, k e (by simp) _ he⟩, hi.at fun o q => k it (by simp) o q, hne⟩
  item := by
    intro X hP hw hK hc i pins s σ H E I hf st hg
    subst hP hw hK
    obtain ⟨⟨old, he⟩, hit, hne⟩ := st
    obtain ⟨xs, x, hq, hx⟩ := hg
    obtain ⟨its, rv, p, hz⟩ := I.tuple hq
    obtain ⟨u, hu, ru⟩ := rv.get hx
    have hel : e < s.heap.objs.size := Heap.lt_size he
    have hil : it < s.heap.objs.size := by obtain ⟨_, q, _⟩ := hit; exact Heap.lt_size q
    obtain ⟨po, hpo, hpc, pn, hpd⟩ := id p
    have hea : e ≠ a := fun z => by
      have he2 : s.heap.get? a = some _ := z ▸ he
      rw [hpo] at he2
      cases he2
      cases hpd
    have hai : a ≠ it := fun z => by
      obtain ⟨io, hio, _, hid⟩ := id hit
      rw [← z, hpo] at hio
      cases hio
      rw [hid] at hpd
      cases hpd
    have Dr := Draws.tuple (prog := X.prog) (w := X.w) (A := X.A.in1) (I.ok.hd hc) it a hai its.toArray
    have hlt : i < its.toArray.size := by
      have : i < its.length := (List.getElem?_eq_some_iff.mp hu).1
      simpa using this
    refine wpAny_pyNext_enum_itemD Dr he ⟨hit, p⟩ hlt hne (by simp [hne, hea]) fun y h' tk hy ho hst' hT hsz hk => ?_
    have ey : y = u := by
      have h1 : its.toArray[i]? = some u := by simpa using hu
      rw [h1] at hy
      cases hy
      rfl
    subst ey
    refine ⟨_, rfl, wpAny_letOwnedTupleGo_enum (s := { s with heap := h', toks := tk + 1 }) ho fun h'' he' sb => ?_⟩
    have hT2 : h''.get? s.heap.objs.size = some { cls := .type "tuple", data := .seq #[.int i tk, y] } := (sb.2 _ (Nat.ne_of_gt hel)).trans hT
    have new : ObjOk X.prog X.w (upd H s.heap.objs.size (.tup [.int (i : Nat), x])) h'' s.heap.objs.size (.tup [.int (i : Nat), x]) :=
      ⟨by show 2 ≤ sizeLine; decide, [.int i tk, y], .cons ⟨_, rfl⟩ (.cons ru .nil), ⟨_, hT2, rfl, _, rfl⟩⟩
    have I1 : Inv X pins σ (upd H s.heap.objs.size (.tup [.int (i : Nat), x])) { s with heap := h'', toks := tk + 1 } :=
      I.turnedNew (ch := [e, it]) (fun b ob hb q => (sb.2 b (fun z => hb (by simp [z]))).trans (hk b ob (fun z => hb (by simp [z])) (fun z => hb (by simp [z])) q)) hf (Nat.le_refl _) new
    refine ⟨.ref s.heap.objs.size, _, I1, rfl, ⟨_, x, rfl, I.hok.fresh (Nat.le_refl _), rfl, fun ys hy => by rw [I.tuple_inj hy hq]; exact hx⟩, ⟨⟨y, ?_⟩, hst'.1.at fun o q => (sb.2 it (Ne.symm hne)).trans q, hne⟩, fun b hb => ?_⟩
    · have e1 : ((i + 1 : Nat) : Int) = (i : Int) + 1 := by omega
      rw [e1]; exact he'
    · have hb' : b < s.heap.objs.size := by
        have e' : b = e ∨ b = it := by simpa using hb
        rcases e' with z | z
        · rw [z]; exact hel
        · rw [z]; exact hil
      rw [upd_ne (Nat.ne_of_lt hb')]
      exact (hf b hb).1
  done := by
    intro X hP hw hK hc i pins s σ H E I hf st hg
    subst hP hw hK
    obtain ⟨⟨old, he⟩, hit, hne⟩ := st
    obtain ⟨xs, hq, hx⟩ := hg
    obtain ⟨its, rv, p, hz⟩ := I.tuple hq
    obtain ⟨f0, f1, f2, f3, f4, f5⟩ := hf it (by simp)
    have hl := rv.length
    exact pyNext_enumT_end (I.ok.hd hc) he hit p (by simp; omega) fun h' eb => ⟨rfl, I.turned (t' := s.toks) (fun b o hb q => eb b o hb q) f0 f1 f3 f4 f5⟩
  self := fun A i s Q E st h => let ⟨⟨_, he⟩, _⟩ := st; wpAny_pyIter_enum he h
def iEnumA (K : PySem.W.Frag) (ta : TA) : TI := fun σ H R => ta σ H fun vs H1 => ∃ a xs, vs = [.ref a] ∧ ((SqL K H1 a xs ∧ R (Ite K a) H1) ∨ (SqT K H1 a xs ∧ R (IteT K a) H1))
theorem pi_enumA {X : Cx} {e : Expr} {ta : TA} {p pos tpos : Pos} {elts : List Expr} {kk : Nat} (hg : Gl X "enumerate") (hm : X.mg "enumerate" = none) (ha : PA X [e] ta) (hs : starEach [e] X.env = [(false, eval e X.env)] := by rfl) :
    PI X (.Tuple elts kk tpos) (.Call (.Name "enumerate" p) [e] [] pos) (iEnumA X.K ta) := by
  refine ⟨fun pins s σ H R I h => ?_⟩
  refine Call_ (ld_blt I hg hm boot_enumerate (PyProof.Rows.callWith_type1 (thn (ha.run pos pins s σ H _ I h) fun us s1 ⟨vs, H1, I1, r1, q1⟩ => ?_) hs rfl))
  obtain ⟨a, xs, ex, q1⟩ := q1
  subst ex
  cases r1 with
  | cons r rr =>
    cases rr
    cases r
    have fresh : ∀ b ∈ [s1.heap.objs.size + 1, s1.heap.objs.size], FpOk X pins H1 b := fun b hb => by
      have e' : b = s1.heap.objs.size + 1 ∨ b = s1.heap.objs.size := by simpa using hb
      have hle : s1.heap.objs.size ≤ b := by
        rcases e' with z | z
        · rw [z]; exact Nat.le_add_right _ _
        · rw [z]; exact Nat.le_refl _
      exact I1.fpOk hle (I1.hok.fresh hle)
    rcases q1 with ⟨hq, q⟩ | ⟨hq, q⟩
    · obtain ⟨its, rv, p', hz⟩ := I1.list hq
      refine call_enumerate_list p'.isList fun h' he hit hsz hk => wpAny_pyIter_enum he ?_
      have I2 : Inv X pins σ H1 { s1 with heap := h' } := I1.kept (t' := s1.toks) hk
      exact ⟨s1.heap.objs.size + 1, [s1.heap.objs.size + 1, s1.heap.objs.size], _, _, H1, rfl, I2, turn_enum a (s1.heap.objs.size + 1) s1.heap.objs.size, ⟨⟨.none, he⟩, hit, Nat.succ_ne_self _⟩, fresh, q⟩
    · obtain ⟨its, rv, p', hz⟩ := I1.tuple hq
      refine call_enumerate_tuple p' fun h' he hit hsz hk => wpAny_pyIter_enum he ?_
      have I2 : Inv X pins σ H1 { s1 with heap := h' } := I1.kept (t' := s1.toks) hk
      exact ⟨s1.heap.objs.size + 1, [s1.heap.objs.size + 1, s1.heap.objs.size], _, _, H1, rfl, I2, turn_enumT a (s1.heap.objs.size + 1) s1.heap.objs.size, ⟨⟨.none, he⟩, hit, Nat.succ_ne_self _⟩, fresh, q⟩
theorem ItOk.enumT {c : RC} {α : List Addr} {H : Hp} {a : Addr} {xs : List V} {ds : List D} (h1 : SqT c.K H a xs) (r1 : Reps c H ds xs) : ItOk c α (IteT c.K a) H (.fix (numD' ds)) := by
  intro H1 l i
  have s1 := l.sqT h1
  have rm := r1.mono l
  have hlen := rm.length
  refine ⟨fun d hd => ?_, fun hn => ?_⟩
  · unfold numD' at hd
    rw [List.getElem?_zipWith] at hd
    cases hd2 : ds[i]? with
    | none => rw [hd2] at hd; cases hq : (List.range ds.length)[i]? <;> rw [hq] at hd <;> simp at hd
    | some q =>
      have hi : i < ds.length := (List.getElem?_eq_some_iff.mp hd2).1
      rw [List.getElem?_range hi, hd2] at hd
      cases hd
      obtain ⟨x, ex, rx⟩ := rm.get hd2
      refine ⟨⟨xs, x, s1, ex⟩, fun v H2 hy => ?_⟩
      obtain ⟨T, x', rfl, hT, rfl, f1⟩ := hy
      have e1 := f1 xs s1
      rw [ex] at e1
      cases e1
      exact tup2 hT (by simp only [Rep]) rx
  · have := List.getElem?_eq_none_iff.mp hn
    unfold numD' at this
    rw [List.length_zipWith, List.length_range, Nat.min_self] at this
    exact ⟨xs, s1, by omega⟩
def enumA (xs : List Val) (S : Sto) : R Items := match xs with
  | [.v (.lst ds)] => .ok (.fix (numD' ds)) S
  | [.v (.tup ds)] => .ok (.fix (numD' ds)) S
  | _ => .bad
section
variable {X : Cx} {W : WX} {tg e : Expr}
theorem si_enumA {g : AM} (h : PI X tg e (iEnumA X.K (tA (rc X) W g))) : SI X W tg e (mRng enumA g) := by
  refine PI.imp h fun σ H R ⟨α, ρ, S, hE, hS, q⟩ => ⟨α, ρ, S, hE, hS, ?_⟩
  refine wpR_mono (wpR_bind q) (fun xs S1 h1 vs H1 α1 x1 s1 r1 => ?_) fun _ _ z => z
  unfold enumA at h1
  split at h1
  · rename_i ds
    obtain ⟨v, rfl, hv⟩ := r1.one
    obtain ⟨a, ys, rfl, k1, t1⟩ := hv.listF (.inl rfl)
    exact ⟨a, ys, rfl, .inl ⟨k1.seq, h1 _ H1 α1 x1 s1 (.enum k1 t1)⟩⟩
  · rename_i ds
    obtain ⟨v, rfl, hv⟩ := r1.one
    have hv' : Rep (rc X) H1 (.tup ds) v := hv
    simp only [Rep] at hv'
    obtain ⟨a, ys, rfl, hq, t1⟩ := hv'
    exact ⟨a, ys, rfl, .inr ⟨tupQ hq, h1 _ H1 α1 x1 s1 (.enumT (tupQ hq) t1)⟩⟩
  · exact h1.elim
theorem ItOk.zipT {c : RC} {α : List Addr} {H : Hp} {a b : Addr} {xs ys : List V} {ds es : List D} (h1 : SqT c.K H a xs) (r1 : Reps c H ds xs) (h2 : SqT c.K H b ys) (r2 : Reps c H es ys) : ItOk c α (RZ.ItzT c.K a b) H (.fix (pairsD ds es)) := by
  intro H1 l i
  have s1 := l.sqT h1
  have m1 := r1.mono l
  have s2 := l.sqT h2
  have m2 := r2.mono l
  have n1 := m1.length
  have n2 := m2.length
  refine ⟨fun d hd => ?_, fun hn => ?_⟩
  · unfold pairsD at hd
    rw [List.getElem?_zipWith] at hd
    cases hd1 : ds[i]? with
    | none => rw [hd1] at hd; simp at hd
    | some p =>
      cases hd2 : es[i]? with
      | none => rw [hd1, hd2] at hd; simp at hd
      | some q =>
        rw [hd1, hd2] at hd
        cases hd
        obtain ⟨x, ex, rx⟩ := m1.get hd1
        obtain ⟨y, ey, ry⟩ := m2.get hd2
        refine ⟨⟨xs, ys, x, y, s1, s2, ex, ey⟩, fun v H2 hy => ?_⟩
        obtain ⟨T, x', y', rfl, hT, rfl, f1, f2⟩ := hy
        have e1 := f1 xs s1
        rw [ex] at e1
        cases e1
        have e2 := f2 ys s2
        rw [ey] at e2
        cases e2
        exact tup2 hT rx ry
  · have := List.getElem?_eq_none_iff.mp hn
    unfold pairsD at this
    rw [List.length_zipWith] at this
    exact ⟨xs, ys, s1, s2, by omega⟩
def zipA (xs : List Val) (S : Sto) : R Items := match xs with
  | [.v (.lst ds), .v (.lst es)] => .ok (.fix (pairsD ds es)) S
  | [.v (.tup ds), .v (.tup es)] => .ok (.fix (pairsD ds es)) S
  | _ => .bad
theorem si_zipA {g : AM} (h : PI X tg e (RZ.iZipA X.K (tA (rc X) W g))) : SI X W tg e (mRng zipA g) := by
  refine PI.imp h fun σ H R ⟨α, ρ, S, hE, hS, q⟩ => ⟨α, ρ, S, hE, hS, ?_⟩
  refine wpR_mono (wpR_bind q) (fun xs S1 h1 vs H1 α1 x1 s1 r1 => ?_) fun _ _ z => z
  unfold zipA at h1
  split at h1
  · rename_i ds es
    obtain ⟨v, w, rfl, hv, hw⟩ := r1.two
    obtain ⟨a, ys, rfl, k1, t1⟩ := hv.listF (.inl rfl)
    obtain ⟨b, zs, rfl, k2, t2⟩ := hw.listF (.inl rfl)
    exact ⟨a, b, ys, zs, rfl, .inl ⟨k1.seq, k2.seq, h1 _ H1 α1 x1 s1 (.zip k1 t1 k2 t2)⟩⟩
  · rename_i ds es
    obtain ⟨v, w, rfl, hv, hw⟩ := r1.two
    have hv' : Rep (rc X) H1 (.tup ds) v := hv
    have hw' : Rep (rc X) H1 (.tup es) w := hw
    simp only [Rep] at hv' hw'
    obtain ⟨a, ys, rfl, k1, t1⟩ := hv'
    obtain ⟨b, zs, rfl, k2, t2⟩ := hw'
    exact ⟨a, b, ys, zs, rfl, .inr ⟨tupQ k1, tupQ k2, h1 _ H1 α1 x1 s1 (.zipT (tupQ k1) t1 (tupQ k2) t2)⟩⟩
  · exact h1.elim
end
@[simp] theorem enumA_lst {ds : List D} {S : Sto} : enumA [.v (.lst ds)] S = .ok (.fix (numD' ds)) S := rfl
@[simp] theorem enumA_tup {ds : List D} {S : Sto} : enumA [.v (.tup ds)] S = .ok (.fix (numD' ds)) S := rfl
end M

namespace M
open PySem PySem.Spec PyProof.Rows L2

/-! ### loops -/
/-- one turn of a for -/
def turn (g : GM) (body : SM) (d : D) (ρ : MEnv) (S : Sto) : RS := match g d ρ S with
  | .ok ρ1 S1 => body ρ1 S1
  | _ => .bad
/-- the turn goes on (or leaves the loop), with I -/
def wpL (r : RS) (I : MEnv → Sto → Prop) : Prop := match r with
  | .nx ρ S => I ρ S
  | .ct ρ S => I ρ S
  | .bk ρ S => I ρ S
  | _ => False
@[simp] theorem wpL_nx {ρ : MEnv} {S : Sto} {I : MEnv → Sto → Prop} : wpL (.nx ρ S) I ↔ I ρ S := Iff.rfl
@[simp] theorem wpL_ct {ρ : MEnv} {S : Sto} {I : MEnv → Sto → Prop} : wpL (.ct ρ S) I ↔ I ρ S := Iff.rfl
@[simp] theorem wpL_bk {ρ : MEnv} {S : Sto} {I : MEnv → Sto → Prop} : wpL (.bk ρ S) I ↔ I ρ S := Iff.rfl
@[simp] theorem turn_name {i : Nat} {body : SM} {d : D} {ρ : MEnv} {S : Sto} : turn (gN i) body d ρ S = body (ρ.set i (some (.v d))) S := rfl
theorem forL_nx {g : GM} {body : SM} (I : Nat → MEnv → Sto → Prop) : ∀ (ds : List D) (i : Nat) (ρ : MEnv) (S : Sto), I i ρ S →
    (∀ d ∈ ds, ∀ j ρ S, i ≤ j → j < i + ds.length → I j ρ S → wpL (turn g body d ρ S) (I (j + 1))) →
    ∃ j ρ' S', forL g body ds ρ S = .nx ρ' S' ∧ I j ρ' S' ∧ i ≤ j ∧ j ≤ i + ds.length
  | [], i, ρ, S, h, _ => ⟨i, ρ, S, rfl, h, Nat.le_refl _, by simp⟩
  | d :: ds, i, ρ, S, h, hs => by
    have h1 := hs d List.mem_cons_self i ρ S (Nat.le_refl _) (by simp) h
    have go : forL g body (d :: ds) ρ S = onward (turn g body d ρ S) (forL g body ds) := by
      show step g body d ρ S (forL g body ds) = _
      unfold step turn
      cases hg : g d ρ S with
      | ok ρ1 S1 => rfl
      | er e S1 => rfl
      | bad => rfl
    have ih : ∀ ρ2 S2, I (i + 1) ρ2 S2 → ∃ j ρ' S', forL g body ds ρ2 S2 = .nx ρ' S' ∧ I j ρ' S' ∧ i ≤ j ∧ j ≤ i + (d :: ds).length := fun ρ2 S2 h2 => by
      obtain ⟨j, ρ', S', e3, h3, h4, h5⟩ := forL_nx I ds (i + 1) ρ2 S2 h2 fun d' hd j ρ S h1 h3 h4 => hs d' (List.mem_cons_of_mem _ hd) j ρ S (by omega) (by simp; omega) h4
      exact ⟨j, ρ', S', e3, h3, by omega, by simp; omega⟩
    rw [go]
    cases ht : turn g body d ρ S with
    | nx ρ2 S2 => rw [ht] at h1; exact ih _ _ h1
    | ct ρ2 S2 => rw [ht] at h1; exact ih _ _ h1
    | bk ρ2 S2 =>
      rw [ht] at h1
      exact ⟨i + 1, ρ2, S2, rfl, h1, by omega, by simp⟩
    | rt x S2 => rw [ht] at h1; exact h1.elim
    | er e ρ2 S2 => rw [ht] at h1; exact h1.elim
    | bad => rw [ht] at h1; exact h1.elim
/-- a comprehension whose turns each give one thing -/
theorem lcL_ok {ρ : MEnv} {g : GP} {te : VM} (I : Sto → Prop) (P : D → D → Prop) : ∀ (ds acc : List D) (S : Sto), I S → acc.length + ds.length ≤ lim →
    (∀ d ∈ ds, ∀ S, I S → ∃ ρ1 y S', g d ρ = some ρ1 ∧ te ρ1 S = .ok (.v y) S' ∧ I S' ∧ P d y) →
    ∃ ys S', lcL ρ g mYes te ds acc S = .ok (.n (.li (acc ++ ys))) S' ∧ I S' ∧ ys.length = ds.length ∧ (∀ y ∈ ys, ∃ d ∈ ds, P d y)
  | [], acc, S, h, _, _ => ⟨[], S, by simp [lcL], h, rfl, by simp⟩
  | d :: ds, acc, S, h, hl, hs => by
    obtain ⟨ρ1, y, S1, e1, e2, h1, hp⟩ := hs d List.mem_cons_self S h
    simp only [List.length_cons] at hl
    obtain ⟨ys, S2, e3, h2, hl2, hp2⟩ := lcL_ok I P ds (acc ++ [y]) S1 h1 (by simp; omega) fun d' hd => hs d' (List.mem_cons_of_mem _ hd)
    refine ⟨y :: ys, S2, ?_, h2, by simp [hl2], fun z hz => ?_⟩
    · show lcTurn ρ g mYes te d acc S (lcL ρ g mYes te ds) = _
      unfold lcTurn
      rw [e1]
      dsimp only
      rw [mYes_ap]
      dsimp only
      rw [if_pos rfl, e2]
      dsimp only
      rw [if_pos (by omega), e3]
      simp
    · rcases List.mem_cons.mp hz with rfl | hz
      · exact ⟨d, List.mem_cons_self, hp⟩
      · obtain ⟨d', hd, hp'⟩ := hp2 z hz
        exact ⟨d', List.mem_cons_of_mem _ hd, hp'⟩
/-- a comprehension that reads only -/
theorem lcL_map {ρ : MEnv} {g : GP} {te : VM} {S : Sto} {F : D → D} : ∀ (ds acc : List D), acc.length + ds.length ≤ lim → (∀ d ∈ ds, ∃ ρ1, g d ρ = some ρ1 ∧ te ρ1 S = .ok (.v (F d)) S) → lcL ρ g mYes te ds acc S = .ok (.n (.li (acc ++ ds.map F))) S
  | [], acc, _, _ => by simp [lcL]
  | d :: ds, acc, hl, hs => by
    obtain ⟨ρ1, e1, e2⟩ := hs d List.mem_cons_self
    simp only [List.length_cons] at hl
    have ih := lcL_map ds (acc ++ [F d]) (by simp; omega) fun d' hd => hs d' (List.mem_cons_of_mem _ hd)
    show lcTurn ρ g mYes te d acc S (lcL ρ g mYes te ds) = _
    unfold lcTurn
    rw [e1]
    dsimp only
    rw [mYes_ap]
    dsimp only
    rw [if_pos rfl, e2]
    dsimp only
    rw [if_pos (by omega), ih]
    simp
/-- with a test -/
theorem lcL_filter {ρ : MEnv} {g : GP} {tt : TM} {te : VM} {S : Sto} {F : D → D} {p : D → Bool} : ∀ (ds acc : List D), acc.length + ds.length ≤ lim → (∀ d ∈ ds, ∃ ρ1, g d ρ = some ρ1 ∧ tt ρ1 S = .ok (p d) S ∧ (p d = true → te ρ1 S = .ok (.v (F d)) S)) →
    lcL ρ g tt te ds acc S = .ok (.n (.li (acc ++ (ds.filter p).map F))) S
  | [], acc, _, _ => by simp [lcL]
  | d :: ds, acc, hl, hs => by
    obtain ⟨ρ1, e1, e2, e3⟩ := hs d List.mem_cons_self
    simp only [List.length_cons] at hl
    show lcTurn ρ g tt te d acc S (lcL ρ g tt te ds) = _
    unfold lcTurn
    rw [e1]
    dsimp only
    rw [e2]
    dsimp only
    by_cases hp : p d = true
    · have ih := lcL_filter (F := F) (p := p) ds (acc ++ [F d]) (by simp; omega) fun d' hd => hs d' (List.mem_cons_of_mem _ hd)
      rw [if_pos hp, e3 hp]
      dsimp only
      rw [if_pos (by omega), ih]
      simp [hp]
    · have ih := lcL_filter (F := F) (p := p) ds acc (by omega) fun d' hd => hs d' (List.mem_cons_of_mem _ hd)
      rw [if_neg hp, ih]
      simp [hp]

/-! ### the draws: functions that all the laws share -/
@[simp] theorem gMulA_int {i j : Int} : gMulA (.int i) (.int j) = gMulI (.int i) (.int j) := rfl
theorem itA_kl {ρ : MEnv} {S : Sto} {j : Nat} {ds : List D} (h : ρ[j]? = some (some (.v (.kl ds)))) : mItA (mV j) ρ S = .ok (.fix ds) S := by
  have e : mFzD (mV j) ρ S = .ok (.v (.kl ds)) S := by simp [mFzD, h]
  simp [mItA, e]
namespace PR
def body__law_number : SM :=
      (sSeq (sIf (mTB (mOp gLt (mV 0) (mC (.int 0)))) (sRet (mOp gSub (mC (.int 0)) (mV 0))) sSkip)
      (sRet (mV 0)))
def f__law_number : MFn := mkFn 1 1 body__law_number
def body__law_draws : SM :=
      (sSeq (sSet 1 (mAl (mLst mNil)))
      (sSeq (sFor (mItA (mV 0)) (gN 2) (sSeq (sSet 3 (mCall f__law_number (mCons (mV 2) mNil)))
      (sIf (mTB (mOp gGe (mV 3) (mC (.int 1000000000000000000)))) (sFor (mRng rng1 (mCons (mC (.int 60)) mNil)) (gN 4) (sSeq (sIf (mTB (mOp gEq (mV 3) (mC (.int 0)))) sBrk sSkip)
      (sSeq (sExpr (mMut arK hApp (mV 1) (mCons (mOp gMod (mB (g1 intD) (mCons (mV 3) mNil)) (mC (.int 1000))) mNil)))
      (sSet 3 (mOp gDiv (mV 3) (mC (.int 1000))))))) (sSeq (sSet 5 (mOp gMod (mB (g1 intD) (mCons (mOp gAdd (mOp gMulA (mV 3) (mC (.int 48271))) (mC (.int 11))) mNil)) (mC (.int 2147483647))))
      (sSeq (sSet 6 (mOp gMod (mB (g1 intD) (mCons (mOp gAdd (mOp gMulA (mV 5) (mC (.int 69621))) (mV 3)) mNil)) (mC (.int 2147483629))))
      (sExpr (mMut pks hExt (mV 1) (mCons (mFz (mLst (mCons (mOp gMod (mB (g1 intD) (mCons (mV 3) mNil)) (mC (.int 1000))) (mCons (mOp gMod (mB (g1 intD) (mCons (mV 5) mNil)) (mC (.int 1000))) (mCons (mOp gMod (mB (g1 intD) (mCons (mV 6) mNil)) (mC (.int 1000))) mNil))))) mNil))))))))
      (sSeq (sExpr (mMut arK hRev (mV 1) mNil))
      (sRet (mV 1)))))
def f__law_draws : MFn := mkFn 1 7 body__law_draws
def body__law_next : SM :=
      (sSeq (sIf (mTru (mV 0)) (sRet (mMut arK hPop (mV 0) mNil)) sSkip)
      (sRet (mC (.int 0))))
def f__law_next : MFn := mkFn 1 1 body__law_next
def body__law_more : SM :=
      (sSeq (sSet 2 (mOp gAdd (mOp gAdd (mOp gMulA (mC (.int 1000)) (mCall f__law_next (mCons (mV 0) mNil))) (mCall f__law_next (mCons (mV 0) mNil))) (mC (.int 1))))
      (sSeq (sSet 3 (mAl (mLst mNil)))
      (sSeq (sFor (mRng rng1 (mCons (mV 1) mNil)) (gN 4) (sSeq (sSet 2 (mOp gMod (mB (g1 intD) (mCons (mOp gAdd (mOp gMulA (mV 2) (mC (.int 48271))) (mC (.int 12345))) mNil)) (mC (.int 2147483647))))
      (sExpr (mMut arK hApp (mV 3) (mCons (mOp gMod (mB (g1 intD) (mCons (mOp gDiv (mV 2) (mC (.int 7))) mNil)) (mC (.int 1000))) mNil)))))
      (sRet (mOp gAdd (mV 3) (mV 0))))))
def f__law_more : MFn := mkFn 2 5 body__law_more
def body__law_pick : SM :=
      (sRet (mOp gIx (mV 1) (mOp gMod (mB (g1 intD) (mCons (mCall f__law_next (mCons (mV 0) mNil)) mNil)) (mB (g1 lenD) (mCons (mV 1) mNil)))))
def f__law_pick : MFn := mkFn 2 2 body__law_pick
/-! what is known of a list of draws -/
def Dr (ds : List Int) : Prop := ds.length ≤ 100000 ∧ ∀ d ∈ ds, 0 ≤ d ∧ d < 1000
def AtD (S : Sto) (n : Nat) : Prop := ∃ ds : List Int, S[n]? = some (some (.li (ds.map D.int))) ∧ Dr ds
def Stp (n : Nat) (S S' : Sto) : Prop := ∃ ds : List Int, S' = S.set n (some (.li (ds.map D.int))) ∧ Dr ds
theorem set_same {α : Type} {l : List α} {n : Nat} {x : α} (h : l[n]? = some x) : l.set n x = l := by
  apply List.ext_getElem?
  intro i
  by_cases e : n = i
  · subst e
    rw [List.getElem?_set_self (List.getElem?_eq_some_iff.mp h).1, h]
  · rw [List.getElem?_set_ne e]
theorem AtD.stp {S : Sto} {n : Nat} (h : AtD S n) : Stp n S S := by
  obtain ⟨ds, e, d⟩ := h
  exact ⟨ds, (set_same e).symm, d⟩
theorem AtD.lt {S : Sto} {n : Nat} (h : AtD S n) : n < S.length := by
  obtain ⟨ds, e, d⟩ := h
  exact (List.getElem?_eq_some_iff.mp e).1
theorem Stp.trans {S S' S2 : Sto} {n : Nat} (a : Stp n S S') (b : Stp n S' S2) : Stp n S S2 := by
  obtain ⟨ds, rfl, _⟩ := a
  obtain ⟨es, rfl, d⟩ := b
  exact ⟨es, by rw [List.set_set], d⟩
theorem Stp.length {S S' : Sto} {n : Nat} (a : Stp n S S') : S'.length = S.length := by
  obtain ⟨ds, rfl, _⟩ := a
  simp
theorem Stp.at_ {S S' : Sto} {n : Nat} (a : Stp n S S') (h : AtD S n) : AtD S' n := by
  obtain ⟨ds, rfl, d⟩ := a
  exact ⟨ds, List.getElem?_set_self h.lt, d⟩
theorem Stp.ne {S S' : Sto} {n m : Nat} (a : Stp n S S') (h : n ≠ m) : S'[m]? = S[m]? := by
  obtain ⟨ds, rfl, d⟩ := a
  exact List.getElem?_set_ne h
theorem Dr.nil : Dr [] := ⟨by simp, by simp⟩
theorem Dr.dropLast {ds : List Int} (h : Dr ds) : Dr ds.dropLast := ⟨by have := h.1; simp; omega, fun d hd => h.2 d (List.dropLast_subset _ hd)⟩
@[simp] theorem set_concat_length {α : Type} {l : List α} {x y : α} : (l ++ [x]).set l.length y = l ++ [y] := by
  rw [List.set_append_right _ _ (Nat.le_refl _)]
  simp
theorem next_ok {S : Sto} {n : Nat} (h : AtD S n) : ∃ (i : Int) (S' : Sto), f__law_next [.l n] S = .ok (.v (.int i)) S' ∧ Stp n S S' ∧ 0 ≤ i ∧ i < 1000 := by
  have hl := h.lt
  have hst := h.stp
  obtain ⟨ds, e, d⟩ := h
  rw [show f__law_next [.l n] S = leave S.length (body__law_next [some (.l n)] S) from rfl]
  by_cases h0 : ds = []
  · subst h0
    refine ⟨0, S, ?_, hst, by decide, by decide⟩
    simp [body__law_next, e, truB, List.take_of_length_le]
  · have hlen : 0 < ds.length := List.length_pos_iff.mpr h0
    have e2 : ds[ds.length - 1]? = some ds[ds.length - 1] := List.getElem?_eq_getElem (by omega)
    refine ⟨ds[ds.length - 1], S.set n (some (.li (ds.dropLast.map D.int))), ?_, ⟨_, rfl, d.dropLast⟩, d.2 _ (List.getElem_mem _)⟩
    have hb : (!(ds.map D.int).isEmpty) = true := by
      cases ds with
      | nil => exact absurd rfl h0
      | cons a r => rfl
    have tk : ∀ T : Sto, T.length = S.length → T.take S.length = T := fun T hT => List.take_of_length_le (by omega)
    simp only [obD_li, liAt_ap, body__law_next, sSeq_ap, sIf_ap, mTru_ap, mV_ap, List.map_cons, List.map_nil, List.cons_append, List.getElem?_cons_zero, bind_ok, pk_l, e, truB, hb, ofR_ok, if_true, sRet_ap, mMut_ap, mNil_ap, arK, dats_nil, hPop, List.length_map, List.getElem?_map, e2, Option.map_some, leave_rt, fin_v]
    rw [tk _ (by simp), List.map_dropLast]
theorem fmod_pos {a b : Int} (h : 0 < b) : 0 ≤ a.fmod b ∧ a.fmod b < b := ⟨Int.fmod_nonneg_of_pos a h, Int.fmod_lt_of_pos a h⟩
theorem number_ok {S : Sto} {i : Int} : f__law_number [.v (.int i)] S = .ok (.v (.int (if i < 0 then 0 - i else i))) S := by
  rw [show f__law_number [.v (.int i)] S = leave S.length (body__law_number [some (.v (.int i))] S) from rfl]
  by_cases h : i < 0
  · simp [body__law_number, gLt, gOrd, gSub, h]
  · simp [body__law_number, gLt, gOrd, gSub, h]
theorem lt_lim {n : Nat} (h : n < 200000) : n < lim := by
  unfold lim
  omega
theorem le_lim {n : Nat} (h : n ≤ 200000) : n ≤ lim := by
  unfold lim
  omega
theorem Dr1.app {ds es : List Int} (h : ∀ d ∈ ds, 0 ≤ d ∧ d < 1000) (h2 : ∀ d ∈ es, 0 ≤ d ∧ d < 1000) : ∀ d ∈ ds ++ es, 0 ≤ d ∧ d < 1000 := fun d hd => (List.mem_append.mp hd).elim (h d) (h2 d)
theorem big_48271 {i : Int} : (big i || big 48271) = true := by
  rw [Bool.or_eq_true]
  exact .inr (by decide)
theorem big_69621 {i : Int} : (big i || big 69621) = true := by
  rw [Bool.or_eq_true]
  exact .inr (by decide)
theorem gMulI_r {i j : Int} (h : big j = true) : gMulI (.int i) (.int j) = some (.v (.int (i * j))) := by
  show (if (big i || big j) = true then some (Val.v (D.int (i * j))) else none) = _
  rw [h, Bool.or_true, if_pos rfl]
theorem gMulI_l {i j : Int} (h : big i = true) : gMulI (.int i) (.int j) = some (.v (.int (i * j))) := by
  show (if (big i || big j) = true then some (Val.v (D.int (i * j))) else none) = _
  rw [h, Bool.true_or, if_pos rfl]
theorem gMod_int {i j : Int} (h : j ≠ 0) : gMod (.int i) (.int j) = some (.v (.int (i.fmod j))) := by
  show (if j ≠ 0 then some (Val.v (D.int (i.fmod j))) else none) = _
  rw [if_pos h]
theorem gDiv_int {i j : Int} (h : j ≠ 0) (h2 : j.natAbs < 1073741824) : gDiv (.int i) (.int j) = some (.v (.int (i.fdiv j))) := by
  show (if j ≠ 0 ∧ j.natAbs < 1073741824 then some (Val.v (D.int (i.fdiv j))) else none) = _
  rw [if_pos ⟨h, h2⟩]
@[simp] theorem gAdd_int {i j : Int} : gAdd (.int i) (.int j) = some (.v (.int (i + j))) := rfl
@[simp] theorem gSub_int {i j : Int} : gSub (.int i) (.int j) = some (.v (.int (i - j))) := rfl
@[simp] theorem gLt_int {i j : Int} : gLt (.int i) (.int j) = some (.v (.bl (decide (i < j)))) := rfl
@[simp] theorem gLe_int {i j : Int} : gLe (.int i) (.int j) = some (.v (.bl (decide (i ≤ j)))) := rfl
@[simp] theorem gGt_int {i j : Int} : gGt (.int i) (.int j) = some (.v (.bl (decide (j < i)))) := rfl
@[simp] theorem gGe_int {i j : Int} : gGe (.int i) (.int j) = some (.v (.bl (decide (j ≤ i)))) := rfl
@[simp] theorem gEq_int {i j : Int} : gEq (.int i) (.int j) = some (.v (.bl (decide (i = j)))) := by
  show some (Val.v (D.bl (i == j))) = _
  rfl
@[simp] theorem gNe_int {i j : Int} : gNe (.int i) (.int j) = some (.v (.bl (!decide (i = j)))) := by
  show some (Val.v (D.bl (!(i == j)))) = _
  rfl
@[simp] theorem intD_int {i : Int} : g1 intD [.int i] = some (.v (.int i)) := rfl
theorem gAdd_lst {a b : List D} (h : a.length + b.length ≤ lim) : gAdd (.lst a) (.lst b) = some (.n (.li (a ++ b))) := if_pos h
theorem gAdd_tup {a b : List D} (h : a.length + b.length ≤ lim) : gAdd (.tup a) (.tup b) = some (.v (.tup (a ++ b))) := if_pos h
theorem gAdd_str {a b : PySem.Str} (h : a.length + b.length ≤ lim) : gAdd (.str a) (.str b) = some (.v (.str (a ++ b))) := if_pos h
theorem draws_ok {S : Sto} {ns : List Int} (hn : ns.length ≤ 63) : ∃ ds : List Int, f__law_draws [.v (.kl (ns.map D.int))] S = .ok (.n (.li (ds.map D.int))) S ∧ Dr ds ∧ ds.length ≤ 3780 := by
  rw [show f__law_draws [.v (.kl (ns.map D.int))] S = leave S.length (body__law_draws [some (.v (.kl (ns.map D.int))), none, none, none, none, none, none] S) from rfl]
  let I : Nat → MEnv → Sto → Prop := fun i ρ S' => ∃ (ds : List Int) (o2 o3 o4 o5 o6 : Option Val), ρ = [some (.v (.kl (ns.map D.int))), some (.l S.length), o2, o3, o4, o5, o6] ∧ S' = S ++ [some (.li (ds.map D.int))] ∧ ds.length ≤ 60 * i ∧ ∀ d ∈ ds, 0 ≤ d ∧ d < 1000
  let J : List Int → Nat → MEnv → Sto → Prop := fun d0 i ρ S' => ∃ (ds : List Int) (r : Int) (o2 o4 o5 o6 : Option Val), ρ = [some (.v (.kl (ns.map D.int))), some (.l S.length), o2, some (.v (.int r)), o4, o5, o6] ∧ S' = S ++ [some (.li (ds.map D.int))] ∧ ds.length ≤ d0.length + i ∧ ∀ d ∈ ds, 0 ≤ d ∧ d < 1000
  have main : ∃ j ρ' S', forL (gN 2) (sSeq (sSet 3 (mCall f__law_number (mCons (mV 2) mNil)))
      (sIf (mTB (mOp gGe (mV 3) (mC (.int 1000000000000000000)))) (sFor (mRng rng1 (mCons (mC (.int 60)) mNil)) (gN 4) (sSeq (sIf (mTB (mOp gEq (mV 3) (mC (.int 0)))) sBrk sSkip)
      (sSeq (sExpr (mMut arK hApp (mV 1) (mCons (mOp gMod (mB (g1 intD) (mCons (mV 3) mNil)) (mC (.int 1000))) mNil)))
      (sSet 3 (mOp gDiv (mV 3) (mC (.int 1000))))))) (sSeq (sSet 5 (mOp gMod (mB (g1 intD) (mCons (mOp gAdd (mOp gMulA (mV 3) (mC (.int 48271))) (mC (.int 11))) mNil)) (mC (.int 2147483647))))
      (sSeq (sSet 6 (mOp gMod (mB (g1 intD) (mCons (mOp gAdd (mOp gMulA (mV 5) (mC (.int 69621))) (mV 3)) mNil)) (mC (.int 2147483629))))
      (sExpr (mMut pks hExt (mV 1) (mCons (mFz (mLst (mCons (mOp gMod (mB (g1 intD) (mCons (mV 3) mNil)) (mC (.int 1000))) (mCons (mOp gMod (mB (g1 intD) (mCons (mV 5) mNil)) (mC (.int 1000))) (mCons (mOp gMod (mB (g1 intD) (mCons (mV 6) mNil)) (mC (.int 1000))) mNil))))) mNil)))))))
      (ns.map D.int) [some (.v (.kl (ns.map D.int))), some (.l S.length), none, none, none, none, none] (S ++ [some (.li [])]) = .nx ρ' S' ∧ I j ρ' S' ∧ 0 ≤ j ∧ j ≤ 0 + (ns.map D.int).length := by
    refine forL_nx I (ns.map D.int) 0 _ _ ⟨[], none, none, none, none, none, rfl, rfl, by simp, by simp⟩ fun d hd j ρ T hj1 hj2 hI => ?_
    obtain ⟨n, hn', rfl⟩ := List.mem_map.mp hd
    obtain ⟨ds, o2, o3, o4, o5, o6, rfl, rfl, hl, hds⟩ := hI
    have hj : j < 63 := by
      rw [List.length_map] at hj2
      omega
    have hdl : ds.length ≤ 3780 := by omega
    generalize hr : (if n < 0 then 0 - n else n) = r
    have e0 : ∀ T : Sto, f__law_number [.v (.int n)] T = .ok (.v (.int r)) T := fun T => by rw [number_ok, hr]
    by_cases hb : (1000000000000000000 : Int) ≤ r
    · obtain ⟨m, ρ', T', e1, ⟨es, r', p2, p4, p5, p6, rfl, rfl, h3, h4⟩, h5, h6⟩ := forL_nx (g := gN 4) (body := (sSeq (sIf (mTB (mOp gEq (mV 3) (mC (.int 0)))) sBrk sSkip)
          (sSeq (sExpr (mMut arK hApp (mV 1) (mCons (mOp gMod (mB (g1 intD) (mCons (mV 3) mNil)) (mC (.int 1000))) mNil)))
          (sSet 3 (mOp gDiv (mV 3) (mC (.int 1000)))))))
        (J ds) (upto 0 60) 0 [some (.v (.kl (ns.map D.int))), some (.l S.length), some (.v (.int n)), some (.v (.int r)), o4, o5, o6] (S ++ [some (.li (ds.map D.int))])
        ⟨ds, r, _, o4, o5, o6, rfl, rfl, by omega, hds⟩ (by
          intro d hd k ρ T k1 k2 hJ
          obtain ⟨es, q, p2, p4, p5, p6, rfl, rfl, h3, h4⟩ := hJ
          have hk : (upto 0 60).length = 60 := by simp [upto]
          rw [hk] at k2
          by_cases hq : q = 0
          · subst hq
            simp
            exact ⟨es, 0, p2, some (.v d), p5, p6, rfl, rfl, by omega, h4⟩
          · have hz : es.length < lim := lt_lim (by omega)
            simp [hq, gMod_int, gDiv_int, arK, hApp, hz]
            exact ⟨es ++ [q.fmod 1000], q.fdiv 1000, p2, some (.v d), p5, p6, rfl, by simp, by simp; omega, Dr1.app h4 (by
              intro z hz
              rw [List.mem_singleton] at hz
              subst hz
              exact fmod_pos (by decide))⟩)
      have hk : (upto 0 60).length = 60 := by simp [upto]
      rw [hk] at h6
      have hf : fits62 60 = true := by decide
      simp [e0, hb, rng1, hf, e1]
      exact ⟨es, p2, some (.v (.int r')), p4, p5, p6, rfl, rfl, by omega, h4⟩
    · have hz : ds.length + 3 ≤ lim := le_lim (by omega)
      have h3 : (3 : Nat) ≤ lim := le_lim (by omega)
      simp [e0, hb, gMod_int, gMulI_r (show big 48271 = true by decide), gMulI_r (show big 69621 = true by decide), hExt, hz, h3]
      exact ⟨ds ++ [r.fmod 1000, ((r * 48271 + 11).fmod 2147483647).fmod 1000, (((r * 48271 + 11).fmod 2147483647 * 69621 + r).fmod 2147483629).fmod 1000], some (.v (.int n)), some (.v (.int r)), o4, some (.v (.int ((r * 48271 + 11).fmod 2147483647))), some (.v (.int (((r * 48271 + 11).fmod 2147483647 * 69621 + r).fmod 2147483629))), rfl, by simp, by simp; omega, Dr1.app hds (by
        intro z hz
        simp only [List.mem_cons, List.not_mem_nil, or_false] at hz
        rcases hz with rfl | rfl | rfl <;> exact fmod_pos (by decide))⟩
  obtain ⟨j, ρ', S', e1, ⟨ds, o2, o3, o4, o5, o6, rfl, rfl, hl, hds⟩, _, hj⟩ := main
  rw [List.length_map] at hj
  refine ⟨ds.reverse, ?_, ⟨by rw [List.length_reverse]; omega, fun d hd => hds d (List.mem_reverse.mp hd)⟩, by rw [List.length_reverse]; omega⟩
  have h0 : (0 : Nat) ≤ lim := Nat.zero_le _
  have ek : ∀ (o : List (Option Val)) (T : Sto), mItA (mV 0) (some (.v (.kl (ns.map D.int))) :: o) T = .ok (.fix (ns.map D.int)) T := fun o T => itA_kl rfl
  simp [body__law_draws, ek, e1, arK, hRev, fin]
theorem more_ok {S : Sto} {n : Nat} {m : Int} (h : AtD S n) (h0 : 0 ≤ m) (hm : m ≤ 40000) (hlen : ∀ ds : List Int, S[n]? = some (some (.li (ds.map D.int))) → ds.length ≤ 50000) :
    ∃ (ds : List Int) (S' : Sto), f__law_more [.l n, .v (.int m)] S = .ok (.n (.li (ds.map D.int))) S' ∧ Stp n S S' ∧ Dr ds ∧ ds.length ≤ 50000 + m.toNat := by
  rw [show f__law_more [.l n, .v (.int m)] S = leave S.length (body__law_more [some (.l n), some (.v (.int m)), none, none, none] S) from rfl]
  obtain ⟨i, S1, e1, s1, i1, i2⟩ := next_ok h
  have a1 := s1.at_ h
  obtain ⟨j, S2, e2, s2, j1, j2⟩ := next_ok a1
  have a2 := s2.at_ a1
  have s12 := s1.trans s2
  have n2 : n < S2.length := a2.lt
  obtain ⟨es, he, hes⟩ := a2
  have hes2 : es.length ≤ 50000 := by
    obtain ⟨ds0, hd0, _⟩ := h
    have l0 := hlen ds0 hd0
    -- what is left is no longer than it was
    have p1 : ∀ (T T' : Sto) (i : Int) (ds : List Int), T[n]? = some (some (.li (ds.map D.int))) → f__law_next [.l n] T = .ok (.v (.int i)) T' → ∃ ds' : List Int, T'[n]? = some (some (.li (ds'.map D.int))) ∧ ds'.length ≤ ds.length := by
      intro T T' i ds hT hf
      have hlt : n < T.length := (List.getElem?_eq_some_iff.mp hT).1
      rw [show f__law_next [.l n] T = leave T.length (body__law_next [some (.l n)] T) from rfl] at hf
      by_cases hz : ds = []
      · subst hz
        simp [body__law_next, hT, truB, List.take_of_length_le] at hf
        obtain ⟨_, rfl⟩ := hf
        exact ⟨[], hT, Nat.le_refl _⟩
      · have hp : 0 < ds.length := List.length_pos_iff.mpr hz
        have e2 : ds[ds.length - 1]? = some ds[ds.length - 1] := List.getElem?_eq_getElem (by omega)
        have hb : (!(ds.map D.int).isEmpty) = true := by
          cases ds with
          | nil => exact absurd rfl hz
          | cons a r => rfl
        simp only [obD_li, liAt_ap, body__law_next, sSeq_ap, sIf_ap, mTru_ap, mV_ap, List.getElem?_cons_zero, bind_ok, pk_l, hT, truB, hb, ofR_ok, if_true, sRet_ap, mMut_ap, mNil_ap, arK, dats_nil, hPop, List.length_map, List.getElem?_map, e2, Option.map_some, leave_rt, fin_v] at hf
        injection hf with _ hT'
        subst hT'
        rw [List.take_of_length_le (by simp), List.getElem?_set_self hlt, ← List.map_dropLast]
        exact ⟨_, rfl, by simp⟩
    obtain ⟨d1, q1, l1⟩ := p1 _ _ _ _ hd0 e1
    obtain ⟨d2, q2, l2⟩ := p1 _ _ _ _ q1 e2
    rw [q2] at he
    injection he with he
    injection he with he
    have := congrArg List.length (Ob.li.inj he)
    simp at this
    omega
  let I : Nat → MEnv → Sto → Prop := fun k ρ T => ∃ (r : Int) (o4 : Option Val) (ds : List Int), ρ = [some (.l n), some (.v (.int m)), some (.v (.int r)), some (.l S2.length), o4] ∧ T = S2 ++ [some (.li (ds.map D.int))] ∧ ds.length = k ∧ ∀ d ∈ ds, 0 ≤ d ∧ d < 1000
  obtain ⟨k, ρ', T', e3, ⟨r, o4, ds, rfl, rfl, hk, hds⟩, _, hk2⟩ := forL_nx (g := gN 4) (body := (sSeq (sSet 2 (mOp gMod (mB (g1 intD) (mCons (mOp gAdd (mOp gMulA (mV 2) (mC (.int 48271))) (mC (.int 12345))) mNil)) (mC (.int 2147483647))))
      (sExpr (mMut arK hApp (mV 3) (mCons (mOp gMod (mB (g1 intD) (mCons (mOp gDiv (mV 2) (mC (.int 7))) mNil)) (mC (.int 1000))) mNil))))) I (upto 0 m.toNat) 0
      [some (.l n), some (.v (.int m)), some (.v (.int (1000 * i + j + 1))), some (.l S2.length), none] (S2 ++ [some (.li [])]) ⟨_, none, [], rfl, rfl, rfl, by simp⟩ (by
    intro d hd k ρ T k1 k2 hI
    obtain ⟨r, o4, ds, rfl, rfl, hk, hds⟩ := hI
    have hul : (upto 0 m.toNat).length = m.toNat := by simp [upto]
    rw [hul] at k2
    have hz : ds.length < lim := lt_lim (by omega)
    simp [gMod_int, gDiv_int, gMulI_r (show big 48271 = true by decide), arK, hApp, hz]
    exact ⟨(r * 48271 + 12345).fmod 2147483647, some (.v d), ds ++ [(((r * 48271 + 12345).fmod 2147483647).fdiv 7).fmod 1000], rfl, by simp, by simp [hk], Dr1.app hds (by
      intro z hz
      rw [List.mem_singleton] at hz
      subst hz
      exact fmod_pos (by decide))⟩)
  have hul : (upto 0 m.toNat).length = m.toNat := by simp [upto]
  rw [hul] at hk2
  have hf : fits62 m = true := by
    rw [fits62_iff]
    omega
  have hcat : (ds ++ es).length ≤ lim := le_lim (by rw [List.length_append]; omega)
  have he' : (S2 ++ [some (.li (ds.map D.int))])[n]? = some (some (.li (es.map D.int))) := by rw [List.getElem?_append_left n2]; exact he
  refine ⟨ds ++ es, S2, ?_, s12, ⟨by rw [List.length_append]; omega, Dr1.app hds hes.2⟩, by rw [List.length_append]; omega⟩
  have hl : ds.length + es.length ≤ lim := by rw [← List.length_append]; exact hcat
  have l2 : S2.length = S.length := s12.length
  rw [l2] at e3
  have g3 : (S2 ++ [some (.li (ds.map D.int))])[S.length]? = some (some (.li (ds.map D.int))) := by rw [← l2]; simp
  simp [body__law_more, e1, e2, gMulI_l (show big 1000 = true by decide), rng1, hf, e3, he', g3, gAdd_lst, hl, l2]
theorem fmod_len {i : Int} {n : Nat} (h : 0 < n) : ∃ j : Nat, i.fmod n = j ∧ j < n := by
  obtain ⟨h1, h2⟩ := fmod_pos (a := i) (b := n) (by omega)
  exact ⟨(i.fmod n).toNat, by omega, by omega⟩
theorem atI_ofNat {α : Type} {xs : List α} {j : Nat} (h : j < xs.length) : L2.atI xs (j : Int) = some xs[j] := by
  rw [L2.atI_nat (j := j) (List.getElem?_eq_getElem h)]
theorem pick_ok {S : Sto} {n : Nat} {xs : List D} (h : AtD S n) (hx : xs ≠ []) (hl : xs.length ≤ 100000) : ∃ (x : D) (S' : Sto), f__law_pick [.l n, .v (.lst xs)] S = .ok (.v x) S' ∧ Stp n S S' ∧ x ∈ xs := by
  rw [show f__law_pick [.l n, .v (.lst xs)] S = leave S.length (body__law_pick [some (.l n), some (.v (.lst xs))] S) from rfl]
  obtain ⟨i, S1, e1, s1, i1, i2⟩ := next_ok h
  have h0 : 0 < xs.length := List.length_pos_iff.mpr hx
  obtain ⟨j, ej, hj⟩ := fmod_len (i := i) h0
  refine ⟨xs[j], S1, ?_, s1, List.getElem_mem hj⟩
  have hl2 : xs.length ≤ lim := le_lim (by omega)
  have hne : (xs.length : Int) ≠ 0 := by omega
  have len : g1 lenD [.lst xs] = some (.v (.int xs.length)) := by
    first | rfl | simp [g1, lenD, hl2]
  have l1 : S1.length = S.length := s1.length
  simp [body__law_pick, e1, len, gMod_int hne, ej, gIx, gIx0, atI_ofNat hj, ← l1]
end PR
end M

namespace M
open PySem PySem.Spec PyProof.Rows L2

/-! ### good data: what ==, !=, repr answer for -/
mutual
def D.ok : D → Bool
  | .non => true
  | .bl _ => true
  | .int i => decide (i.natAbs < 1000000000000000000000000000000000000000000000000000000000000)
  | .str x => PyData.strOk x
  | .tup ds => D.oks ds
  | .lst ds => D.oks ds
  | .fn _ => false
  | .kl _ => false
  | .raw _ => false
  | .fdk _ _ => false
  | .fdt _ _ => false
def D.oks : List D → Bool
  | [] => true
  | d :: ds => D.ok d && D.oks ds
end
mutual
def D.dep : D → Nat
  | .tup ds => D.deps ds + 1
  | .lst ds => D.deps ds + 1
  | _ => 0
def D.deps : List D → Nat
  | [] => 0
  | d :: ds => max (D.dep d) (D.deps ds)
end
mutual
def D.wt : D → Nat
  | .int i => if i.natAbs < 1000000000000 then 41 else 201
  | .str x => x.cps.size
  | .tup ds => D.wts ds
  | .lst ds => D.wts ds
  | _ => 0
def D.wts : List D → Nat
  | [] => 0
  | d :: ds => D.wt d + 1 + D.wts ds
end
theorem log_in {i : Int} {n : Nat} (h : i.natAbs < 2 ^ n) : (if i == 0 then 0 else i.natAbs.log2 + 1) ≤ n := by
  by_cases h0 : i = 0
  · subst h0
    exact Nat.zero_le _
  · have hne : i.natAbs ≠ 0 := by omega
    have : i.natAbs.log2 < n := (Nat.log2_lt hne).mpr h
    split <;> omega
/-- good data as PyData -/
structure Py (p : PyData) (d : D) : Prop where
  eq : D.py d = some p
  lay : p.canLay0 = true
  short : p.intsShort 61 = true
  depth : p.depth = d.dep
  wt : p.weight ≤ d.wt
structure Pys (ps : List PyData) (ds : List D) : Prop where
  eq : D.pys ds = some ps
  lay : PyData.canLayAll0 ps = true
  short : PyData.intsShortAll 61 ps = true
  depth : PyData.depthAll ps = D.deps ds
  wt : PyData.weightAll ps ≤ D.wts ds
mutual
theorem D.good : ∀ (d : D), d.ok = true → ∃ p, Py p d
  | .non, _ => ⟨.none, by simp only [D.py], rfl, rfl, rfl, Nat.le_refl _⟩
  | .bl b, _ => ⟨.bool b, by simp only [D.py], rfl, rfl, rfl, Nat.le_refl _⟩
  | .int i, h => by
    have h' : i.natAbs < 1000000000000000000000000000000000000000000000000000000000000 := by simpa only [D.ok, decide_eq_true_eq] using h
    refine ⟨.int i, by simp only [D.py], rfl, ?_, rfl, ?_⟩
    · simp only [PyData.intsShort, PyData.shown]
      refine decide_eq_true ?_
      rw [PySem.ofString_length]
      exact int_text_length_le10 (k := 60) (by decide) (Nat.lt_of_lt_of_le h' (by decide))
    · simp only [PyData.weight, D.wt]
      by_cases h2 : i.natAbs < 1000000000000
      · rw [if_pos h2]
        exact log_in (n := 41) (Nat.lt_of_lt_of_le h2 (by decide))
      · rw [if_neg h2]
        exact log_in (n := 201) (Nat.lt_of_lt_of_le h' (by decide))
  | .str x, h => ⟨.str x, by simp only [D.py], by simpa only [PyData.canLay0, D.ok] using h, rfl, rfl, by simp only [PyData.weight, D.wt]; exact Nat.le_refl _⟩
  | .tup ds, h => by
    obtain ⟨ps, h1⟩ := D.goods ds (by simpa only [D.ok] using h)
    refine ⟨.tuple ps, by simp only [D.py, h1.eq, Option.map_some], by simpa only [PyData.canLay0] using h1.lay, by simpa only [PyData.intsShort] using h1.short, by simp only [PyData.depth, D.dep, h1.depth], by simp only [PyData.weight, D.wt]; exact h1.wt⟩
  | .lst ds, h => by
    obtain ⟨ps, h1⟩ := D.goods ds (by simpa only [D.ok] using h)
    refine ⟨.list ps, by simp only [D.py, h1.eq, Option.map_some], by simpa only [PyData.canLay0] using h1.lay, by simpa only [PyData.intsShort] using h1.short, by simp only [PyData.depth, D.dep, h1.depth], by simp only [PyData.weight, D.wt]; exact h1.wt⟩
  | .fn _, h => by simp [D.ok] at h
  | .kl _, h => by simp [D.ok] at h
  | .raw _, h => by simp [D.ok] at h
  | .fdk _ _, h => by simp [D.ok] at h
  | .fdt _ _, h => by simp [D.ok] at h
theorem D.goods : ∀ (ds : List D), D.oks ds = true → ∃ ps, Pys ps ds
  | [], _ => ⟨[], by simp only [D.pys], rfl, rfl, rfl, Nat.le_refl _⟩
  | d :: ds, h => by
    simp only [D.oks, Bool.and_eq_true] at h
    obtain ⟨p, h1⟩ := D.good d h.1
    obtain ⟨ps, h2⟩ := D.goods ds h.2
    refine ⟨p :: ps, by simp only [D.pys, h1.eq, h2.eq], by simp only [PyData.canLayAll0, h1.lay, h2.lay, Bool.and_self], by simp only [PyData.intsShortAll, h1.short, h2.short, Bool.and_self], by simp only [PyData.depthAll, D.deps, h1.depth, h2.depth], ?_⟩
    simp only [PyData.weightAll, D.wts]
    have := h1.wt
    have := h2.wt
    omega
end
theorem Py.shaped {p : PyData} {d : D} (h : Py p d) (hd : d.dep ≤ 64) : SeqAt.shaped p = true := by
  unfold SeqAt.shaped
  rw [h.lay, Bool.true_and, decide_eq_true_eq, h.depth]
  exact hd
theorem Py.size {p : PyData} {d : D} (h : Py p d) (hd : d.dep ≤ 64) (hw : d.wt ≤ 220000) : p.shown.length ≤ 13860061 := by
  have h1 := PyData.shown_le 61 (by decide) p (PyData.leavesShort_of_canLay0 61 p h.lay h.short)
  have h2 := h.wt
  have h3 : (61 + 2) * p.weight ≤ 63 * 220000 := Nat.mul_le_mul (by decide) (by omega)
  omega
mutual
theorem showable_of : ∀ (d : D) (p : PyData), d.ok = true → D.py d = some p → p.showable = true
  | .non, p, _, h => by simp only [D.py] at h; cases h; rfl
  | .bl b, p, _, h => by simp only [D.py] at h; cases h; rfl
  | .int i, p, ho, h => by
    simp only [D.py] at h
    cases h
    have h' : i.natAbs < 1000000000000000000000000000000000000000000000000000000000000 := by simpa only [D.ok, decide_eq_true_eq] using ho
    simp only [PyData.showable, decide_eq_true_eq]
    by_cases h0 : i.natAbs = 0
    · rw [h0]; decide
    · exact (Nat.log2_lt h0).mpr (Nat.lt_trans h' (Nat.lt_of_lt_of_le (by decide : 1000000000000000000000000000000000000000000000000000000000000 < 2 ^ 201) (Nat.pow_le_pow_right (by decide : 0 < 2) (by decide : 201 ≤ 1920))))
  | .str x, p, _, h => by simp only [D.py] at h; cases h; rfl
  | .tup ds, p, ho, h => by
    simp only [D.py] at h
    cases hp : D.pys ds with
    | none => rw [hp] at h; cases h
    | some ps =>
      rw [hp] at h
      cases h
      simp only [PyData.showable]
      exact showables_of ds ps (by simpa only [D.ok] using ho) hp
  | .lst ds, p, ho, h => by
    simp only [D.py] at h
    cases hp : D.pys ds with
    | none => rw [hp] at h; cases h
    | some ps =>
      rw [hp] at h
      cases h
      simp only [PyData.showable]
      exact showables_of ds ps (by simpa only [D.ok] using ho) hp
  | .fn _, _, h, _ => by simp [D.ok] at h
  | .kl _, _, h, _ => by simp [D.ok] at h
  | .raw _, _, h, _ => by simp [D.ok] at h
  | .fdk _ _, _, h, _ => by simp [D.ok] at h
  | .fdt _ _, _, h, _ => by simp [D.ok] at h
theorem showables_of : ∀ (ds : List D) (ps : List PyData), D.oks ds = true → D.pys ds = some ps → PyData.showableAll ps = true
  | [], ps, _, h => by simp only [D.pys] at h; cases h; rfl
  | d :: ds, ps, ho, h => by
    simp only [D.oks, Bool.and_eq_true] at ho
    simp only [D.pys] at h
    cases h1 : D.py d with
    | none => rw [h1] at h; cases h
    | some q =>
      cases h2 : D.pys ds with
      | none => rw [h1, h2] at h; cases h
      | some qs =>
        rw [h1, h2] at h
        cases h
        simp only [PyData.showableAll, showable_of d q ho.1 h1, showables_of ds qs ho.2 h2, Bool.and_self]
end
/-- what may be shown and compared -/
structure Gd (d : D) : Prop where
  ok : d.ok = true
  dep : d.dep ≤ 64
  wt : d.wt ≤ 220000
/-- the text that repr gives -/
def shD (d : D) : PySem.Str := match D.py d with
  | some p => p.shown
  | none => ""
theorem Gd.repr {d : D} (h : Gd d) : g1 reprD [d] = some (.v (.str (shD d))) := by
  obtain ⟨p, hp⟩ := D.good d h.ok
  show reprD d = _
  unfold reprD shD
  rw [hp.eq]
  dsimp only
  rw [showable_of d p h.ok hp.eq, if_pos]
  rw [Bool.true_and, Bool.and_eq_true, decide_eq_true_eq, decide_eq_true_eq, hp.depth]
  refine ⟨h.dep, Nat.le_trans (hp.size h.dep h.wt) ?_⟩
  unfold lim
  omega
theorem eqP_self {d : D} (h : d.ok = true) (hd : d.dep ≤ 64) : gPy eqE d d = some (.v (.bl true)) := by
  obtain ⟨p, hp⟩ := D.good d h
  unfold gPy
  rw [hp.eq]
  dsimp only
  rw [hp.shaped hd, if_pos (by rfl)]
  unfold eqE
  rw [SeqAt.eqv_refl p hp.lay]
theorem neP_self {d : D} (h : d.ok = true) (hd : d.dep ≤ 64) : gPy neE d d = some (.v (.bl false)) := by
  obtain ⟨p, hp⟩ := D.good d h
  unfold gPy
  rw [hp.eq]
  dsimp only
  rw [hp.shaped hd, if_pos (by rfl)]
  unfold neE
  rw [SeqAt.eqv_refl p hp.lay]
  rfl
theorem gEq_self {d : D} (h : d.ok = true) (hd : d.dep ≤ 64) : gEq d d = some (.v (.bl true)) := by
  unfold gEq
  split
  · rename_i x y e
    cases e
    rw [decide_eq_true rfl]
  · exact eqP_self h hd
theorem gNe_self {d : D} (h : d.ok = true) (hd : d.dep ≤ 64) : gNe d d = some (.v (.bl false)) := by
  unfold gNe
  split
  · rename_i x y e
    cases e
    rw [decide_eq_true rfl]
    rfl
  · exact neP_self h hd
/-- == of good data answers -/
theorem gEq_any {d e : D} (h : d.ok = true) (hd : d.dep ≤ 64) (h2 : e.ok = true) (hd2 : e.dep ≤ 64) : ∃ b, gEq d e = some (.v (.bl b)) := by
  unfold gEq
  split
  · exact ⟨_, rfl⟩
  · obtain ⟨p, hp⟩ := D.good d h
    obtain ⟨q, hq⟩ := D.good e h2
    unfold gPy
    rw [hp.eq, hq.eq]
    dsimp only
    rw [hp.shaped hd, hq.shaped hd2, if_pos (by rfl)]
    exact ⟨_, rfl⟩
@[simp] theorem gEq_str {x y : PySem.Str} : gEq (.str x) (.str y) = some (.v (.bl (decide (x = y)))) := rfl
@[simp] theorem gNe_str {x y : PySem.Str} : gNe (.str x) (.str y) = some (.v (.bl (!decide (x = y)))) := rfl
theorem oks_iff {ds : List D} : D.oks ds = true ↔ ∀ d ∈ ds, d.ok = true := by
  induction ds with
  | nil => simp [D.oks]
  | cons d ds ih => simp [D.oks, ih]
theorem deps_le {ds : List D} {n : Nat} : D.deps ds ≤ n ↔ ∀ d ∈ ds, d.dep ≤ n := by
  induction ds with
  | nil => simp [D.deps]
  | cons d ds ih => simp [D.deps, ih, Nat.max_le]
theorem wts_le {ds : List D} {n : Nat} (h : ∀ d ∈ ds, d.wt ≤ n) : D.wts ds ≤ ds.length * (n + 1) := by
  induction ds with
  | nil => simp [D.wts]
  | cons d ds ih =>
    have h1 := h d List.mem_cons_self
    have h2 := ih fun d' hd => h d' (List.mem_cons_of_mem _ hd)
    simp only [D.wts, List.length_cons]
    rw [Nat.add_mul, Nat.one_mul]
    omega
end M

namespace M
open PySem PySem.Spec PyProof.Rows L2

theorem wts_mem {ds : List D} {d : D} (h : d ∈ ds) : d.wt + 1 ≤ D.wts ds := by
  induction ds with
  | nil => cases h
  | cons e r ih =>
    simp only [D.wts]
    rcases List.mem_cons.mp h with rfl | h
    · omega
    · have := ih h
      omega
theorem wts_len : ∀ ds : List D, ds.length ≤ D.wts ds
  | [] => Nat.le_refl _
  | d :: ds => by
    have := wts_len ds
    simp only [D.wts, List.length_cons]
    omega
theorem Gd.mem {ds : List D} {d : D} (h : Gd (.tup ds)) (hd : d ∈ ds) : Gd d := by
  have h1 : D.oks ds = true := by simpa only [D.ok] using h.ok
  have h2 : D.deps ds + 1 ≤ 64 := by simpa only [D.dep] using h.dep
  have h3 : D.wts ds ≤ 220000 := by simpa only [D.wt] using h.wt
  exact ⟨oks_iff.mp h1 d hd, (deps_le (n := 64)).mp (by omega) d hd, by have := wts_mem hd; omega⟩
theorem Gd.len {ds : List D} (h : Gd (.tup ds)) : ds.length ≤ lim := by
  have h3 : D.wts ds ≤ 220000 := by simpa only [D.wt] using h.wt
  have := wts_len ds
  unfold lim
  omega
/-! isinstance -/
def isIntD : D → Bool
  | .int _ => true
  | .bl _ => true
  | _ => false
def isTupD : D → Bool
  | .tup _ => true
  | _ => false
theorem isi_int {d : D} (h : d.ok = true) : isiD "int" d = some (.v (.bl (isIntD d))) := by
  cases d <;> first | rfl | (simp [D.ok] at h; done)
theorem isi_tup {d : D} (h : d.ok = true) : isiD "tuple" d = some (.v (.bl (isTupD d))) := by
  cases d <;> first | rfl | (simp [D.ok] at h; done)
/-- all([e for x in it]) -/
theorem all_lc {ρ : MEnv} {S : Sto} {it : IM} {te : VM} {i : Nat} {ds : List D} {p : D → Bool} (hi : it ρ S = .ok (.fix ds) S) (hl : ds.length ≤ lim)
    (ht : ∀ d ∈ ds, te ((wipeM ρ [i]).set i (some (.v d))) S = .ok (.v (.bl (p d))) S) : mB (g1 allD) (mCons (mFz (mLC it (pN i) mYes te [i])) mNil) ρ S = .ok (.v (.bl (ds.all p))) S := by
  have h := lcL_map (ρ := wipeM ρ [i]) (g := pN i) (te := te) (S := S) (F := fun d => .bl (p d)) ds [] (by simpa using hl) fun d hd => ⟨_, rfl, ht d hd⟩
  have e : blsOf (ds.map fun d => D.bl (p d)) = some (ds.map p) := by
    rw [← blsOf_map (ds.map p), List.map_map]
    rfl
  have e2 : g1 allD [.lst (ds.map fun d => D.bl (p d))] = some (.v (.bl (ds.all p))) := by
    show (blsOf (ds.map fun d => D.bl (p d))).map _ = _
    rw [e]
    simp only [Option.map_some, List.all_map]
    rfl
  simp [hi, h, e2]
/-- [e for x in it] that reads only -/
theorem lc_val {ρ : MEnv} {S : Sto} {it : IM} {te : VM} {i : Nat} {ds : List D} {F : D → D} (hi : it ρ S = .ok (.fix ds) S) (hl : ds.length ≤ lim)
    (ht : ∀ d ∈ ds, te ((wipeM ρ [i]).set i (some (.v d))) S = .ok (.v (F d)) S) : mLC it (pN i) mYes te [i] ρ S = .ok (.n (.li (ds.map F))) S := by
  have h := lcL_map (ρ := wipeM ρ [i]) (g := pN i) (te := te) (S := S) (F := F) ds [] (by simpa using hl) fun d hd => ⟨_, rfl, ht d hd⟩
  simp [hi, h]
theorem it_tup {ρ : MEnv} {S : Sto} {j : Nat} {ds : List D} (h : ρ[j]? = some (some (.v (.tup ds)))) : mIt (mV j) ρ S = .ok (.fix ds) S := by simp [h]
theorem it_lst {ρ : MEnv} {S : Sto} {j : Nat} {ds : List D} (h : ρ[j]? = some (some (.v (.lst ds)))) : mIt (mV j) ρ S = .ok (.fix ds) S := by simp [h]
theorem it_str {ρ : MEnv} {S : Sto} {j : Nat} {z : PySem.Str} (h : ρ[j]? = some (some (.v (.str z)))) : mIt (mV j) ρ S = .ok (.fix (chars z)) S := by simp [h]
theorem wipe1 {ρ : MEnv} {i : Nat} : wipeM ρ [i] = ρ.set i none := rfl
@[simp] theorem take_self {S : Sto} : S.take S.length = S := List.take_of_length_le (Nat.le_refl _)
end M
namespace M
open PySem PySem.Spec PyProof.Rows L2
theorem wts_append : ∀ (a b : List D), D.wts (a ++ b) = D.wts a + D.wts b
  | [], b => by simp [D.wts]
  | d :: a, b => by
    simp only [List.cons_append, D.wts, wts_append a b]
    omega
theorem wts_sub {a b : List D} (h : a.Sublist b) : D.wts a ≤ D.wts b := by
  induction h with
  | slnil => exact Nat.le_refl _
  | cons d h ih => simp only [D.wts]; omega
  | cons_cons d h ih => simp only [D.wts]; omega
theorem gEq_tup_nil {ds : List D} (h : Gd (.tup ds)) : gEq (.tup ds) (.tup []) = some (.v (.bl ds.isEmpty)) := by
  obtain ⟨p, hp⟩ := D.good _ h.ok
  show gPy eqE (.tup ds) (.tup []) = _
  have e2 : D.py (.tup []) = some (.tuple []) := by simp only [D.py, D.pys, Option.map_some]
  unfold gPy
  rw [hp.eq, e2]
  dsimp only
  rw [hp.shaped h.dep, if_pos (by rfl)]
  have := hp.eq
  simp only [D.py] at this
  cases hq : D.pys ds with
  | none => rw [hq] at this; cases this
  | some ps =>
    rw [hq] at this
    cases this
    cases ds with
    | nil =>
      simp only [D.pys] at hq
      cases hq
      simp [eqE, PyData.eqv, PyData.eqvAll]
    | cons d r =>
      simp only [D.pys] at hq
      split at hq
      · cases hq
        simp [eqE, PyData.eqv, PyData.eqvAll]
      · cases hq
theorem cut_to {α : Type} {xs : List α} {j : Nat} (h : j ≤ xs.length) : cutD xs none (some (j : Int)) = xs.take j := by
  unfold cutD
  rw [HT.sIx_none, HT.sIx_nat, Nat.min_eq_left h]
  simp
theorem cut_from {α : Type} {xs : List α} {j : Nat} (h : j ≤ xs.length) : cutD xs (some (j : Int)) none = xs.drop j := by
  unfold cutD
  rw [HT.sIx_none, HT.sIx_nat, Nat.min_eq_left h, ← List.length_drop, List.take_length]
theorem cut_one {α : Type} {xs : List α} {j : Nat} (h : j < xs.length) : cutD xs (some (j : Int)) (some ((j : Int) + 1)) = [xs[j]] := by
  unfold cutD
  have e : ((j : Int) + 1) = ((j + 1 : Nat) : Int) := by omega
  rw [e, HT.sIx_nat, HT.sIx_nat, Nat.min_eq_left (by omega), Nat.min_eq_left (by omega), Nat.add_sub_cancel_left, List.drop_eq_getElem_cons h]
  rfl
theorem gd_of {d : D} (h1 : d.ok = true) (h2 : d.dep ≤ 64) (h3 : d.wt ≤ 220000) : Gd d := ⟨h1, h2, h3⟩
end M
namespace M
open PySem PySem.Spec PyProof.Rows L2
/-- the turn goes on with I, or leaves the def with Q -/
def wpQ (r : RS) (I : MEnv → Sto → Prop) (Q : Val → Sto → Prop) : Prop := match r with
  | .nx ρ S => I ρ S
  | .ct ρ S => I ρ S
  | .bk ρ S => I ρ S
  | .rt x S => Q x S
  | _ => False
@[simp] theorem wpQ_nx {ρ : MEnv} {S : Sto} {I : MEnv → Sto → Prop} {Q : Val → Sto → Prop} : wpQ (.nx ρ S) I Q ↔ I ρ S := Iff.rfl
@[simp] theorem wpQ_ct {ρ : MEnv} {S : Sto} {I : MEnv → Sto → Prop} {Q : Val → Sto → Prop} : wpQ (.ct ρ S) I Q ↔ I ρ S := Iff.rfl
@[simp] theorem wpQ_bk {ρ : MEnv} {S : Sto} {I : MEnv → Sto → Prop} {Q : Val → Sto → Prop} : wpQ (.bk ρ S) I Q ↔ I ρ S := Iff.rfl
@[simp] theorem wpQ_rt {x : Val} {S : Sto} {I : MEnv → Sto → Prop} {Q : Val → Sto → Prop} : wpQ (.rt x S) I Q ↔ Q x S := Iff.rfl
theorem forL_or {g : GM} {body : SM} (I : Nat → MEnv → Sto → Prop) (Q : Val → Sto → Prop) : ∀ (ds : List D) (i : Nat) (ρ : MEnv) (S : Sto), I i ρ S →
    (∀ d ∈ ds, ∀ j ρ S, i ≤ j → j < i + ds.length → I j ρ S → wpQ (turn g body d ρ S) (I (j + 1)) Q) →
    (∃ j ρ' S', forL g body ds ρ S = .nx ρ' S' ∧ I j ρ' S' ∧ i ≤ j ∧ j ≤ i + ds.length) ∨ ∃ x S', forL g body ds ρ S = .rt x S' ∧ Q x S'
  | [], i, ρ, S, h, _ => .inl ⟨i, ρ, S, rfl, h, Nat.le_refl _, by simp⟩
  | d :: ds, i, ρ, S, h, hs => by
    have h1 := hs d List.mem_cons_self i ρ S (Nat.le_refl _) (by simp) h
    have go : forL g body (d :: ds) ρ S = onward (turn g body d ρ S) (forL g body ds) := by
      show step g body d ρ S (forL g body ds) = _
      unfold step turn
      cases hg : g d ρ S with
      | ok ρ1 S1 => rfl
      | er e S1 => rfl
      | bad => rfl
    have ih : ∀ ρ2 S2, I (i + 1) ρ2 S2 → (∃ j ρ' S', forL g body ds ρ2 S2 = .nx ρ' S' ∧ I j ρ' S' ∧ i ≤ j ∧ j ≤ i + (d :: ds).length) ∨ ∃ x S', forL g body ds ρ2 S2 = .rt x S' ∧ Q x S' := fun ρ2 S2 h2 => by
      rcases forL_or I Q ds (i + 1) ρ2 S2 h2 fun d' hd j ρ S h1 h3 h4 => hs d' (List.mem_cons_of_mem _ hd) j ρ S (by omega) (by simp; omega) h4 with ⟨j, ρ', S', e3, h3, h4, h5⟩ | h3
      · exact .inl ⟨j, ρ', S', e3, h3, by omega, by simp; omega⟩
      · exact .inr h3
    rw [go]
    cases ht : turn g body d ρ S with
    | nx ρ2 S2 => rw [ht] at h1; exact ih _ _ h1
    | ct ρ2 S2 => rw [ht] at h1; exact ih _ _ h1
    | bk ρ2 S2 =>
      rw [ht] at h1
      exact .inl ⟨i + 1, ρ2, S2, rfl, h1, by omega, by simp⟩
    | rt x S2 => rw [ht] at h1; exact .inr ⟨x, S2, rfl, h1⟩
    | er e ρ2 S2 => rw [ht] at h1; exact h1.elim
    | bad => rw [ht] at h1; exact h1.elim
/-! texts -/
theorem chars_len {z : PySem.Str} : (chars z).length = z.length := by
  unfold chars
  rw [List.length_map, Array.length_toList]
  rfl
/-- a test of a text's signs -/
def onC (p : Nat → Bool) : D → Bool
  | .str x => (match x.cps.toList with
    | [c] => p c
    | _ => false)
  | _ => false
theorem chars_all {z : PySem.Str} {p : Nat → Bool} : (chars z).all (onC p) = z.cps.toList.all p := by
  unfold chars
  rw [List.all_map]
  rfl
theorem chars_mem {z : PySem.Str} {d : D} (h : d ∈ chars z) : ∃ c, c ∈ z.cps.toList ∧ d = .str ⟨#[c]⟩ := by
  unfold chars at h
  obtain ⟨c, hc, rfl⟩ := List.mem_map.mp h
  exact ⟨c, hc, rfl⟩
theorem gIn_c {c : Nat} {z : PySem.Str} : gIn false (.str ⟨#[c]⟩) (.str z) = some (.v (.bl (decide (c ∈ z.cps.toList)))) := rfl
@[simp] theorem gLe_str {x y : PySem.Str} : gLe (.str x) (.str y) = some (.v (.bl (!ltS y x))) := rfl
@[simp] theorem gLt_str {x y : PySem.Str} : gLt (.str x) (.str y) = some (.v (.bl (ltS x y))) := rfl
theorem len_str {z : PySem.Str} (h : z.length ≤ lim) : g1 lenD [.str z] = some (.v (.int z.length)) := if_pos h
theorem strOk_iff {z : PySem.Str} : PyData.strOk z = true ↔ ∀ c ∈ z.cps.toList, c < 0x110000 := by
  unfold PyData.strOk
  rw [Array.all_eq_true']
  simp
end M

namespace M
open PySem PySem.Spec PyProof.Rows L2
/-! ### going through a body statement by statement -/
/-- the statement goes on with N or returns with T -/
def WP (r : RS) (N : MEnv → Sto → Prop) (T : Val → Sto → Prop) : Prop := match r with
  | .nx ρ S => N ρ S
  | .rt x S => T x S
  | _ => False
/-- the turn goes on (no break), with I -/
def wpN (r : RS) (I : MEnv → Sto → Prop) : Prop := match r with
  | .nx ρ S => I ρ S
  | .ct ρ S => I ρ S
  | _ => False
@[simp] theorem wpN_nx {ρ : MEnv} {S : Sto} {I : MEnv → Sto → Prop} : wpN (.nx ρ S) I ↔ I ρ S := Iff.rfl
@[simp] theorem wpN_ct {ρ : MEnv} {S : Sto} {I : MEnv → Sto → Prop} : wpN (.ct ρ S) I ↔ I ρ S := Iff.rfl
theorem wpN_seq {a b : SM} {ρ : MEnv} {S : Sto} {I : MEnv → Sto → Prop} (h : WP (a ρ S) (fun ρ1 S1 => wpN (b ρ1 S1) I) (fun _ _ => False)) : wpN (sSeq a b ρ S) I := by
  unfold sSeq
  cases q : a ρ S with
  | nx ρ1 S1 => rw [q] at h; exact h
  | _ => rw [q] at h; exact h.elim
section
variable {N M : MEnv → Sto → Prop} {T : Val → Sto → Prop} {ρ ρ' : MEnv} {S S' : Sto} {a b : SM}
@[simp] theorem WP_nx : WP (.nx ρ S) N T ↔ N ρ S := Iff.rfl
@[simp] theorem WP_rt {x : Val} : WP (.rt x S) N T ↔ T x S := Iff.rfl
@[simp] theorem WP_er {e : Exc} : WP (.er e ρ S) N T ↔ False := Iff.rfl
@[simp] theorem WP_bad : WP .bad N T ↔ False := Iff.rfl
theorem wp_seq (h : WP (a ρ S) (fun ρ1 S1 => WP (b ρ1 S1) N T) T) : WP (sSeq a b ρ S) N T := by
  unfold sSeq
  cases q : a ρ S with
  | nx ρ1 S1 => rw [q] at h; exact h
  | rt x S1 => rw [q] at h; exact h
  | bk ρ1 S1 => rw [q] at h; exact h
  | ct ρ1 S1 => rw [q] at h; exact h
  | er e ρ1 S1 => rw [q] at h; exact h
  | bad => rw [q] at h; exact h
theorem WP_mono {r : RS} {N' : MEnv → Sto → Prop} (h : WP r M T) (k : ∀ ρ S, M ρ S → N' ρ S) : WP r N' T := by
  cases r with
  | nx ρ S => exact k _ _ h
  | rt x S => exact h
  | _ => exact h.elim
/-- the statement is known to lead to a state -/
theorem wp_to (e : a ρ S = .nx ρ' S') (k : WP (b ρ' S') N T) : WP (sSeq a b ρ S) N T := wp_seq (by rw [e]; exact k)
/-- .. to a state with M -/
theorem wp_via (M : MEnv → Sto → Prop) (h : WP (a ρ S) M T) (k : ∀ ρ S, M ρ S → WP (b ρ S) N T) : WP (sSeq a b ρ S) N T := wp_seq (WP_mono h k)
theorem wp_for {it : IM} {g : GM} {body : SM} {ds : List D} {S0 : Sto} (I : Nat → MEnv → Sto → Prop) (hi : it ρ S = .ok (.fix ds) S0) (h0 : I 0 ρ S0)
    (hs : ∀ d ∈ ds, ∀ j ρ S, j < ds.length → I j ρ S → wpL (turn g body d ρ S) (I (j + 1))) (k : ∀ j ρ S, j ≤ ds.length → I j ρ S → N ρ S) : WP (sFor it g body ρ S) N T := by
  obtain ⟨j, ρ1, S1, e, h1, _, h3⟩ := forL_nx (g := g) (body := body) I ds 0 ρ S0 h0 fun d hd j ρ S _ h4 h5 => hs d hd j ρ S (by omega) h5
  rw [sFor_ap, hi]
  show WP (forL g body ds ρ S0) N T
  rw [e]
  exact k j ρ1 S1 (by omega) h1
/-- all turns, one after the other, with the index of the item -/
theorem wp_forI {it : IM} {g : GM} {body : SM} {ds : List D} {S0 : Sto} (I : Nat → MEnv → Sto → Prop) (hi : it ρ S = .ok (.fix ds) S0) (h0 : I 0 ρ S0)
    (hs : ∀ j d ρ S, ds[j]? = some d → I j ρ S → wpN (turn g body d ρ S) (I (j + 1))) (k : ∀ ρ S, I ds.length ρ S → N ρ S) : WP (sFor it g body ρ S) N T := by
  have main : ∀ (es : List D) (i : Nat) (ρ : MEnv) (S : Sto), (∀ j, es[j]? = ds[i + j]?) → i + es.length = ds.length → I i ρ S → ∃ ρ' S', forL g body es ρ S = .nx ρ' S' ∧ I ds.length ρ' S' := by
    intro es
    induction es with
    | nil =>
      intro i ρ S he hl h
      simp at hl
      subst hl
      exact ⟨ρ, S, rfl, h⟩
    | cons d es ih =>
      intro i ρ S he hl h
      have h1 := hs i d ρ S (by have := he 0; simpa using this.symm) h
      have go : forL g body (d :: es) ρ S = onward (turn g body d ρ S) (forL g body es) := by
        show step g body d ρ S (forL g body es) = _
        unfold step turn
        cases hg : g d ρ S <;> rfl
      rw [go]
      cases ht : turn g body d ρ S with
      | nx ρ2 S2 =>
        rw [ht] at h1
        exact ih (i + 1) ρ2 S2 (fun j => by have := he (j + 1); rw [List.getElem?_cons_succ] at this; rw [this]; congr 1; omega) (by simp at hl; omega) h1
      | ct ρ2 S2 =>
        rw [ht] at h1
        exact ih (i + 1) ρ2 S2 (fun j => by have := he (j + 1); rw [List.getElem?_cons_succ] at this; rw [this]; congr 1; omega) (by simp at hl; omega) h1
      | _ => rw [ht] at h1; exact h1.elim
  obtain ⟨ρ1, S1, e, h1⟩ := main ds 0 ρ S0 (fun j => by simp) (by simp) h0
  rw [sFor_ap, hi]
  show WP (forL g body ds ρ S0) N T
  rw [e]
  exact k ρ1 S1 h1
end
end M

namespace M
open PySem PySem.Spec PyProof.Rows L2 PR
/-! ### more plain laws: slices, numbers -/
theorem rev_pick {α : Type} {xs : List α} : ∀ (n : Nat), n ≤ xs.length → (List.range n).filterMap (fun k => xs[xs.length - 1 - k]?) = xs.reverse.take n := by
  intro n
  induction n with
  | zero => intro _; simp
  | succ n ih =>
    intro hn
    rw [List.range_succ, List.filterMap_append, ih (by omega), List.take_add_one, List.getElem?_reverse (by omega)]
    congr 1
theorem rev_step {α : Type} (xs : List α) : pickD xs none none (-1) = xs.reverse := by
  unfold pickD stepIx
  rw [PySem.W.krv_bounds]
  dsimp only
  rw [PySem.W.krv_sliceRange, List.filterMap_map]
  exact (rev_pick _ (Nat.le_refl _)).trans (List.take_of_length_le (by simp))
theorem gSl3_rev {ds : List D} (h : ds.length ≤ lim) : gSl3 none none (some (-1)) (.lst ds) = some (.n (.li ds.reverse)) := by
  show (if (-1 : Int) ≠ 0 ∧ (pickD ds none none (-1)).length ≤ lim then some (Val.n (.li (pickD ds none none (-1)))) else none) = _
  rw [rev_step, if_pos ⟨by decide, by simpa using h⟩]
@[simp] theorem gNeg_int {i : Int} : gNeg (.int i) = some (.v (.int (-i))) := rfl
@[simp] theorem bitsD_int {i : Int} : bitsD (.int i) = some (.v (.int (Builtin.Int.intBits i : Nat))) := rfl
@[simp] theorem gXor_int {i j : Int} : gXor (.int i) (.int j) = some (.v (.int (Builtin.bitXor i j))) := rfl
@[simp] theorem gMin2_int {i j : Int} : gMin2 [.int i, .int j] = some (.v (.int (if j < i then j else i))) := rfl
@[simp] theorem gMax2_int {i j : Int} : gMax2 [.int i, .int j] = some (.v (.int (if j > i then j else i))) := rfl
@[simp] theorem intD_bl {b : Bool} : g1 intD [.bl b] = some (.v (.int (if b then 1 else 0))) := rfl
theorem gDiv2 {i : Int} : gDiv (.int i) (.int 2) = some (.v (.int (i / 2))) := by
  rw [gDiv_int (by decide) (by decide), Int.fdiv_eq_ediv_of_nonneg _ (by decide)]
theorem gMod2 {i : Int} : gMod (.int i) (.int 2) = some (.v (.int (i % 2))) := by
  rw [gMod_int (by decide), Int.fmod_eq_emod_of_nonneg _ (by decide)]
theorem gShr_int {i j : Int} (h : 0 ≤ j) : gShr (.int i) (.int j) = some (.v (.int (i / 2 ^ j.toNat))) := if_pos h
theorem gShl_int {i j : Int} (h : 0 ≤ j) (h2 : j ≤ 1000000) (h3 : i.natAbs < 18446744073709551616) : gShl (.int i) (.int j) = some (.v (.int (i * 2 ^ j.toNat))) := if_pos ⟨h, h2, h3⟩
@[simp] theorem gTl_ap {n : Nat} {g : GMs} {ds : List D} {ρ : MEnv} {S : Sto} : gTl n g (.lst ds) ρ S = if ds.length = n then g ds ρ S else .bad := rfl
@[simp] theorem gT_ap {n : Nat} {g : GMs} {ds : List D} {ρ : MEnv} {S : Sto} : gT n g (.tup ds) ρ S = if ds.length = n then g ds ρ S else .bad := rfl
@[simp] theorem gsC_ap {f : GM} {g : GMs} {d : D} {r : List D} {ρ : MEnv} {S : Sto} : gsC f g (d :: r) ρ S = (f d ρ S).bind fun ρ1 S1 => g r ρ1 S1 := rfl
@[simp] theorem gsN_ap {ρ : MEnv} {S : Sto} : gsN [] ρ S = .ok ρ S := rfl
@[simp] theorem pN_ap {i : Nat} {d : D} {ρ : MEnv} : pN i d ρ = some (ρ.set i (some (.v d))) := rfl
theorem fits_nat {n : Nat} (h : n ≤ 1000000000) : fits62 (n : Int) = true := by
  rw [fits62_iff]
  omega
theorem fits_int {n : Int} (h0 : -1000000000 ≤ n) (h : n ≤ 1000000000) : fits62 n = true := by
  rw [fits62_iff]
  omega
theorem sTryK_ap {tab : KTab} {i : Nat} {f : SM} {ρ : MEnv} {S : Sto} : sTryK tab i f ρ S = (match f ρ S with
  | .er e ρ1 S1 => (match e.fld with
    | none => (match tab.lookup e.cls with
      | some r => if i < ρ1.length then .rt (.v (.str r)) S1 else .bad
      | none => .bad)
    | some _ => .bad)
  | r => r) := rfl
theorem len_upto {lo : Int} {n : Nat} : (upto lo n).length = n := by simp [upto]
theorem upto_at {lo : Int} {n j : Nat} (h : j < n) : (upto lo n)[j]? = some (.int (lo + j)) := by
  unfold upto
  rw [List.getElem?_map, List.getElem?_range h]
  rfl
/-! checks: if repr(e) != repr(f): return False -/
theorem same_repr {e f : VM} {ρ : MEnv} {S S1 S2 : Sto} {d : D} (h1 : e ρ S = .ok (.v d) S1) (h2 : f ρ S1 = .ok (.v d) S2) (g : Gd d) : mTB (mOp gNe (mB (g1 reprD) (mCons e mNil)) (mB (g1 reprD) (mCons f mNil))) ρ S = .ok false S2 := by
  have r := g.repr
  simp [h1, h2, r]
theorem chk {t : TM} {a : SM} {ρ : MEnv} {S S1 : Sto} (h : t ρ S = .ok false S1) : sIf t a sSkip ρ S = .nx ρ S1 := by simp [h]
theorem gd_ints {ns : List Int} (h : ∀ n ∈ ns, n.natAbs < 1000000000000) (hl : ns.length ≤ 5000) : Gd (.tup (ns.map D.int)) ∧ Gd (.lst (ns.map D.int)) := by
  have o : D.oks (ns.map D.int) = true := oks_iff.mpr fun d hd => by
    obtain ⟨n, hn, rfl⟩ := List.mem_map.mp hd
    simp only [D.ok, decide_eq_true_eq]
    exact Nat.lt_of_lt_of_le (h n hn) (by decide)
  have e : D.deps (ns.map D.int) ≤ 0 := deps_le.mpr fun d hd => by
    obtain ⟨n, hn, rfl⟩ := List.mem_map.mp hd
    exact Nat.le_refl _
  have w : D.wts (ns.map D.int) ≤ (ns.map D.int).length * 42 := wts_le (n := 41) fun d hd => by
    obtain ⟨n, hn, rfl⟩ := List.mem_map.mp hd
    simp only [D.wt]
    rw [if_pos (h n hn)]
    exact Nat.le_refl _
  rw [List.length_map] at w
  exact ⟨⟨by simpa only [D.ok] using o, by simp only [D.dep]; omega, by simp only [D.wt]; omega⟩, ⟨by simpa only [D.ok] using o, by simp only [D.dep]; omega, by simp only [D.wt]; omega⟩⟩
theorem gd_int {i : Int} (h : i.natAbs < 1000000000000) : Gd (.int i) := ⟨by
  simp only [D.ok, decide_eq_true_eq]
  exact Nat.lt_of_lt_of_le h (by decide), Nat.zero_le _, by
  simp only [D.wt]
  split <;> omega⟩
theorem gd_big {ns : List Int} (h : ∀ n ∈ ns, n.natAbs < 1000000000000000000000000000000000000000000000000000000000000) (hl : ns.length ≤ 1000) : Gd (.lst (ns.map D.int)) := by
  have o : D.oks (ns.map D.int) = true := oks_iff.mpr fun d hd => by
    obtain ⟨n, hn, rfl⟩ := List.mem_map.mp hd
    simp only [D.ok, decide_eq_true_eq]
    exact h n hn
  have e : D.deps (ns.map D.int) ≤ 0 := deps_le.mpr fun d hd => by
    obtain ⟨n, hn, rfl⟩ := List.mem_map.mp hd
    exact Nat.le_refl _
  have w : D.wts (ns.map D.int) ≤ (ns.map D.int).length * 202 := wts_le (n := 201) fun d hd => by
    obtain ⟨n, hn, rfl⟩ := List.mem_map.mp hd
    simp only [D.wt]
    split <;> omega
  rw [List.length_map] at w
  exact ⟨by simpa only [D.ok] using o, by simp only [D.dep]; omega, by simp only [D.wt]; omega⟩
/-! the store of a law: places 0 and 1, the draws stand at 1 -/
def IS (a : Option Ob) (S : Sto) : Prop := ∃ es : List Int, S = [a, some (.li (es.map D.int))] ∧ PR.Dr es
theorem IS.at_ {a : Option Ob} {S : Sto} (h : IS a S) : PR.AtD S 1 := by
  obtain ⟨es, rfl, d⟩ := h
  exact ⟨es, rfl, d⟩
theorem IS.stp {a : Option Ob} {S S' : Sto} (h : IS a S) (s : PR.Stp 1 S S') : IS a S' := by
  obtain ⟨es, rfl, d⟩ := h
  obtain ⟨fs, rfl, d2⟩ := s
  exact ⟨fs, rfl, d2⟩
theorem IS.next {a : Option Ob} {S : Sto} (h : IS a S) : ∃ (i : Int) (S' : Sto), PR.f__law_next [.l 1] S = .ok (.v (.int i)) S' ∧ IS a S' ∧ 0 ≤ i ∧ i < 1000 := by
  obtain ⟨i, S', e, s, h1, h2⟩ := PR.next_ok h.at_
  exact ⟨i, S', e, h.stp s, h1, h2⟩
/-- the beginning of each law: the draws -/
theorem start_ok {ns : List Int} (hn : ns.length ≤ 63) {m : Int} (h0 : 0 ≤ m) (hm : m ≤ 40000) : ∃ (ds : List Int) (a : Option Ob) (es : List Int), PR.f__law_draws [.v (.kl (ns.map D.int))] [] = .ok (.n (.li (ds.map D.int))) [] ∧
    PR.f__law_more [.l 0, .v (.int m)] [some (.li (ds.map D.int))] = .ok (.n (.li (es.map D.int))) [a] ∧ PR.Dr es := by
  obtain ⟨ds, e1, d1, l1⟩ := PR.draws_ok (S := []) hn
  obtain ⟨es, S2, e2, s2, d2, _⟩ := PR.more_ok (S := [some (.li (ds.map D.int))]) (n := 0) (m := m) ⟨ds, rfl, d1⟩ h0 hm (fun ds' h => by
    have h' : ds.map D.int = ds'.map D.int := Ob.li.inj (Option.some.inj (Option.some.inj h))
    have := congrArg List.length h'
    simp only [List.length_map] at this
    omega)
  obtain ⟨fs, rfl, _⟩ := s2
  exact ⟨ds, some (.li (fs.map D.int)), es, e1, e2, d2⟩
/-- how a law ends -/
theorem law_end_of {r : RS} (h : WP r (fun _ _ => False) (fun x _ => x = .v (.bl true))) : ∃ S, leave 0 r = .ok (.v (.bl true)) S := by
  cases r with
  | rt x S =>
    have e : x = .v (.bl true) := h
    subst e
    exact ⟨S.take 0, rfl⟩
  | _ => exact h.elim
/-- a comprehension over draws -/
theorem lcL_draw {a : Option Ob} {ρ : MEnv} {g : GP} {te : VM} (P : D → D → Prop) {ds : List D} {S : Sto} (h : IS a S) (hl : ds.length ≤ lim)
    (hs : ∀ d ∈ ds, ∀ S, IS a S → ∃ ρ1 y S', g d ρ = some ρ1 ∧ te ρ1 S = .ok (.v y) S' ∧ IS a S' ∧ P d y) :
    ∃ ys S', lcL ρ g mYes te ds [] S = .ok (.n (.li ys)) S' ∧ IS a S' ∧ ys.length = ds.length ∧ (∀ y ∈ ys, ∃ d ∈ ds, P d y) := by
  obtain ⟨ys, S', e, i, hl, hp⟩ := lcL_ok (IS a) P ds [] S h (by simpa using hl) hs
  exact ⟨ys, S', by simpa using e, i, hl, hp⟩
theorem ints_of {ys : List D} (h : ∀ y ∈ ys, ∃ i : Int, y = .int i) : ∃ ns : List Int, ys = ns.map D.int := by
  induction ys with
  | nil => exact ⟨[], rfl⟩
  | cons y ys ih =>
    obtain ⟨i, rfl⟩ := h y List.mem_cons_self
    obtain ⟨ns, rfl⟩ := ih fun z hz => h z (List.mem_cons_of_mem _ hz)
    exact ⟨i :: ns, rfl⟩
theorem sumD_ints {ns : List Int} : g1 sumD [.lst (ns.map D.int)] = some (.v (.int ns.sum)) := by
  show (intsOf (ns.map D.int)).map _ = _
  rw [intsOf_map]
  rfl
end M

namespace M
open PySem PySem.Spec PyProof.Rows L2
/-! ### data without True and False: == is being the same -/
noncomputable instance decD : DecidableEq D := fun a b => Classical.propDecidable (a = b)
mutual
def D.nb : D → Bool
  | .bl _ => false
  | .tup ds => D.nbs ds
  | .lst ds => D.nbs ds
  | _ => true
def D.nbs : List D → Bool
  | [] => true
  | d :: ds => D.nb d && D.nbs ds
end
theorem nbs_iff {ds : List D} : D.nbs ds = true ↔ ∀ d ∈ ds, d.nb = true := by
  induction ds with
  | nil => simp [D.nbs]
  | cons d ds ih => simp [D.nbs, ih]
structure Pl (d : D) : Prop where
  ok : d.ok = true
  nb : d.nb = true
  dep : d.dep ≤ 64
mutual
theorem eqv_iff : ∀ (d e : D) (p q : PyData), D.py d = some p → D.py e = some q → d.nb = true → e.nb = true → (PyData.eqv p q = true ↔ d = e)
  | .non, e, p, q, hp, hq, h1, h2 => by
    simp only [D.py] at hp
    cases hp
    cases e <;> simp only [D.py] at hq <;> first | (cases hq; simp [PyData.eqv, D.nb] at h2 ⊢) | (obtain ⟨z, _, rfl⟩ := map_some hq; simp [PyData.eqv]) | cases hq
  | .bl b, e, p, q, hp, hq, h1, h2 => by simp [D.nb] at h1
  | .int i, e, p, q, hp, hq, h1, h2 => by
    simp only [D.py] at hp
    cases hp
    cases e <;> simp only [D.py] at hq <;> first | (cases hq; simp [PyData.eqv, D.nb] at h2 ⊢) | (obtain ⟨z, _, rfl⟩ := map_some hq; simp [PyData.eqv]) | cases hq
  | .str x, e, p, q, hp, hq, h1, h2 => by
    simp only [D.py] at hp
    cases hp
    cases e <;> simp only [D.py] at hq <;> first | (cases hq; simp [PyData.eqv, D.nb] at h2 ⊢) | (obtain ⟨z, _, rfl⟩ := map_some hq; simp [PyData.eqv]) | cases hq
  | .tup ds, e, p, q, hp, hq, h1, h2 => by
    simp only [D.py] at hp
    obtain ⟨ps, hps, rfl⟩ := map_some hp
    cases e with
    | tup es =>
      simp only [D.py] at hq
      obtain ⟨qs, hqs, rfl⟩ := map_some hq
      have := eqvs_iff ds es ps qs hps hqs (by simpa only [D.nb] using h1) (by simpa only [D.nb] using h2)
      simp only [PyData.eqv, this, D.tup.injEq]
    | lst es =>
      simp only [D.py] at hq
      obtain ⟨qs, hqs, rfl⟩ := map_some hq
      simp [PyData.eqv]
    | _ => simp only [D.py] at hq <;> first | (cases hq; simp [PyData.eqv]) | cases hq
  | .lst ds, e, p, q, hp, hq, h1, h2 => by
    simp only [D.py] at hp
    obtain ⟨ps, hps, rfl⟩ := map_some hp
    cases e with
    | lst es =>
      simp only [D.py] at hq
      obtain ⟨qs, hqs, rfl⟩ := map_some hq
      have := eqvs_iff ds es ps qs hps hqs (by simpa only [D.nb] using h1) (by simpa only [D.nb] using h2)
      simp only [PyData.eqv, this, D.lst.injEq]
    | tup es =>
      simp only [D.py] at hq
      obtain ⟨qs, hqs, rfl⟩ := map_some hq
      simp [PyData.eqv]
    | _ => simp only [D.py] at hq <;> first | (cases hq; simp [PyData.eqv]) | cases hq
  | .fn _, e, p, q, hp, hq, h1, h2 => by simp [D.py] at hp
  | .kl _, e, p, q, hp, hq, h1, h2 => by simp [D.py] at hp
  | .raw _, e, p, q, hp, hq, h1, h2 => by simp [D.py] at hp
  | .fdk _ _, e, p, q, hp, hq, h1, h2 => by simp [D.py] at hp
  | .fdt _ _, e, p, q, hp, hq, h1, h2 => by simp [D.py] at hp
theorem eqvs_iff : ∀ (ds es : List D) (ps qs : List PyData), D.pys ds = some ps → D.pys es = some qs → D.nbs ds = true → D.nbs es = true → (PyData.eqvAll ps qs = true ↔ ds = es)
  | [], es, ps, qs, hp, hq, h1, h2 => by
    simp only [D.pys] at hp
    cases hp
    cases es with
    | nil => simp only [D.pys] at hq; cases hq; simp [PyData.eqvAll]
    | cons e es =>
      simp only [D.pys] at hq
      cases h3 : D.py e with
      | none => rw [h3] at hq; cases hq
      | some q =>
        cases h4 : D.pys es with
        | none => rw [h3, h4] at hq; cases hq
        | some qs' => rw [h3, h4] at hq; cases hq; simp [PyData.eqvAll]
  | d :: ds, es, ps, qs, hp, hq, h1, h2 => by
    simp only [D.pys] at hp
    cases h3 : D.py d with
    | none => rw [h3] at hp; cases hp
    | some p =>
      cases h4 : D.pys ds with
      | none => rw [h3, h4] at hp; cases hp
      | some ps' =>
        rw [h3, h4] at hp
        cases hp
        cases es with
        | nil => simp only [D.pys] at hq; cases hq; simp [PyData.eqvAll]
        | cons e es =>
          simp only [D.pys] at hq
          cases h5 : D.py e with
          | none => rw [h5] at hq; cases hq
          | some q =>
            cases h6 : D.pys es with
            | none => rw [h5, h6] at hq; cases hq
            | some qs' =>
              rw [h5, h6] at hq
              cases hq
              simp only [D.nbs, Bool.and_eq_true] at h1 h2
              have a := eqv_iff d e p q h3 h5 h1.1 h2.1
              have b := eqvs_iff ds es ps' qs' h4 h6 h1.2 h2.2
              simp only [PyData.eqvAll, Bool.and_eq_true, a, b, List.cons.injEq]
end
theorem Pl.py {d : D} (h : Pl d) : ∃ p, D.py d = some p ∧ SeqAt.shaped p = true := by
  obtain ⟨p, hp⟩ := D.good d h.ok
  exact ⟨p, hp.eq, hp.shaped h.dep⟩
theorem dec_of {a : Bool} {p : Prop} [Decidable p] (h : a = true ↔ p) : a = decide p := by
  rw [Bool.eq_iff_iff, decide_eq_true_eq]
  exact h
theorem gEq_pl {d e : D} (h : Pl d) (h2 : Pl e) : gEq d e = some (.v (.bl (decide (d = e)))) := by
  unfold gEq
  split
  · rename_i x y
    congr 3
    rw [decide_eq_decide]
    simp
  · obtain ⟨p, hp, sp⟩ := h.py
    obtain ⟨q, hq, sq⟩ := h2.py
    unfold gPy
    rw [hp, hq]
    dsimp only
    rw [sp, sq, if_pos (by rfl)]
    unfold eqE
    rw [dec_of (eqv_iff d e p q hp hq h.nb h2.nb)]
theorem gNe_pl {d e : D} (h : Pl d) (h2 : Pl e) : gNe d e = some (.v (.bl (!decide (d = e)))) := by
  unfold gNe
  split
  · rename_i x y
    congr 4
    rw [decide_eq_decide]
    simp
  · obtain ⟨p, hp, sp⟩ := h.py
    obtain ⟨q, hq, sq⟩ := h2.py
    unfold gPy
    rw [hp, hq]
    dsimp only
    rw [sp, sq, if_pos (by rfl)]
    unfold neE
    rw [dec_of (eqv_iff d e p q hp hq h.nb h2.nb)]
theorem pys_mem : ∀ {es : List D} {ds : List PyData}, D.pys es = some ds → D.nbs es = true → ∀ {d : D} {p : PyData}, D.py d = some p → d.nb = true → (ds.any fun z => PyData.eqv z p) = decide (d ∈ es)
  | [], ds, h, _, d, p, hp, hn => by
    simp only [D.pys] at h
    cases h
    simp
  | e :: es, ds, h, hb, d, p, hp, hn => by
    simp only [D.pys] at h
    cases h3 : D.py e with
    | none => rw [h3] at h; cases h
    | some q =>
      cases h4 : D.pys es with
      | none => rw [h3, h4] at h; cases h
      | some qs =>
        rw [h3, h4] at h
        cases h
        simp only [D.nbs, Bool.and_eq_true] at hb
        rw [List.any_cons, pys_mem h4 hb.2 hp hn, dec_of (eqv_iff e d q p h3 hp hb.1 hn)]
        rw [Bool.eq_iff_iff]
        simp only [Bool.or_eq_true, decide_eq_true_eq, List.mem_cons]
        exact ⟨fun h => h.imp (fun e => e.symm) id, fun h => h.imp (fun e => e.symm) id⟩
theorem pys_cnt : ∀ {es : List D} {ds : List PyData}, D.pys es = some ds → D.nbs es = true → ∀ {d : D} {p : PyData}, D.py d = some p → d.nb = true → (ds.countP fun z => PyData.eqv z p) = es.countP fun z => decide (z = d)
  | [], ds, h, _, d, p, hp, hn => by
    simp only [D.pys] at h
    cases h
    simp
  | e :: es, ds, h, hb, d, p, hp, hn => by
    simp only [D.pys] at h
    cases h3 : D.py e with
    | none => rw [h3] at h; cases h
    | some q =>
      cases h4 : D.pys es with
      | none => rw [h3, h4] at h; cases h
      | some qs =>
        rw [h3, h4] at h
        cases h
        simp only [D.nbs, Bool.and_eq_true] at hb
        rw [List.countP_cons, List.countP_cons, pys_cnt h4 hb.2 hp hn, dec_of (eqv_iff e d q p h3 hp hb.1 hn)]
theorem Pl.lst {es : List D} (h : Pl (.lst es)) : ∃ ps, D.pys es = some ps ∧ SeqAt.shaped (.list ps) = true ∧ D.nbs es = true := by
  obtain ⟨p, hp, sp⟩ := h.py
  simp only [D.py] at hp
  obtain ⟨ps, hps, rfl⟩ := map_some hp
  exact ⟨ps, hps, sp, by simpa only [D.nb] using h.nb⟩
theorem Pl.tup {es : List D} (h : Pl (.tup es)) : ∃ ps, D.pys es = some ps ∧ SeqAt.shaped (.tuple ps) = true ∧ D.nbs es = true := by
  obtain ⟨p, hp, sp⟩ := h.py
  simp only [D.py] at hp
  obtain ⟨ps, hps, rfl⟩ := map_some hp
  exact ⟨ps, hps, sp, by simpa only [D.nb] using h.nb⟩
theorem gIn_lst {neg : Bool} {d : D} {es : List D} (h : Pl d) (h2 : Pl (.lst es)) : gIn neg d (.lst es) = some (.v (.bl (if neg then !decide (d ∈ es) else decide (d ∈ es)))) := by
  obtain ⟨p, hp, sp⟩ := h.py
  obtain ⟨ps, hps, ss, nb⟩ := h2.lst
  have e : gIn neg d (.lst es) = (match D.py d, D.pys es with
    | some d, some ds => if SeqAt.shaped d && SeqAt.shaped (.list ds) then some (.v (.bl (if neg then !ds.any fun z => PyData.eqv z d else ds.any fun z => PyData.eqv z d))) else none
    | _, _ => none) := by
    cases d <;> rfl
  rw [e, hp, hps]
  dsimp only
  rw [sp, ss, if_pos (by rfl), pys_mem hps nb hp h.nb]
theorem gIn_tup {neg : Bool} {d : D} {es : List D} (h : Pl d) (h2 : Pl (.tup es)) : gIn neg d (.tup es) = some (.v (.bl (if neg then !decide (d ∈ es) else decide (d ∈ es)))) := by
  obtain ⟨p, hp, sp⟩ := h.py
  obtain ⟨ps, hps, ss, nb⟩ := h2.tup
  have e : gIn neg d (.tup es) = (match D.py d, D.pys es with
    | some d, some ds => if SeqAt.shaped d && SeqAt.shaped (.tuple ds) then some (.v (.bl (if neg then !ds.any fun z => PyData.eqv z d else ds.any fun z => PyData.eqv z d))) else none
    | _, _ => none) := by
    cases d <;> rfl
  rw [e, hp, hps]
  dsimp only
  rw [sp, ss, if_pos (by rfl), pys_mem hps nb hp h.nb]
theorem gCnt_pl {d : D} {es : List D} (h : Pl d) (h2 : Pl (.lst es)) : gCnt es [d] = some (.v (.int (es.countP fun z => decide (z = d)))) := by
  obtain ⟨p, hp, sp⟩ := h.py
  obtain ⟨ps, hps, ss, nb⟩ := h2.lst
  unfold gCnt
  dsimp only
  rw [hp, hps]
  dsimp only
  rw [sp, ss, if_pos (by rfl), pys_cnt hps nb hp h.nb]
/-! what is plain -/
theorem pl_int {i : Int} (h : i.natAbs < 1000000000000000000000000000000000000000000000000000000000000) : Pl (.int i) := ⟨by simpa [D.ok] using h, by simp [D.nb], by simp [D.dep]⟩
theorem pl_non : Pl .non := ⟨by simp [D.ok], by simp [D.nb], by simp [D.dep]⟩
theorem pl_str {x : PySem.Str} (h : PyData.strOk x = true) : Pl (.str x) := ⟨by simpa [D.ok] using h, by simp [D.nb], by simp [D.dep]⟩
/-- plain to a depth -/
structure Pd (n : Nat) (d : D) : Prop where
  ok : d.ok = true
  nb : d.nb = true
  dep : d.dep ≤ n
theorem Pd.pl {n : Nat} {d : D} (h : Pd n d) (hn : n ≤ 64) : Pl d := ⟨h.ok, h.nb, by have := h.dep; omega⟩
theorem Pd.mono {n m : Nat} {d : D} (h : Pd n d) (hn : n ≤ m) : Pd m d := ⟨h.ok, h.nb, by have := h.dep; omega⟩
theorem pd_int {n : Nat} {i : Int} (h : i.natAbs < 1000000000000000000000000000000000000000000000000000000000000) : Pd n (.int i) := ⟨(pl_int h).ok, (pl_int h).nb, by simp [D.dep]⟩
theorem pd_str {n : Nat} {x : PySem.Str} (h : PyData.strOk x = true) : Pd n (.str x) := ⟨(pl_str h).ok, (pl_str h).nb, by simp [D.dep]⟩
theorem pd_non {n : Nat} : Pd n .non := ⟨by simp [D.ok], by simp [D.nb], by simp [D.dep]⟩
theorem pd_tup {n : Nat} {ds : List D} (h : ∀ d ∈ ds, Pd n d) : Pd (n + 1) (.tup ds) := ⟨by simp only [D.ok]; exact oks_iff.mpr fun d hd => (h d hd).ok, by simp only [D.nb]; exact nbs_iff.mpr fun d hd => (h d hd).nb, by
  simp only [D.dep]
  exact Nat.succ_le_succ (deps_le.mpr fun d hd => (h d hd).dep)⟩
theorem pd_lst {n : Nat} {ds : List D} (h : ∀ d ∈ ds, Pd n d) : Pd (n + 1) (.lst ds) := ⟨by simp only [D.ok]; exact oks_iff.mpr fun d hd => (h d hd).ok, by simp only [D.nb]; exact nbs_iff.mpr fun d hd => (h d hd).nb, by
  simp only [D.dep]
  exact Nat.succ_le_succ (deps_le.mpr fun d hd => (h d hd).dep)⟩
end M

namespace M
open PySem PySem.Spec PyProof.Rows L2
/-! ### sorting pairs of ints -/
def gmP (g : Int × Int) : D := .tup [.int g.1, .int g.2]
def leP (x y : Int × Int) : Bool := decide (x.1 < y.1 ∨ (x.1 = y.1 ∧ x.2 ≤ y.2))
theorem gmP_inj {x y : Int × Int} : gmP x = gmP y ↔ x = y := by
  unfold gmP
  constructor
  · intro h
    injection h with h
    injection h with h1 h2
    injection h2 with h2
    injection h1 with h1
    injection h2 with h2
    exact Prod.ext h1 h2
  · rintro rfl
    rfl
theorem keyToks_gm (x : Int × Int) : PySem.W.keyToks (pyD (gmP x)) = [.inl 1, .inl x.1, .inl 1, .inl x.2, .inl 0] := rfl
theorem leD_gm (x y : Int × Int) : leD (gmP x) (gmP y) = leP x y := by
  obtain ⟨a, b⟩ := x
  obtain ⟨c, d⟩ := y
  show (!PyProof.Rows.lexLt PyProof.Rows.itemOrd (PySem.W.keyToks (pyD (gmP (c, d)))) (PySem.W.keyToks (pyD (gmP (a, b))))) = _
  rw [keyToks_gm, keyToks_gm]
  unfold leP
  by_cases h1 : c = a
  · subst h1
    by_cases h2 : d = b
    · subst h2
      simp [PyProof.Rows.lexLt, PyProof.Rows.itemLt]
    · rw [Bool.eq_iff_iff]
      simp [PyProof.Rows.lexLt, PyProof.Rows.itemLt, h2]
  · have h1' : a ≠ c := fun e => h1 e.symm
    rw [Bool.eq_iff_iff]
    simp [PyProof.Rows.lexLt, PyProof.Rows.itemLt, h1, h1']
    by_cases h3 : a < c <;> by_cases h4 : c < a <;> simp [h3, h4] <;> omega
theorem insL_map {α β : Type} {f : α → β} {le : α → α → Bool} {le' : β → β → Bool} (h : ∀ a b, le' (f a) (f b) = le a b) (a : α) : ∀ l : List α, insL le' (f a) (l.map f) = (insL le a l).map f
  | [] => rfl
  | b :: l => by
    show (if le' (f a) (f b) = true then f a :: f b :: l.map f else f b :: insL le' (f a) (l.map f)) = _
    rw [h, insL_map h a l]
    show _ = (if le a b = true then a :: b :: l else b :: insL le a l).map f
    split <;> rfl
theorem isort_map {α β : Type} {f : α → β} {le : α → α → Bool} {le' : β → β → Bool} (h : ∀ a b, le' (f a) (f b) = le a b) : ∀ l : List α, isort le' (l.map f) = (isort le l).map f
  | [] => rfl
  | a :: l => by
    show insL le' (f a) (isort le' (l.map f)) = _
    rw [isort_map h l, insL_map h]
    rfl
theorem insL_perm {α : Type} {le : α → α → Bool} (a : α) : ∀ l : List α, (insL le a l).Perm (a :: l)
  | [] => .refl _
  | b :: l => by
    show (if le a b = true then a :: b :: l else b :: insL le a l).Perm _
    split
    · exact .refl _
    · exact ((insL_perm a l).cons b).trans (List.Perm.swap a b l)
theorem isort_perm {α : Type} {le : α → α → Bool} : ∀ l : List α, (isort le l).Perm l
  | [] => .refl _
  | a :: l => (insL_perm a _).trans ((isort_perm l).cons a)
theorem insL_sorted {α : Type} {le : α → α → Bool} (tr : ∀ a b c, le a b = true → le b c = true → le a c = true) (to : ∀ a b, le a b = true ∨ le b a = true) (a : α) : ∀ {l : List α}, l.Pairwise (fun x y => le x y = true) → (insL le a l).Pairwise fun x y => le x y = true
  | [], _ => by simp [insL]
  | b :: l, h => by
    show (if le a b = true then a :: b :: l else b :: insL le a l).Pairwise _
    rw [List.pairwise_cons] at h
    by_cases hab : le a b = true
    · rw [if_pos hab]
      refine List.pairwise_cons.mpr ⟨fun y hy => ?_, List.pairwise_cons.mpr h⟩
      rcases List.mem_cons.mp hy with rfl | hy
      · exact hab
      · exact tr _ _ _ hab (h.1 y hy)
    · rw [if_neg hab]
      refine List.pairwise_cons.mpr ⟨fun y hy => ?_, insL_sorted tr to a h.2⟩
      rcases List.mem_cons.mp ((insL_perm a l).mem_iff.mp hy) with rfl | hy
      · exact (to y b).resolve_left hab
      · exact h.1 y hy
theorem isort_sorted {α : Type} {le : α → α → Bool} (tr : ∀ a b c, le a b = true → le b c = true → le a c = true) (to : ∀ a b, le a b = true ∨ le b a = true) : ∀ l : List α, (isort le l).Pairwise fun x y => le x y = true
  | [] => .nil
  | a :: l => insL_sorted tr to a (isort_sorted tr to l)
theorem isort_id {α : Type} {le : α → α → Bool} : ∀ {l : List α}, l.Pairwise (fun x y => le x y = true) → isort le l = l
  | [], _ => rfl
  | a :: l, h => by
    rw [List.pairwise_cons] at h
    show insL le a (isort le l) = a :: l
    rw [isort_id h.2]
    cases l with
    | nil => rfl
    | cons b l =>
      show (if le a b = true then _ else _) = _
      rw [if_pos (h.1 b List.mem_cons_self)]
theorem leP_trans (a b c : Int × Int) (h1 : leP a b = true) (h2 : leP b c = true) : leP a c = true := by
  simp only [leP, decide_eq_true_eq] at *
  omega
theorem leP_total (a b : Int × Int) : leP a b = true ∨ leP b a = true := by
  simp only [leP, decide_eq_true_eq] at *
  omega
theorem leP_anti {a b : Int × Int} (h1 : leP a b = true) (h2 : leP b a = true) : a = b := by
  simp only [leP, decide_eq_true_eq] at *
  exact Prod.ext (by omega) (by omega)
theorem sort_gm (gs : List (Int × Int)) : sortD' (gs.map gmP) = some ((isort leP gs).map gmP) := by
  unfold sortD'
  rw [if_pos, isort_map leD_gm]
  rw [Bool.and_eq_true, Bool.and_eq_true, Bool.and_eq_true]
  refine ⟨?_, ?_, ?_, ?_⟩
  · rw [List.all_eq_true]
    intro d hd
    obtain ⟨g, _, rfl⟩ := List.mem_map.mp hd
    rfl
  · unfold alikeD
    rw [List.all_eq_true]
    intro d hd
    rw [List.all_eq_true]
    intro e he
    obtain ⟨g, _, rfl⟩ := List.mem_map.mp hd
    obtain ⟨g', _, rfl⟩ := List.mem_map.mp he
    rfl
  · unfold sortableD
    rw [Bool.or_eq_true]
    left
    rw [List.all_eq_true]
    intro d hd
    obtain ⟨g, _, rfl⟩ := List.mem_map.mp hd
    rfl
  · rw [List.all_eq_true]
    intro d hd
    obtain ⟨g, _, rfl⟩ := List.mem_map.mp hd
    rfl
theorem sortA_lst {gs : List (Int × Int)} : g1 sortA [.lst (gs.map gmP)] = some (.n (.li ((isort leP gs).map gmP))) := by
  show (sortD' (gs.map gmP)).map _ = _
  rw [sort_gm]
  rfl
theorem sortA_tup {gs : List (Int × Int)} : g1 sortA [.tup (gs.map gmP)] = some (.n (.li ((isort leP gs).map gmP))) := by
  show (sortD' (gs.map gmP)).map _ = _
  rw [sort_gm]
  rfl
/-- ints -/
theorem leD_int (a b : Int) : leD (.int a) (.int b) = decide (a ≤ b) := by
  show (!PyProof.Rows.lexLt PyProof.Rows.itemOrd [.inl b] [.inl a]) = _
  by_cases h : b = a
  · subst h
    simp [PyProof.Rows.lexLt, PyProof.Rows.itemLt]
  · rw [Bool.eq_iff_iff]
    simp [PyProof.Rows.lexLt, PyProof.Rows.itemLt]
theorem sort_int (ns : List Int) : sortD' (ns.map D.int) = some ((isort (fun a b => decide (a ≤ b)) ns).map D.int) := by
  unfold sortD'
  rw [if_pos, isort_map leD_int]
  rw [Bool.and_eq_true, Bool.and_eq_true, Bool.and_eq_true]
  refine ⟨?_, ?_, ?_, ?_⟩
  · rw [List.all_eq_true]
    intro d hd
    obtain ⟨g, _, rfl⟩ := List.mem_map.mp hd
    rfl
  · unfold alikeD
    rw [List.all_eq_true]
    intro d hd
    rw [List.all_eq_true]
    intro e he
    obtain ⟨g, _, rfl⟩ := List.mem_map.mp hd
    obtain ⟨g', _, rfl⟩ := List.mem_map.mp he
    rfl
  · unfold sortableD
    rw [Bool.or_eq_true]
    right
    rw [List.all_eq_true]
    intro d hd
    obtain ⟨g, _, rfl⟩ := List.mem_map.mp hd
    rfl
  · rw [List.all_eq_true]
    intro d hd
    obtain ⟨g, _, rfl⟩ := List.mem_map.mp hd
    rfl
end M

namespace M
open PySem PySem.Spec PyProof.Rows L2
/-! ### loops over typed lists, with returns and raises -/
/-- what a statement may do: go on with N, return with T, raise with E -/
def WX (r : RS) (N : MEnv → Sto → Prop) (T : Val → Sto → Prop) (E : Exc → Sto → Prop) : Prop := match r with
  | .nx ρ S => N ρ S
  | .rt x S => T x S
  | .er e _ S => E e S
  | _ => False
/-- .. a turn of a loop: I for the next, B after a break -/
def WT (r : RS) (I B : MEnv → Sto → Prop) (T : Val → Sto → Prop) (E : Exc → Sto → Prop) : Prop := match r with
  | .nx ρ S => I ρ S
  | .ct ρ S => I ρ S
  | .bk ρ S => B ρ S
  | .rt x S => T x S
  | .er e _ S => E e S
  | .bad => False
section
variable {N M I B : MEnv → Sto → Prop} {T : Val → Sto → Prop} {E : Exc → Sto → Prop} {ρ ρ' : MEnv} {S S' : Sto} {a b : SM}
@[simp] theorem WX_nx : WX (.nx ρ S) N T E ↔ N ρ S := Iff.rfl
@[simp] theorem WX_rt {x : Val} : WX (.rt x S) N T E ↔ T x S := Iff.rfl
@[simp] theorem WX_er {e : Exc} : WX (.er e ρ S) N T E ↔ E e S := Iff.rfl
@[simp] theorem WX_bad : WX .bad N T E ↔ False := Iff.rfl
@[simp] theorem WT_nx : WT (.nx ρ S) I B T E ↔ I ρ S := Iff.rfl
@[simp] theorem WT_ct : WT (.ct ρ S) I B T E ↔ I ρ S := Iff.rfl
@[simp] theorem WT_bk : WT (.bk ρ S) I B T E ↔ B ρ S := Iff.rfl
@[simp] theorem WT_rt {x : Val} : WT (.rt x S) I B T E ↔ T x S := Iff.rfl
@[simp] theorem WT_er {e : Exc} : WT (.er e ρ S) I B T E ↔ E e S := Iff.rfl
@[simp] theorem WT_bad : WT .bad I B T E ↔ False := Iff.rfl
theorem WX_mono {r : RS} {N' : MEnv → Sto → Prop} (h : WX r M T E) (k : ∀ ρ S, M ρ S → N' ρ S) : WX r N' T E := by
  cases r with
  | nx ρ S => exact k _ _ h
  | rt x S => exact h
  | er e ρ S => exact h
  | _ => exact h.elim
theorem wx_seq (h : WX (a ρ S) (fun ρ1 S1 => WX (b ρ1 S1) N T E) T E) : WX (sSeq a b ρ S) N T E := by
  unfold sSeq
  cases q : a ρ S with
  | nx ρ1 S1 => rw [q] at h; exact h
  | rt x S1 => rw [q] at h; exact h
  | bk ρ1 S1 => rw [q] at h; exact h
  | ct ρ1 S1 => rw [q] at h; exact h
  | er e ρ1 S1 => rw [q] at h; exact h
  | bad => rw [q] at h; exact h
theorem wt_seq (h : WX (a ρ S) (fun ρ1 S1 => WT (b ρ1 S1) I B T E) T E) : WT (sSeq a b ρ S) I B T E := by
  unfold sSeq
  cases q : a ρ S with
  | nx ρ1 S1 => rw [q] at h; exact h
  | rt x S1 => rw [q] at h; exact h
  | bk ρ1 S1 => rw [q] at h; exact h.elim
  | ct ρ1 S1 => rw [q] at h; exact h.elim
  | er e ρ1 S1 => rw [q] at h; exact h
  | bad => rw [q] at h; exact h
theorem wx_to (e : a ρ S = .nx ρ' S') (k : WX (b ρ' S') N T E) : WX (sSeq a b ρ S) N T E := wx_seq (by rw [e]; exact k)
theorem wt_to (e : a ρ S = .nx ρ' S') (k : WT (b ρ' S') I B T E) : WT (sSeq a b ρ S) I B T E := wt_seq (by rw [e]; exact k)
theorem wx_via (M : MEnv → Sto → Prop) (h : WX (a ρ S) M T E) (k : ∀ ρ S, M ρ S → WX (b ρ S) N T E) : WX (sSeq a b ρ S) N T E := wx_seq (WX_mono h k)
theorem wt_via (M : MEnv → Sto → Prop) (h : WX (a ρ S) M T E) (k : ∀ ρ S, M ρ S → WT (b ρ S) I B T E) : WT (sSeq a b ρ S) I B T E := wt_seq (WX_mono h k)
theorem wt_of {r : RS} (h : WX r I T E) : WT r I B T E := by
  cases r <;> first | exact h | exact h.elim
/-- a loop over a list of things -/
theorem forL_T {α : Type} {g : GM} {body : SM} {f : α → D} (J : List α → MEnv → Sto → Prop) {xs : List α}
    (hs : ∀ pre x post ρ S, xs = pre ++ x :: post → J pre ρ S → WT (turn g body (f x) ρ S) (J (pre ++ [x])) N T E) (k : ∀ ρ S, J xs ρ S → N ρ S) : ∀ (post pre : List α) (ρ : MEnv) (S : Sto), xs = pre ++ post → J pre ρ S → WX (forL g body (post.map f) ρ S) N T E
  | [], pre, ρ, S, e, h => by
    rw [List.append_nil] at e
    subst e
    exact k ρ S h
  | x :: post, pre, ρ, S, e, h => by
    have h1 := hs pre x post ρ S e h
    have go : forL g body ((x :: post).map f) ρ S = onward (turn g body (f x) ρ S) (forL g body (post.map f)) := by
      show step g body (f x) ρ S (forL g body (post.map f)) = _
      unfold step turn
      cases hg : g (f x) ρ S <;> rfl
    rw [go]
    have ih := fun ρ2 S2 h2 => forL_T J hs k post (pre ++ [x]) ρ2 S2 (by rw [e]; simp) h2
    cases ht : turn g body (f x) ρ S with
    | nx ρ2 S2 => rw [ht] at h1; exact ih _ _ h1
    | ct ρ2 S2 => rw [ht] at h1; exact ih _ _ h1
    | bk ρ2 S2 => rw [ht] at h1; exact h1
    | rt x S2 => rw [ht] at h1; exact h1
    | er e ρ2 S2 => rw [ht] at h1; exact h1
    | bad => rw [ht] at h1; exact h1
theorem wx_for {α : Type} {it : IM} {g : GM} {body : SM} {f : α → D} {S0 : Sto} {xs : List α} (J : List α → MEnv → Sto → Prop) (hi : it ρ S = .ok (.fix (xs.map f)) S0) (h0 : J [] ρ S0)
    (hs : ∀ pre x post ρ S, xs = pre ++ x :: post → J pre ρ S → WT (turn g body (f x) ρ S) (J (pre ++ [x])) N T E) (k : ∀ ρ S, J xs ρ S → N ρ S) : WX (sFor it g body ρ S) N T E := by
  rw [sFor_ap, hi]
  exact forL_T J hs k xs [] ρ S0 rfl h0
/-- a def's end -/
theorem leave_wx {n : Nat} {r : RS} {d : D} {S0 : Sto} (h : WX r (fun _ S => d = .non ∧ S.take n = S0) (fun x S => x = .v d ∧ S.take n = S0) fun _ _ => False) : leave n r = .ok (.v d) S0 := by
  cases r with
  | nx ρ S =>
    obtain ⟨rfl, rfl⟩ := h
    rfl
  | rt x S =>
    obtain ⟨rfl, rfl⟩ := h
    rfl
  | _ => exact h.elim
theorem leave_wxn {n : Nat} {r : RS} {o : Ob} {S0 : Sto} (h : WX r (fun _ _ => False) (fun x S => fin n x S = .ok (.n o) S0) fun _ _ => False) : leave n r = .ok (.n o) S0 := by
  cases r with
  | rt x S => exact h
  | _ => exact h.elim
theorem leave_er' {n : Nat} {r : RS} {e : Exc} {S0 : Sto} (h : WX r (fun _ _ => False) (fun _ _ => False) fun e' S => e' = e ∧ S.take n = S0) : leave n r = .er e S0 := by
  cases r with
  | er e' ρ S =>
    obtain ⟨rfl, rfl⟩ := h
    rfl
  | _ => exact h.elim
end
/-! ### comprehensions over typed lists, nothing drawn -/
section
variable {α β : Type} {ρ : MEnv} {S : Sto} {g g1 : GP} {tt tt1 : TM} {te tk tv : VM} {it it1 : IM} {vs vs1 : List Nat}
theorem lcL_T {f F : α → D} {p : α → Bool} : ∀ (xs : List α) (acc : List D), acc.length + xs.length ≤ lim → (∀ x ∈ xs, ∃ ρ1, g (f x) ρ = some ρ1 ∧ tt ρ1 S = .ok (p x) S ∧ (p x = true → te ρ1 S = .ok (.v (F x)) S)) →
    lcL ρ g tt te (xs.map f) acc S = .ok (.n (.li (acc ++ (xs.filter p).map F))) S
  | [], acc, _, _ => by simp [lcL]
  | x :: xs, acc, hl, h => by
    obtain ⟨ρ1, e1, e2, e3⟩ := h x List.mem_cons_self
    simp only [List.length_cons] at hl
    show lcTurn ρ g tt te (f x) acc S (lcL ρ g tt te (xs.map f)) = _
    unfold lcTurn
    rw [e1]
    dsimp only
    rw [e2]
    dsimp only
    cases hp : p x with
    | false =>
      rw [if_neg Bool.false_ne_true, lcL_T xs acc (by omega) fun y hy => h y (List.mem_cons_of_mem _ hy), List.filter_cons_of_neg (by simp [hp])]
    | true =>
      rw [if_pos rfl, e3 hp]
      dsimp only
      rw [if_pos (by omega), lcL_T xs (acc ++ [F x]) (by simp; omega) fun y hy => h y (List.mem_cons_of_mem _ hy), List.filter_cons_of_pos hp]
      simp
theorem lcv {f F : α → D} {p : α → Bool} {xs : List α} {S0 : Sto} (hi : it ρ S0 = .ok (.fix (xs.map f)) S) (hl : xs.length ≤ lim) (h : ∀ x ∈ xs, ∃ ρ1, g (f x) (wipeM ρ vs) = some ρ1 ∧ tt ρ1 S = .ok (p x) S ∧ (p x = true → te ρ1 S = .ok (.v (F x)) S)) :
    mLC it g tt te vs ρ S0 = .ok (.n (.li ((xs.filter p).map F))) S := by
  rw [mLC_ap, hi]
  show lcL _ g tt te (xs.map f) [] S = _
  rw [lcL_T xs [] (by simpa using hl) h]
  rfl
theorem filter_yes {α : Type} (xs : List α) : xs.filter (fun _ => true) = xs := by
  induction xs with
  | nil => rfl
  | cons x xs ih => rw [List.filter_cons_of_pos rfl, ih]
theorem lcm {f F : α → D} {xs : List α} {S0 : Sto} (hi : it ρ S0 = .ok (.fix (xs.map f)) S) (hl : xs.length ≤ lim) (h : ∀ x ∈ xs, ∃ ρ1, g (f x) (wipeM ρ vs) = some ρ1 ∧ te ρ1 S = .ok (.v (F x)) S) :
    mLC it g mYes te vs ρ S0 = .ok (.n (.li (xs.map F))) S := by
  rw [lcv (p := fun _ => true) hi hl fun x hx => by
    obtain ⟨ρ1, e1, e2⟩ := h x hx
    exact ⟨ρ1, e1, rfl, fun _ => e2⟩]
  rw [filter_yes]
theorem lcLA_T {f F : α → D} {p : α → Bool} : ∀ (xs : List α) (acc : List D), acc.length + xs.length ≤ lim → (∀ x ∈ xs, ∃ ρ1, g (f x) ρ = some ρ1 ∧ tt ρ1 S = .ok (p x) S ∧ (p x = true → te ρ1 S = .ok (.v (F x)) S)) →
    lcLA ρ g tt te (xs.map f) acc S = .ok (acc ++ (xs.filter p).map F) S
  | [], acc, _, _ => by simp [lcLA]
  | x :: xs, acc, hl, h => by
    obtain ⟨ρ1, e1, e2, e3⟩ := h x List.mem_cons_self
    simp only [List.length_cons] at hl
    show lcTurn ρ g tt te (f x) acc S (lcLA ρ g tt te (xs.map f)) = _
    unfold lcTurn
    rw [e1]
    dsimp only
    rw [e2]
    dsimp only
    cases hp : p x with
    | false =>
      rw [if_neg Bool.false_ne_true, lcLA_T xs acc (by omega) fun y hy => h y (List.mem_cons_of_mem _ hy), List.filter_cons_of_neg (by simp [hp])]
    | true =>
      rw [if_pos rfl, e3 hp]
      dsimp only
      rw [if_pos (by omega), lcLA_T xs (acc ++ [F x]) (by simp; omega) fun y hy => h y (List.mem_cons_of_mem _ hy), List.filter_cons_of_pos hp]
      simp
/-- two clauses -/
theorem lc2L_T {f : α → D} {p : α → Bool} {ys : α → List β} {f1 : α → β → D} {p1 : α → β → Bool} {F : α → β → D} : ∀ (xs : List α) (acc : List D), acc.length + (xs.map fun x => (ys x).length).sum ≤ lim →
    (∀ x ∈ xs, ∃ ρ1, g (f x) ρ = some ρ1 ∧ tt ρ1 S = .ok (p x) S ∧ (p x = true → it1 ρ1 S = .ok (.fix ((ys x).map (f1 x))) S ∧ ∀ y ∈ ys x, ∃ ρ2, g1 (f1 x y) (wipeM ρ1 vs1) = some ρ2 ∧ tt1 ρ2 S = .ok (p1 x y) S ∧ (p1 x y = true → te ρ2 S = .ok (.v (F x y)) S))) →
    lc2L ρ g tt it1 vs1 g1 tt1 te (xs.map f) acc S = .ok (.n (.li (acc ++ (xs.filter p).flatMap fun x => ((ys x).filter (p1 x)).map (F x)))) S
  | [], acc, _, _ => by simp [lc2L]
  | x :: xs, acc, hl, h => by
    obtain ⟨ρ1, e1, e2, e3⟩ := h x List.mem_cons_self
    simp only [List.map_cons, List.sum_cons] at hl
    show lc2Turn ρ g tt it1 vs1 g1 tt1 te (f x) acc S (lc2L ρ g tt it1 vs1 g1 tt1 te (xs.map f)) = _
    unfold lc2Turn
    rw [e1]
    dsimp only
    rw [e2]
    dsimp only
    cases hp : p x with
    | false =>
      rw [if_neg Bool.false_ne_true, lc2L_T xs acc (by omega) fun y hy => h y (List.mem_cons_of_mem _ hy), List.filter_cons_of_neg (by simp [hp])]
    | true =>
      obtain ⟨e4, e5⟩ := e3 hp
      rw [if_pos rfl, e4]
      dsimp only
      show (match lcLA (wipeM ρ1 vs1) g1 tt1 te ((ys x).map (f1 x)) acc S with
        | .ok acc' S4 => lc2L ρ g tt it1 vs1 g1 tt1 te (xs.map f) acc' S4
        | _ => .bad) = _
      rw [lcLA_T (ys x) acc (by omega) e5]
      dsimp only
      have hf : (((ys x).filter (p1 x)).map (F x)).length ≤ (ys x).length := by
        rw [List.length_map]
        exact List.length_filter_le _ _
      rw [lc2L_T xs _ (by rw [List.length_append]; omega) fun y hy => h y (List.mem_cons_of_mem _ hy), List.filter_cons_of_pos hp, List.flatMap_cons, List.append_assoc]
theorem lc2v {f : α → D} {p : α → Bool} {ys : α → List β} {f1 : α → β → D} {p1 : α → β → Bool} {F : α → β → D} {xs : List α} {S0 : Sto} (hi : it ρ S0 = .ok (.fix (xs.map f)) S) (hl : (xs.map fun x => (ys x).length).sum ≤ lim)
    (h : ∀ x ∈ xs, ∃ ρ1, g (f x) (wipeM ρ vs) = some ρ1 ∧ tt ρ1 S = .ok (p x) S ∧ (p x = true → it1 ρ1 S = .ok (.fix ((ys x).map (f1 x))) S ∧ ∀ y ∈ ys x, ∃ ρ2, g1 (f1 x y) (wipeM ρ1 vs1) = some ρ2 ∧ tt1 ρ2 S = .ok (p1 x y) S ∧ (p1 x y = true → te ρ2 S = .ok (.v (F x y)) S))) :
    mLC2 it g tt it1 g1 tt1 te vs vs1 ρ S0 = .ok (.n (.li ((xs.filter p).flatMap fun x => ((ys x).filter (p1 x)).map (F x)))) S := by
  unfold mLC2
  rw [hi]
  show lc2L _ g tt it1 vs1 g1 tt1 te (xs.map f) [] S = _
  rw [lc2L_T xs [] (by simpa using hl) h]
  rfl
theorem lc2m {f : α → D} {ys : α → List β} {f1 : α → β → D} {F : α → β → D} {xs : List α} {S0 : Sto} (hi : it ρ S0 = .ok (.fix (xs.map f)) S) (hl : (xs.map fun x => (ys x).length).sum ≤ lim)
    (h : ∀ x ∈ xs, ∃ ρ1, g (f x) (wipeM ρ vs) = some ρ1 ∧ it1 ρ1 S = .ok (.fix ((ys x).map (f1 x))) S ∧ ∀ y ∈ ys x, ∃ ρ2, g1 (f1 x y) (wipeM ρ1 vs1) = some ρ2 ∧ te ρ2 S = .ok (.v (F x y)) S) :
    mLC2 it g mYes it1 g1 mYes te vs vs1 ρ S0 = .ok (.n (.li (xs.flatMap fun x => (ys x).map (F x)))) S := by
  rw [lc2v (p := fun _ => true) (p1 := fun _ _ => true) (F := F) hi hl fun x hx => by
    obtain ⟨ρ1, e1, e2, e3⟩ := h x hx
    refine ⟨ρ1, e1, rfl, fun _ => ⟨e2, fun y hy => ?_⟩⟩
    obtain ⟨ρ2, e4, e5⟩ := e3 y hy
    exact ⟨ρ2, e4, rfl, fun _ => e5⟩]
  simp only [filter_yes]
/-- dicts -/
def putsK {κ : Type} [DecidableEq κ] : List κ → List D → List (κ × D) → List κ × List D
  | ks, vs, [] => (ks, vs)
  | ks, vs, (k, v) :: r => putsK (putKs ks k) (putVs ks vs k v) r
theorem dcL_T {f : α → D} {key : α → DKey} {kd F : α → D} : ∀ (xs : List α) (ks : List DKey) (ws : List D), ks.length + xs.length ≤ lim → (∀ x ∈ xs, ∃ ρ1, g (f x) ρ = some ρ1 ∧ tk ρ1 S = .ok (.v (kd x)) S ∧ keyD (kd x) = some (key x) ∧ tv ρ1 S = .ok (.v (F x)) S) →
    dcL ρ g mYes tk tv (xs.map f) ks ws S = .ok (.n (.dk (putsK ks ws (xs.map fun x => (key x, F x))).1 (putsK ks ws (xs.map fun x => (key x, F x))).2)) S
  | [], ks, ws, _, _ => rfl
  | x :: xs, ks, ws, hl, h => by
    obtain ⟨ρ1, e1, e2, e3, e4⟩ := h x List.mem_cons_self
    simp only [List.length_cons] at hl
    show dcTurn ρ g mYes tk tv (f x) ks ws S (dcL ρ g mYes tk tv (xs.map f)) = _
    unfold dcTurn
    rw [e1]
    dsimp only [mYes_ap]
    rw [if_pos rfl, e2]
    dsimp only
    rw [e3]
    dsimp only
    rw [e4]
    dsimp only
    have hk : (putKs ks (key x)).length ≤ ks.length + 1 := by
      unfold putKs
      split <;> simp
    rw [if_pos (by omega), dcL_T xs _ _ (by omega) fun y hy => h y (List.mem_cons_of_mem _ hy)]
    rfl
theorem dcv {f : α → D} {key : α → DKey} {kd F : α → D} {xs : List α} {S0 : Sto} (hi : it ρ S0 = .ok (.fix (xs.map f)) S) (hl : xs.length ≤ lim) (h : ∀ x ∈ xs, ∃ ρ1, g (f x) (wipeM ρ vs) = some ρ1 ∧ tk ρ1 S = .ok (.v (kd x)) S ∧ keyD (kd x) = some (key x) ∧ tv ρ1 S = .ok (.v (F x)) S) :
    mDC it g mYes tk tv vs ρ S0 = .ok (.n (.dk (putsK [] [] (xs.map fun x => (key x, F x))).1 (putsK [] [] (xs.map fun x => (key x, F x))).2)) S := by
  unfold mDC
  rw [hi]
  exact dcL_T xs [] [] (by simpa using hl) h
end
end M

namespace M
open PySem PySem.Spec PyProof.Rows L2 PR
/-! ### the mathematics' tools -/
@[simp] theorem lenD_lst {ds : List D} : g1 lenD [.lst ds] = some (.v (.int ds.length)) := rfl
@[simp] theorem lenD_tup {ds : List D} : g1 lenD [.tup ds] = some (.v (.int ds.length)) := rfl
@[simp] theorem lenD_fdk {ks : List DKey} {vs : List D} : g1 lenD [.fdk ks vs] = some (.v (.int ks.length)) := rfl
@[simp] theorem tupleD_lst {ds : List D} : g1 tupleD [.lst ds] = some (.v (.tup ds)) := rfl
@[simp] theorem tupleD_tup {ds : List D} : g1 tupleD [.tup ds] = some (.v (.tup ds)) := rfl
theorem blsOf_mapT {α : Type} {p : α → Bool} : ∀ xs : List α, blsOf (xs.map fun x => .bl (p x)) = some (xs.map p)
  | [] => rfl
  | x :: xs => by
    show (blsOf (xs.map fun x => .bl (p x))).map (p x :: ·) = _
    rw [blsOf_mapT xs]
    rfl
theorem all_mapT {α : Type} {p : α → Bool} {xs : List α} : g1 allD [.lst (xs.map fun x => .bl (p x))] = some (.v (.bl (xs.all p))) := by
  show (blsOf _).map _ = _
  rw [blsOf_mapT]
  simp [List.all_map]
theorem any_mapT {α : Type} {p : α → Bool} {xs : List α} : g1 anyD [.lst (xs.map fun x => .bl (p x))] = some (.v (.bl (xs.any p))) := by
  show (blsOf _).map _ = _
  rw [blsOf_mapT]
  simp [List.any_map]
section
variable {α : Type} {ρ : MEnv} {S : Sto} {g : GP} {te : VM} {it : IM} {vs : List Nat}
/-- all([e for x in xs]) -/
theorem lcAll {f : α → D} {p : α → Bool} {xs : List α} {S0 : Sto} (hi : it ρ S0 = .ok (.fix (xs.map f)) S) (hl : xs.length ≤ lim) (h : ∀ x ∈ xs, ∃ ρ1, g (f x) (wipeM ρ vs) = some ρ1 ∧ te ρ1 S = .ok (.v (.bl (p x))) S) :
    mB (g1 allD) (mCons (mFz (mLC it g mYes te vs)) mNil) ρ S0 = .ok (.v (.bl (xs.all p))) S := by
  rw [mB_ap, mCons_ap, mFz_ap, lcm (f := f) (F := fun x => .bl (p x)) hi hl h]
  simp [all_mapT]
theorem lcAny {f : α → D} {p : α → Bool} {xs : List α} {S0 : Sto} (hi : it ρ S0 = .ok (.fix (xs.map f)) S) (hl : xs.length ≤ lim) (h : ∀ x ∈ xs, ∃ ρ1, g (f x) (wipeM ρ vs) = some ρ1 ∧ te ρ1 S = .ok (.v (.bl (p x))) S) :
    mB (g1 anyD) (mCons (mFz (mLC it g mYes te vs)) mNil) ρ S0 = .ok (.v (.bl (xs.any p))) S := by
  rw [mB_ap, mCons_ap, mFz_ap, lcm (f := f) (F := fun x => .bl (p x)) hi hl h]
  simp [any_mapT]
/-- tuple([e for x in xs]) -/
theorem lcTup {f F : α → D} {xs : List α} {S0 : Sto} (hi : it ρ S0 = .ok (.fix (xs.map f)) S) (hl : xs.length ≤ lim) (h : ∀ x ∈ xs, ∃ ρ1, g (f x) (wipeM ρ vs) = some ρ1 ∧ te ρ1 S = .ok (.v (F x)) S) :
    mB (g1 tupleD) (mCons (mFz (mLC it g mYes te vs)) mNil) ρ S0 = .ok (.v (.tup (xs.map F))) S := by
  rw [mB_ap, mCons_ap, mFz_ap, lcm (f := f) (F := F) hi hl h]
  simp
theorem lcTupF {f F : α → D} {p : α → Bool} {tt : TM} {xs : List α} {S0 : Sto} (hi : it ρ S0 = .ok (.fix (xs.map f)) S) (hl : xs.length ≤ lim) (h : ∀ x ∈ xs, ∃ ρ1, g (f x) (wipeM ρ vs) = some ρ1 ∧ tt ρ1 S = .ok (p x) S ∧ (p x = true → te ρ1 S = .ok (.v (F x)) S)) :
    mB (g1 tupleD) (mCons (mFz (mLC it g tt te vs)) mNil) ρ S0 = .ok (.v (.tup ((xs.filter p).map F))) S := by
  rw [mB_ap, mCons_ap, mFz_ap, lcv (f := f) (F := F) (p := p) hi hl h]
  simp
end
theorem itA_tup {ρ : MEnv} {S : Sto} {j : Nat} {ds : List D} (h : ρ[j]? = some (some (.v (.tup ds)))) : mItA (mV j) ρ S = .ok (.fix ds) S := by
  have e : mFzD (mV j) ρ S = .ok (.v (.tup ds)) S := by simp [mFzD, h]
  simp [mItA, e]
theorem itA_lst {ρ : MEnv} {S : Sto} {j : Nat} {ds : List D} (h : ρ[j]? = some (some (.v (.lst ds)))) : mItA (mV j) ρ S = .ok (.fix ds) S := by
  have e : mFzD (mV j) ρ S = .ok (.v (.lst ds)) S := by simp [mFzD, h]
  simp [mItA, e]
theorem itA_ofT {f : VM} {ρ : MEnv} {S S1 : Sto} {ds : List D} (h : f ρ S = .ok (.v (.tup ds)) S1) : mItA f ρ S = .ok (.fix ds) S1 := by
  have e : mFzD f ρ S = .ok (.v (.tup ds)) S1 := by simp [mFzD, h]
  simp [mItA, e]
theorem itA_ofL {f : VM} {ρ : MEnv} {S S1 : Sto} {ds : List D} (h : f ρ S = .ok (.v (.lst ds)) S1) : mItA f ρ S = .ok (.fix ds) S1 := by
  have e : mFzD f ρ S = .ok (.v (.lst ds)) S1 := by simp [mFzD, h]
  simp [mItA, e]
theorem itA_ofN {f : VM} {ρ : MEnv} {S S1 : Sto} {ds : List D} (h : f ρ S = .ok (.n (.li ds)) S1) : mItA f ρ S = .ok (.fix ds) S1 := by
  have e : mFzD f ρ S = .ok (.v (.lst ds)) S1 := by simp [mFzD, h]
  simp [mItA, e]
/-! dicts -/
theorem hasK_iff {κ : Type} [DecidableEq κ] {k : κ} : ∀ {ks : List κ}, hasK ks k = true ↔ k ∈ ks
  | [] => by simp [hasK]
  | a :: ks => by
    simp only [hasK, List.mem_cons]
    by_cases e : a = k
    · rw [if_pos e]
      exact ⟨fun _ => .inl e.symm, fun _ => rfl⟩
    · rw [if_neg e, hasK_iff]
      exact ⟨.inr, fun h => h.resolve_left fun z => e z.symm⟩
theorem putKs_mem {κ : Type} [DecidableEq κ] {ks : List κ} {k a : κ} : a ∈ putKs ks k ↔ a ∈ ks ∨ a = k := by
  unfold putKs
  split
  · rename_i h
    rw [hasK_iff] at h
    exact ⟨.inl, fun z => z.elim id fun e => e ▸ h⟩
  · simp
theorem putKs_nodup {κ : Type} [DecidableEq κ] {ks : List κ} {k : κ} (h : ks.Nodup) : (putKs ks k).Nodup := by
  unfold putKs
  split
  · exact h
  · rename_i hn
    rw [hasK_iff] at hn
    rw [List.nodup_append]
    refine ⟨h, by simp, fun a ha b hb e => hn ?_⟩
    rw [List.mem_singleton] at hb
    rw [← hb, ← e]
    exact ha
theorem putsK_keys {κ : Type} [DecidableEq κ] : ∀ (r : List (κ × D)) (ks : List κ) (vs : List D), ks.Nodup → (putsK ks vs r).1.Nodup ∧ ∀ a, a ∈ (putsK ks vs r).1 ↔ a ∈ ks ∨ a ∈ r.map (·.1)
  | [], ks, vs, h => ⟨h, by simp [putsK]⟩
  | (k, v) :: r, ks, vs, h => by
    obtain ⟨h1, h2⟩ := putsK_keys r (putKs ks k) (putVs ks vs k v) (putKs_nodup h)
    refine ⟨h1, fun a => ?_⟩
    rw [show putsK ks vs ((k, v) :: r) = putsK (putKs ks k) (putVs ks vs k v) r from rfl, h2, putKs_mem]
    simp [or_assoc]
theorem putsK_len {κ : Type} [DecidableEq κ] : ∀ (r : List (κ × D)) (ks : List κ) (vs : List D), (ks ++ r.map (·.1)).Nodup → (putsK ks vs r).1 = ks ++ r.map (·.1)
  | [], ks, vs, _ => by simp [putsK]
  | (k, v) :: r, ks, vs, h => by
    have hk : ¬hasK ks k = true := by
      rw [hasK_iff]
      intro hm
      rw [List.map_cons, List.nodup_append] at h
      exact h.2.2 k hm k List.mem_cons_self rfl
    show (putsK (putKs ks k) (putVs ks vs k v) r).1 = _
    have : putKs ks k = ks ++ [k] := if_neg hk
    rw [this, putsK_len r _ _ (by simpa using h)]
    simp
theorem putKs_le {κ : Type} [DecidableEq κ] {ks : List κ} {k : κ} : (putKs ks k).length ≤ ks.length + 1 := by
  unfold putKs
  split <;> simp
theorem putsK_le {κ : Type} [DecidableEq κ] : ∀ (r : List (κ × D)) (ks : List κ) (vs : List D), (putsK ks vs r).1.length ≤ ks.length + r.length
  | [], ks, vs => Nat.le_refl _
  | (k, v) :: r, ks, vs => by
    have := putsK_le r (putKs ks k) (putVs ks vs k v)
    have := putKs_le (ks := ks) (k := k)
    show (putsK (putKs ks k) (putVs ks vs k v) r).1.length ≤ _
    rw [List.length_cons]
    omega
theorem putsK_eq {κ : Type} [DecidableEq κ] : ∀ (r : List (κ × D)) (ks : List κ) (vs : List D), ks.Nodup → (putsK ks vs r).1.length = ks.length + r.length → (ks ++ r.map (·.1)).Nodup
  | [], ks, vs, h, _ => by simpa using h
  | (k, v) :: r, ks, vs, h, e => by
    have e' : (putsK (putKs ks k) (putVs ks vs k v) r).1.length = ks.length + (r.length + 1) := e
    have hle := putsK_le r (putKs ks k) (putVs ks vs k v)
    by_cases hk : hasK ks k = true
    · have : putKs ks k = ks := if_pos hk
      rw [this] at e' hle
      omega
    · have hp : putKs ks k = ks ++ [k] := if_neg hk
      have h1 := putKs_nodup (k := k) h
      rw [hp] at e' h1
      have := putsK_eq r _ _ h1 (by rw [e', List.length_append, List.length_singleton]; omega)
      simpa using this
/-- as many keys as things: no thing comes twice -/
theorem putsK_all {κ : Type} [DecidableEq κ] {r : List (κ × D)} : (putsK [] [] r).1.length = r.length ↔ (r.map (·.1)).Nodup := by
  constructor
  · intro h
    simpa using putsK_eq r [] [] List.nodup_nil (by simpa using h)
  · intro h
    rw [putsK_len r [] [] (by simpa using h)]
    simp
theorem replK_len {κ : Type} [DecidableEq κ] {k : κ} {x : D} : ∀ {ks : List κ} {vs : List D}, ks.length = vs.length → (replK ks vs k x).length = vs.length
  | [], [], _ => rfl
  | [], v :: vs, h => by simp at h
  | a :: ks, [], h => by simp at h
  | a :: ks, v :: vs, h => by
    simp only [replK, List.length_cons] at h ⊢
    rw [replK_len (by omega)]
theorem put_len {κ : Type} [DecidableEq κ] {ks : List κ} {vs : List D} {k : κ} {x : D} (h : ks.length = vs.length) : (putKs ks k).length = (putVs ks vs k x).length := by
  unfold putKs putVs
  split
  · rw [replK_len h, h]
  · simp [h]
theorem lookK_app {κ : Type} [DecidableEq κ] {k a : κ} {x : D} : ∀ {ks : List κ} {vs : List D}, ks.length = vs.length → k ∉ ks → lookK (ks ++ [k]) (vs ++ [x]) a = if a = k then some x else lookK ks vs a
  | [], [], _, _ => by
    simp only [List.nil_append, lookK]
    by_cases e : k = a
    · rw [if_pos e, if_pos e.symm]
    · rw [if_neg e, if_neg fun z => e z.symm]
  | [], v :: vs, h, _ => by simp at h
  | b :: ks, [], h, _ => by simp at h
  | b :: ks, v :: vs, h, hn => by
    simp only [List.mem_cons, not_or] at hn
    simp only [List.cons_append, lookK]
    by_cases e : b = a
    · rw [if_pos e, if_pos e]
      rw [if_neg fun z => hn.1 (z.symm.trans e.symm)]
    · rw [if_neg e, if_neg e]
      exact lookK_app (by simpa using h) hn.2
theorem replK_out {κ : Type} [DecidableEq κ] {k : κ} {x : D} : ∀ {ks : List κ} {vs : List D}, ks.length = vs.length → k ∉ ks → replK ks vs k x = vs
  | [], [], _, _ => rfl
  | [], v :: vs, h, _ => by simp at h
  | b :: ks, [], h, _ => by simp at h
  | b :: ks, v :: vs, h, hn => by
    simp only [List.mem_cons, not_or] at hn
    simp only [replK]
    rw [if_neg fun z => hn.1 z.symm, replK_out (by simpa using h) hn.2]
theorem lookK_repl {κ : Type} [DecidableEq κ] {k a : κ} {x : D} : ∀ {ks : List κ} {vs : List D}, ks.length = vs.length → k ∈ ks → lookK ks (replK ks vs k x) a = if a = k then some x else lookK ks vs a
  | [], _, _, h => by simp at h
  | b :: ks, [], h, _ => by simp at h
  | b :: ks, v :: vs, h, hm => by
    simp only [replK, lookK]
    by_cases e : b = a
    · subst e
      rw [if_pos rfl, if_pos rfl]
      by_cases e2 : b = k
      · rw [if_pos e2, if_pos e2]
      · rw [if_neg e2, if_neg e2]
    · rw [if_neg e, if_neg e]
      by_cases hk : k ∈ ks
      · exact lookK_repl (by simpa using h) hk
      · have e2 : b = k := by
          rcases List.mem_cons.mp hm with z | z
          · exact z.symm
          · exact absurd z hk
        have e3 : a ≠ k := fun z => e (e2.trans z.symm)
        rw [if_neg e3]
        rw [replK_out (by simpa using h) hk]
theorem lookK_put {κ : Type} [DecidableEq κ] {ks : List κ} {vs : List D} {k a : κ} {x : D} (h : ks.length = vs.length) : lookK (putKs ks k) (putVs ks vs k x) a = if a = k then some x else lookK ks vs a := by
  unfold putKs putVs
  by_cases hk : hasK ks k = true
  · rw [if_pos hk, if_pos hk]
    exact lookK_repl h (hasK_iff.mp hk)
  · rw [if_neg hk, if_neg hk]
    exact lookK_app h fun z => hk (hasK_iff.mpr z)
@[simp] theorem onDk_fdt {S : Sto} {ks : List (List DKey)} {vs : List D} : onDk S (.v (.fdt ks vs)) = true := rfl
@[simp] theorem onDk_fdk {S : Sto} {ks : List DKey} {vs : List D} : onDk S (.v (.fdk ks vs)) = true := rfl
theorem onDk_lt {S : Sto} {n : Nat} {ks : List (List DKey)} {vs : List D} (h : S[n]? = some (some (.dt ks vs))) : onDk S (.l n) = true := by
  unfold onDk
  simp [h, isDk]
theorem onDk_lk {S : Sto} {n : Nat} {ks : List DKey} {vs : List D} (h : S[n]? = some (some (.dk ks vs))) : onDk S (.l n) = true := by
  unfold onDk
  simp [h, isDk]
theorem getDo_lt {S : Sto} {n : Nat} {ks : List (List DKey)} {vs es : List D} {k : List DKey} (h : S[n]? = some (some (.dt ks vs))) (hk : keysD es = some k) : getDo S (.l n) (.v (.tup es)) = some (lookK ks vs k) := by
  unfold getDo
  simp [h, getDk, hk]
theorem getDo_ft {S : Sto} {ks : List (List DKey)} {vs es : List D} {k : List DKey} (hk : keysD es = some k) : getDo S (.v (.fdt ks vs)) (.v (.tup es)) = some (lookK ks vs k) := by
  unfold getDo
  simp [getDk, hk]
theorem getDo_lk {S : Sto} {n : Nat} {ks : List DKey} {vs : List D} {d : D} {k : DKey} (h : S[n]? = some (some (.dk ks vs))) (hk : keyD d = some k) : getDo S (.l n) (.v d) = some (lookK ks vs k) := by
  unfold getDo
  simp [h, getDk, hk]
theorem getDo_fk {S : Sto} {ks : List DKey} {vs : List D} {d : D} {k : DKey} (hk : keyD d = some k) : getDo S (.v (.fdk ks vs)) (.v d) = some (lookK ks vs k) := by
  unfold getDo
  simp [getDk, hk]
@[simp] theorem keyD_int {i : Int} : keyD (.int i) = some (.inl i) := rfl
@[simp] theorem keyD_str {x : PySem.Str} : keyD (.str x) = some (.inr x) := rfl
@[simp] theorem keysD_2 {i j : Int} : keysD [.int i, .int j] = some [.inl i, .inl j] := rfl
@[simp] theorem lim_1 : (1 ≤ lim) = True := eq_true (le_lim (by omega))
@[simp] theorem lim_2 : (2 ≤ lim) = True := eq_true (le_lim (by omega))
@[simp] theorem lim_3 : (3 ≤ lim) = True := eq_true (le_lim (by omega))
@[simp] theorem lim_4 : (4 ≤ lim) = True := eq_true (le_lim (by omega))
@[simp] theorem lim_5 : (5 ≤ lim) = True := eq_true (le_lim (by omega))
@[simp] theorem lim_6 : (6 ≤ lim) = True := eq_true (le_lim (by omega))
@[simp] theorem lim_7 : (7 ≤ lim) = True := eq_true (le_lim (by omega))
@[simp] theorem lim_8 : (8 ≤ lim) = True := eq_true (le_lim (by omega))
@[simp] theorem lim_9 : (9 ≤ lim) = True := eq_true (le_lim (by omega))
@[simp] theorem lim_10 : (10 ≤ lim) = True := eq_true (le_lim (by omega))
@[simp] theorem lim_11 : (11 ≤ lim) = True := eq_true (le_lim (by omega))
@[simp] theorem lim_12 : (12 ≤ lim) = True := eq_true (le_lim (by omega))
@[simp] theorem lim_13 : (13 ≤ lim) = True := eq_true (le_lim (by omega))
@[simp] theorem lim_14 : (14 ≤ lim) = True := eq_true (le_lim (by omega))
@[simp] theorem lim_15 : (15 ≤ lim) = True := eq_true (le_lim (by omega))
theorem leave_n {n : Nat} {r : RS} {Q : Ob → Prop} {S0 : Sto} (h : WX r (fun _ _ => False) (fun x S => ∃ o, x = .l n ∧ S = S0 ++ [some o] ∧ Q o) fun _ _ => False) (hn : n = S0.length) : ∃ o, leave n r = .ok (.n o) S0 ∧ Q o := by
  subst hn
  cases r with
  | rt x S =>
    obtain ⟨o, rfl, rfl, q⟩ := h
    refine ⟨o, ?_, q⟩
    simp [fin]
  | _ => exact h.elim
/-- 0, 1, .. -/
def ups (n : Nat) : List Int := (List.range n).map fun i : Nat => (i : Int)
theorem upto_ups {n : Nat} : upto 0 n = (ups n).map D.int := by
  unfold upto ups
  rw [List.map_map]
  refine List.map_congr_left fun i _ => ?_
  simp
theorem mem_ups {n : Nat} {i : Int} : i ∈ ups n ↔ 0 ≤ i ∧ i < n := by
  unfold ups
  simp only [List.mem_map, List.mem_range]
  constructor
  · rintro ⟨k, hk, rfl⟩
    omega
  · rintro ⟨h1, h2⟩
    exact ⟨i.toNat, by omega, by omega⟩
@[simp] theorem ups_len {n : Nat} : (ups n).length = n := by simp [ups]
theorem rng1_ups {n : Nat} {S : Sto} (h : n ≤ 1000000000) : rng1 [.v (.int n)] S = .ok (.fix ((ups n).map D.int)) S := by
  unfold rng1
  dsimp only
  rw [if_pos (fits_nat h), Int.toNat_natCast, upto_ups]
theorem flat_first {α β : Type} {xs pre post : List α} {i : α} {F : α → List β} (e : xs = pre ++ i :: post) (h : ∀ k ∈ pre, F k = []) : xs.flatMap F = F i ++ post.flatMap F := by
  rw [e, List.flatMap_append, List.flatMap_cons, List.flatMap_eq_nil_iff.mpr h, List.nil_append]
theorem filter_first {α : Type} {xs pre post : List α} {x : α} {p : α → Bool} (e : xs = pre ++ x :: post) (h : pre.filter p = []) (hx : p x = true) : xs.filter p = x :: post.filter p := by
  rw [e, List.filter_append, h, List.nil_append, List.filter_cons_of_pos hx]
end M

namespace M
open PySem PySem.Spec PyProof.Rows L2
/-! ### comprehensions over typed lists that draw -/
section
variable {α β : Type} {ρ : MEnv} {g : GP} {tt : TM} {te : VM} {it : IM} {vs : List Nat}
theorem lcL_D {f : α → D} {F : β → D} {Q : α → β → Prop} (J : Sto → Prop) : ∀ (xs : List α) (acc : List D) (S : Sto), J S → acc.length + xs.length ≤ lim →
    (∀ x ∈ xs, ∀ S, J S → ∃ ρ1 b S1, g (f x) ρ = some ρ1 ∧ tt ρ1 S = .ok b S1 ∧ (b = false → J S1) ∧ (b = true → ∃ y S2, te ρ1 S1 = .ok (.v (F y)) S2 ∧ J S2 ∧ Q x y)) →
    ∃ (ps : List (α × β)) (S' : Sto), lcL ρ g tt te (xs.map f) acc S = .ok (.n (.li (acc ++ (ps.map (·.2)).map F))) S' ∧ J S' ∧ (ps.map (·.1)).Sublist xs ∧ ∀ q ∈ ps, Q q.1 q.2
  | [], acc, S, hJ, _, _ => ⟨[], S, by simp [lcL], hJ, by simp, by simp⟩
  | x :: xs, acc, S, hJ, hl, h => by
    obtain ⟨ρ1, b, S1, e1, e2, e3, e4⟩ := h x List.mem_cons_self S hJ
    simp only [List.length_cons] at hl
    have go : lcL ρ g tt te ((x :: xs).map f) acc S = lcTurn ρ g tt te (f x) acc S (lcL ρ g tt te (xs.map f)) := rfl
    rw [go]
    unfold lcTurn
    rw [e1]
    dsimp only
    rw [e2]
    dsimp only
    cases b with
    | false =>
      obtain ⟨ps, S', r1, r2, r3, r4⟩ := lcL_D J xs acc S1 (e3 rfl) (by omega) fun y hy => h y (List.mem_cons_of_mem _ hy)
      exact ⟨ps, S', by rw [if_neg Bool.false_ne_true]; exact r1, r2, r3.trans (List.sublist_cons_self _ _), r4⟩
    | true =>
      obtain ⟨y, S2, e5, e6, e7⟩ := e4 rfl
      obtain ⟨ps, S', r1, r2, r3, r4⟩ := lcL_D J xs (acc ++ [F y]) S2 e6 (by simp; omega) fun y hy => h y (List.mem_cons_of_mem _ hy)
      refine ⟨(x, y) :: ps, S', ?_, r2, ?_, ?_⟩
      · rw [if_pos rfl, e5]
        dsimp only
        rw [if_pos (by omega), r1]
        simp
      · rw [List.map_cons]
        exact r3.cons_cons _
      · intro q hq
        rcases List.mem_cons.mp hq with rfl | hq
        · exact e7
        · exact r4 q hq
/-- with a filter -/
theorem lcD {f : α → D} {F : β → D} {Q : α → β → Prop} {S0 S : Sto} (J : Sto → Prop) {xs : List α} (hi : it ρ S0 = .ok (.fix (xs.map f)) S) (hJ : J S) (hl : xs.length ≤ lim)
    (h : ∀ x ∈ xs, ∀ S, J S → ∃ ρ1 b S1, g (f x) (wipeM ρ vs) = some ρ1 ∧ tt ρ1 S = .ok b S1 ∧ (b = false → J S1) ∧ (b = true → ∃ y S2, te ρ1 S1 = .ok (.v (F y)) S2 ∧ J S2 ∧ Q x y)) :
    ∃ (ps : List (α × β)) (S' : Sto), mLC it g tt te vs ρ S0 = .ok (.n (.li ((ps.map (·.2)).map F))) S' ∧ J S' ∧ (ps.map (·.1)).Sublist xs ∧ ∀ q ∈ ps, Q q.1 q.2 := by
  obtain ⟨ps, S', e, r⟩ := lcL_D J xs [] S hJ (by simpa using hl) h
  refine ⟨ps, S', ?_, r⟩
  rw [mLC_ap, hi]
  show lcL _ g tt te (xs.map f) [] S = _
  rw [e]
  rfl
theorem lcL_DY {f : α → D} {F : β → D} {Q : α → β → Prop} (J : Sto → Prop) : ∀ (xs : List α) (acc : List D) (S : Sto), J S → acc.length + xs.length ≤ lim →
    (∀ x ∈ xs, ∀ S, J S → ∃ ρ1, g (f x) ρ = some ρ1 ∧ ∃ y S2, te ρ1 S = .ok (.v (F y)) S2 ∧ J S2 ∧ Q x y) →
    ∃ (ps : List (α × β)) (S' : Sto), lcL ρ g mYes te (xs.map f) acc S = .ok (.n (.li (acc ++ (ps.map (·.2)).map F))) S' ∧ J S' ∧ ps.map (·.1) = xs ∧ ∀ q ∈ ps, Q q.1 q.2
  | [], acc, S, hJ, _, _ => ⟨[], S, by simp [lcL], hJ, by simp, by simp⟩
  | x :: xs, acc, S, hJ, hl, h => by
    obtain ⟨ρ1, e1, y, S2, e5, e6, e7⟩ := h x List.mem_cons_self S hJ
    simp only [List.length_cons] at hl
    have go : lcL ρ g mYes te ((x :: xs).map f) acc S = lcTurn ρ g mYes te (f x) acc S (lcL ρ g mYes te (xs.map f)) := rfl
    rw [go]
    unfold lcTurn
    rw [e1]
    dsimp only [mYes_ap]
    obtain ⟨ps, S', r1, r2, r3, r4⟩ := lcL_DY J xs (acc ++ [F y]) S2 e6 (by simp; omega) fun y hy => h y (List.mem_cons_of_mem _ hy)
    refine ⟨(x, y) :: ps, S', ?_, r2, by rw [List.map_cons, r3], ?_⟩
    · rw [if_pos rfl, e5]
      dsimp only
      rw [if_pos (by omega), r1]
      simp
    · intro q hq
      rcases List.mem_cons.mp hq with rfl | hq
      · exact e7
      · exact r4 q hq
/-- without a filter -/
theorem lcDY {f : α → D} {F : β → D} {Q : α → β → Prop} {S0 S : Sto} (J : Sto → Prop) {xs : List α} (hi : it ρ S0 = .ok (.fix (xs.map f)) S) (hJ : J S) (hl : xs.length ≤ lim)
    (h : ∀ x ∈ xs, ∀ S, J S → ∃ ρ1, g (f x) (wipeM ρ vs) = some ρ1 ∧ ∃ y S2, te ρ1 S = .ok (.v (F y)) S2 ∧ J S2 ∧ Q x y) :
    ∃ (ps : List (α × β)) (S' : Sto), mLC it g mYes te vs ρ S0 = .ok (.n (.li ((ps.map (·.2)).map F))) S' ∧ J S' ∧ ps.map (·.1) = xs ∧ ∀ q ∈ ps, Q q.1 q.2 := by
  obtain ⟨ps, S', e, r⟩ := lcL_DY J xs [] S hJ (by simpa using hl) h
  refine ⟨ps, S', ?_, r⟩
  rw [mLC_ap, hi]
  show lcL _ g mYes te (xs.map f) [] S = _
  rw [e]
  rfl
end
end M

namespace M
open PySem PySem.Spec PyProof.Rows L2
/-! ### data that may be shown, built up -/
structure Gw (k w : Nat) (d : D) : Prop where
  ok : d.ok = true
  dep : d.dep ≤ k
  wt : d.wt ≤ w
section
variable {k w m : Nat} {d : D} {ds : List D}
theorem Gw.gd (h : Gw k w d) (hk : k ≤ 64) (hw : w ≤ 220000) : Gd d := ⟨h.ok, Nat.le_trans h.dep hk, Nat.le_trans h.wt hw⟩
theorem Gw.mono {k' w' : Nat} (h : Gw k w d) (hk : k ≤ k') (hw : w ≤ w') : Gw k' w' d := ⟨h.ok, Nat.le_trans h.dep hk, Nat.le_trans h.wt hw⟩
theorem gw_non : Gw k w .non := ⟨by simp [D.ok], by simp [D.dep], by simp [D.wt]⟩
theorem gw_bl {b : Bool} : Gw k w (.bl b) := ⟨by simp [D.ok], by simp [D.dep], by simp [D.wt]⟩
theorem gw_int {i : Int} (h : i.natAbs < 1000000000000) (hw : 41 ≤ w) : Gw k w (.int i) := ⟨by
  simp only [D.ok, decide_eq_true_eq]
  exact Nat.lt_of_lt_of_le h (by decide), by simp [D.dep], by
  simp only [D.wt]
  rw [if_pos h]
  exact hw⟩
theorem gw_big {i : Int} (h : i.natAbs < 1000000000000000000000000000000000000000000000000000000000000) (hw : 201 ≤ w) : Gw k w (.int i) := ⟨by
  simp only [D.ok, decide_eq_true_eq]
  exact h, by simp [D.dep], by
  simp only [D.wt]
  split <;> omega⟩
theorem gw_str {x : PySem.Str} (h : PyData.strOk x = true) (hw : x.cps.size ≤ w) : Gw k w (.str x) := ⟨by simpa only [D.ok] using h, by simp [D.dep], by simpa only [D.wt] using hw⟩
theorem gw_tup (h : ∀ d ∈ ds, Gw k w d) (hl : ds.length ≤ m) : Gw (k + 1) (m * (w + 1)) (.tup ds) := ⟨by
  simp only [D.ok]
  exact oks_iff.mpr fun d hd => (h d hd).ok, by
  simp only [D.dep]
  exact Nat.succ_le_succ (deps_le.mpr fun d hd => (h d hd).dep), by
  simp only [D.wt]
  exact Nat.le_trans (wts_le fun d hd => (h d hd).wt) (Nat.mul_le_mul_right _ hl)⟩
theorem gw_lst (h : ∀ d ∈ ds, Gw k w d) (hl : ds.length ≤ m) : Gw (k + 1) (m * (w + 1)) (.lst ds) := ⟨by
  simp only [D.ok]
  exact oks_iff.mpr fun d hd => (h d hd).ok, by
  simp only [D.dep]
  exact Nat.succ_le_succ (deps_le.mpr fun d hd => (h d hd).dep), by
  simp only [D.wt]
  exact Nat.le_trans (wts_le fun d hd => (h d hd).wt) (Nat.mul_le_mul_right _ hl)⟩
theorem gw_ints {ns : List Int} (h : ∀ i ∈ ns, i.natAbs < 1000000000000) (hl : ns.length ≤ m) : Gw 1 (m * 42) (.tup (ns.map D.int)) := gw_tup (k := 0) (w := 41) (fun d hd => by
  obtain ⟨i, hi, rfl⟩ := List.mem_map.mp hd
  exact gw_int (h i hi) (Nat.le_refl _)) (by simpa using hl)
end
/-! ### a law's end (a structure, so that nothing runs the program while it is only looked at) -/
structure Lw (r : RS) : Prop where
  out : WX r (fun _ _ => False) (fun x _ => x = .v (.bl true)) (fun _ _ => False)
theorem Lw.law {r : RS} (h : Lw r) : ∃ S, leave 0 r = .ok (.v (.bl true)) S := by
  obtain ⟨h⟩ := h
  cases r with
  | rt x S =>
    have e : x = .v (.bl true) := h
    subst e
    exact ⟨S.take 0, rfl⟩
  | _ => exact h.elim
section
variable {a b : SM} {ρ ρ' : MEnv} {S S' : Sto}
theorem lw_to (e : a ρ S = .nx ρ' S') (k : Lw (b ρ' S')) : Lw (sSeq a b ρ S) := ⟨wx_to e k.out⟩
theorem lw_via (M : MEnv → Sto → Prop) (h : WX (a ρ S) M (fun x _ => x = .v (.bl true)) (fun _ _ => False)) (k : ∀ ρ S, M ρ S → Lw (b ρ S)) : Lw (sSeq a b ρ S) := ⟨wx_via M h fun ρ S h => (k ρ S h).out⟩
theorem lw_end (e : a ρ S = .rt (.v (.bl true)) S') : Lw (a ρ S) := ⟨by rw [e]; exact rfl⟩
end
end M

namespace G00
open PySem PySem.Spec PyProof.Rows L2 M
def topS (i : Nat) : Stmt := PySem.Challenge.pw_homeandaway_k00_plans_and_patterns.main.body.getD i (.Pass ⟨0, 0, 0, 0⟩)
abbrev s_is_round : Stmt := topS 18
abbrev N_is_round : List PySem.Str := ["n", "games", "told", "teams", "game", "team"]
theorem sc_is_round : FnScope ["n", "games", "told", "teams", "game", "team"] ["n", "games"] (defScope s_is_round) := ⟨rfl, rfl, rfl, by decide +kernel, rfl, by decide +kernel, by decide +kernel⟩
abbrev s_is_plan : Stmt := topS 19
abbrev N_is_plan : List PySem.Str := ["n", "plan", "games"]
theorem sc_is_plan : FnScope ["n", "plan", "games"] ["n", "plan"] (defScope s_is_plan) := ⟨rfl, rfl, rfl, by decide +kernel, rfl, by decide +kernel, by decide +kernel⟩
abbrev s_check_plan : Stmt := topS 20
abbrev N_check_plan : List PySem.Str := ["n", "plan"]
theorem sc_check_plan : FnScope ["n", "plan"] ["n", "plan"] (defScope s_check_plan) := ⟨rfl, rfl, rfl, by decide +kernel, rfl, by decide +kernel, by decide +kernel⟩
abbrev s_check_team : Stmt := topS 21
abbrev N_check_team : List PySem.Str := ["n", "team"]
theorem sc_check_team : FnScope ["n", "team"] ["n", "team"] (defScope s_check_team) := ⟨rfl, rfl, rfl, by decide +kernel, rfl, by decide +kernel, by decide +kernel⟩
abbrev s_counts_of : Stmt := topS 22
abbrev N_counts_of : List PySem.Str := ["plan", "found", "games", "home", "away"]
theorem sc_counts_of : FnScope ["plan", "found", "games", "home", "away"] ["plan"] (defScope s_counts_of) := ⟨rfl, rfl, rfl, by decide +kernel, rfl, by decide +kernel, by decide +kernel⟩
abbrev s_meetings : Stmt := topS 23
abbrev N_meetings : List PySem.Str := ["counts", "i", "j"]
theorem sc_meetings : FnScope ["counts", "i", "j"] ["counts", "i", "j"] (defScope s_meetings) := ⟨rfl, rfl, rfl, by decide +kernel, rfl, by decide +kernel, by decide +kernel⟩
abbrev s_trouble_of : Stmt := topS 24
abbrev N_trouble_of : List PySem.Str := ["n", "plan", "double", "counts", "i", "j", "many"]
theorem sc_trouble_of : FnScope ["n", "plan", "double", "counts", "i", "j", "many"] ["n", "plan", "double"] (defScope s_trouble_of) := ⟨rfl, rfl, rfl, by decide +kernel, rfl, by decide +kernel, by decide +kernel⟩
abbrev s_single_trouble : Stmt := topS 25
abbrev N_single_trouble : List PySem.Str := ["n", "plan"]
theorem sc_single_trouble : FnScope ["n", "plan"] ["n", "plan"] (defScope s_single_trouble) := ⟨rfl, rfl, rfl, by decide +kernel, rfl, by decide +kernel, by decide +kernel⟩
abbrev s_double_trouble : Stmt := topS 26
abbrev N_double_trouble : List PySem.Str := ["n", "plan"]
theorem sc_double_trouble : FnScope ["n", "plan"] ["n", "plan"] (defScope s_double_trouble) := ⟨rfl, rfl, rfl, by decide +kernel, rfl, by decide +kernel, by decide +kernel⟩
abbrev s_tells_trouble : Stmt := topS 27
abbrev N_tells_trouble : List PySem.Str := ["n", "plan", "told", "double", "word", "i", "j", "counts", "many"]
theorem sc_tells_trouble : FnScope ["n", "plan", "told", "double", "word", "i", "j", "counts", "many"] ["n", "plan", "told", "double"] (defScope s_tells_trouble) := ⟨rfl, rfl, rfl, by decide +kernel, rfl, by decide +kernel, by decide +kernel⟩
abbrev s_is_single_trouble : Stmt := topS 28
abbrev N_is_single_trouble : List PySem.Str := ["n", "plan", "told"]
theorem sc_is_single_trouble : FnScope ["n", "plan", "told"] ["n", "plan", "told"] (defScope s_is_single_trouble) := ⟨rfl, rfl, rfl, by decide +kernel, rfl, by decide +kernel, by decide +kernel⟩
abbrev s_is_double_trouble : Stmt := topS 29
abbrev N_is_double_trouble : List PySem.Str := ["n", "plan", "told"]
theorem sc_is_double_trouble : FnScope ["n", "plan", "told"] ["n", "plan", "told"] (defScope s_is_double_trouble) := ⟨rfl, rfl, rfl, by decide +kernel, rfl, by decide +kernel, by decide +kernel⟩
abbrev s_is_single : Stmt := topS 30
abbrev N_is_single : List PySem.Str := ["n", "plan"]
theorem sc_is_single : FnScope ["n", "plan"] ["n", "plan"] (defScope s_is_single) := ⟨rfl, rfl, rfl, by decide +kernel, rfl, by decide +kernel, by decide +kernel⟩
abbrev s_is_double : Stmt := topS 31
abbrev N_is_double : List PySem.Str := ["n", "plan"]
theorem sc_is_double : FnScope ["n", "plan"] ["n", "plan"] (defScope s_is_double) := ⟨rfl, rfl, rfl, by decide +kernel, rfl, by decide +kernel, by decide +kernel⟩
abbrev s_is_full : Stmt := topS 32
abbrev N_is_full : List PySem.Str := ["n", "plan", "least"]
theorem sc_is_full : FnScope ["n", "plan", "least"] ["n", "plan"] (defScope s_is_full) := ⟨rfl, rfl, rfl, by decide +kernel, rfl, by decide +kernel, by decide +kernel⟩
abbrev s_pattern_of : Stmt := topS 33
abbrev N_pattern_of : List PySem.Str := ["plan", "team", "found", "games", "entry", "home", "away"]
theorem sc_pattern_of : FnScope ["plan", "team", "found", "games", "entry", "home", "away"] ["plan", "team"] (defScope s_pattern_of) := ⟨rfl, rfl, rfl, by decide +kernel, rfl, by decide +kernel, by decide +kernel⟩
abbrev s_pattern : Stmt := topS 34
abbrev N_pattern : List PySem.Str := ["n", "plan", "team"]
theorem sc_pattern : FnScope ["n", "plan", "team"] ["n", "plan", "team"] (defScope s_pattern) := ⟨rfl, rfl, rfl, by decide +kernel, rfl, by decide +kernel, by decide +kernel⟩
abbrev s_breaks_in : Stmt := topS 35
abbrev N_breaks_in : List PySem.Str := ["entries", "found", "last", "at", "entry"]
theorem sc_breaks_in : FnScope ["entries", "found", "last", "at", "entry"] ["entries"] (defScope s_breaks_in) := ⟨rfl, rfl, rfl, by decide +kernel, rfl, by decide +kernel, by decide +kernel⟩
abbrev s_breaks : Stmt := topS 36
abbrev N_breaks : List PySem.Str := ["n", "plan", "team"]
theorem sc_breaks : FnScope ["n", "plan", "team"] ["n", "plan"] (defScope s_breaks) := ⟨rfl, rfl, rfl, by decide +kernel, rfl, by decide +kernel, by decide +kernel⟩
abbrev s_run_in : Stmt := topS 37
abbrev N_run_in : List PySem.Str := ["entries", "most", "here", "last", "entry"]
theorem sc_run_in : FnScope ["entries", "most", "here", "last", "entry"] ["entries"] (defScope s_run_in) := ⟨rfl, rfl, rfl, by decide +kernel, rfl, by decide +kernel, by decide +kernel⟩
abbrev s_longest_run : Stmt := topS 38
abbrev N_longest_run : List PySem.Str := ["n", "plan", "team"]
theorem sc_longest_run : FnScope ["n", "plan", "team"] ["n", "plan"] (defScope s_longest_run) := ⟨rfl, rfl, rfl, by decide +kernel, rfl, by decide +kernel, by decide +kernel⟩
abbrev s__law_number : Stmt := topS 40
abbrev N__law_number : List PySem.Str := ["cell"]
theorem sc__law_number : FnScope ["cell"] ["cell"] (defScope s__law_number) := ⟨rfl, rfl, rfl, by decide +kernel, rfl, by decide +kernel, by decide +kernel⟩
abbrev s__law_draws : Stmt := topS 41
abbrev N__law_draws : List PySem.Str := ["script", "draws", "cell", "rest", "k", "once", "twice"]
theorem sc__law_draws : FnScope ["script", "draws", "cell", "rest", "k", "once", "twice"] ["script"] (defScope s__law_draws) := ⟨rfl, rfl, rfl, by decide +kernel, rfl, by decide +kernel, by decide +kernel⟩
abbrev s__law_flat : Stmt := topS 42
abbrev N__law_flat : List PySem.Str := ["rows", "found", "row"]
theorem sc__law_flat : FnScope ["rows", "found", "row"] ["rows"] (defScope s__law_flat) := ⟨rfl, rfl, rfl, by decide +kernel, rfl, by decide +kernel, by decide +kernel⟩
abbrev s__law_next : Stmt := topS 43
abbrev N__law_next : List PySem.Str := ["draws"]
theorem sc__law_next : FnScope ["draws"] ["draws"] (defScope s__law_next) := ⟨rfl, rfl, rfl, by decide +kernel, rfl, by decide +kernel, by decide +kernel⟩
abbrev s__law_more : Stmt := topS 44
abbrev N__law_more : List PySem.Str := ["draws", "many", "seed", "more", "k"]
theorem sc__law_more : FnScope ["draws", "many", "seed", "more", "k"] ["draws", "many"] (defScope s__law_more) := ⟨rfl, rfl, rfl, by decide +kernel, rfl, by decide +kernel, by decide +kernel⟩
abbrev s__law_kind : Stmt := topS 46
abbrev N__law_kind : List PySem.Str := ["error", "names", "found"]
theorem sc__law_kind : FnScope ["error", "names", "found"] ["error"] (defScope s__law_kind) := ⟨rfl, rfl, rfl, by decide +kernel, rfl, by decide +kernel, by decide +kernel⟩
abbrev s__law_mixed : Stmt := topS 49
abbrev N__law_mixed : List PySem.Str := ["draws", "n", "order", "at", "place"]
theorem sc__law_mixed : FnScope ["draws", "n", "order", "at", "place"] ["draws", "n"] (defScope s__law_mixed) := ⟨rfl, rfl, rfl, by decide +kernel, rfl, by decide +kernel, by decide +kernel⟩
abbrev s__law_circle : Stmt := topS 50
abbrev N__law_circle : List PySem.Str := ["n", "m", "found", "r", "games", "i", "one", "other"]
theorem sc__law_circle : FnScope ["n", "m", "found", "r", "games", "i", "one", "other"] ["n"] (defScope s__law_circle) := ⟨rfl, rfl, rfl, by decide +kernel, rfl, by decide +kernel, by decide +kernel⟩
abbrev s__law_any_circle : Stmt := topS 51
abbrev N__law_any_circle : List PySem.Str := ["n", "games", "game"]
theorem sc__law_any_circle : FnScope ["n", "games", "game"] ["n"] (defScope s__law_any_circle) := ⟨rfl, rfl, rfl, by decide +kernel, rfl, by decide +kernel, by decide +kernel⟩
abbrev s__law_renamed : Stmt := topS 52
abbrev N__law_renamed : List PySem.Str := ["plan", "order", "games", "one", "other"]
theorem sc__law_renamed : FnScope ["plan", "order", "games", "one", "other"] ["plan", "order"] (defScope s__law_renamed) := ⟨rfl, rfl, rfl, by decide +kernel, rfl, by decide +kernel, by decide +kernel⟩
abbrev s__law_plan : Stmt := topS 53
abbrev N__law_plan : List PySem.Str := ["draws", "most", "n", "plan", "kind", "games", "game", "one", "other"]
theorem sc__law_plan : FnScope ["draws", "most", "n", "plan", "kind", "games", "game", "one", "other"] ["draws", "most"] (defScope s__law_plan) := ⟨rfl, rfl, rfl, by decide +kernel, rfl, by decide +kernel, by decide +kernel⟩
abbrev s__law_games : Stmt := topS 54
abbrev N__law_games : List PySem.Str := ["plan", "found", "games"]
theorem sc__law_games : FnScope ["plan", "found", "games"] ["plan"] (defScope s__law_games) := ⟨rfl, rfl, rfl, by decide +kernel, rfl, by decide +kernel, by decide +kernel⟩
abbrev s__law_troubles : Stmt := topS 55
abbrev N__law_troubles : List PySem.Str := ["n", "plan", "double", "games", "found", "i", "j", "many"]
theorem sc__law_troubles : FnScope ["n", "plan", "double", "games", "found", "i", "j", "many"] ["n", "plan", "double"] (defScope s__law_troubles) := ⟨rfl, rfl, rfl, by decide +kernel, rfl, by decide +kernel, by decide +kernel⟩
abbrev s__law_pattern : Stmt := topS 56
abbrev N__law_pattern : List PySem.Str := ["plan", "team", "games", "one", "other"]
theorem sc__law_pattern : FnScope ["plan", "team", "games", "one", "other"] ["plan", "team"] (defScope s__law_pattern) := ⟨rfl, rfl, rfl, by decide +kernel, rfl, by decide +kernel, by decide +kernel⟩
abbrev s__law_breaks : Stmt := topS 57
abbrev N__law_breaks : List PySem.Str := ["entries", "found", "at", "ahead", "entry"]
theorem sc__law_breaks : FnScope ["entries", "found", "at", "ahead", "entry"] ["entries"] (defScope s__law_breaks) := ⟨rfl, rfl, rfl, by decide +kernel, rfl, by decide +kernel, by decide +kernel⟩
abbrev s__law_run : Stmt := topS 58
abbrev N__law_run : List PySem.Str := ["entries", "told", "entry", "size", "at"]
theorem sc__law_run : FnScope ["entries", "told", "entry", "size", "at"] ["entries"] (defScope s__law_run) := ⟨rfl, rfl, rfl, by decide +kernel, rfl, by decide +kernel, by decide +kernel⟩
abbrev s__law_asked : Stmt := topS 59
abbrev N__law_asked : List PySem.Str := ["way", "n", "plan", "one", "error"]
theorem sc__law_asked : FnScope ["way", "n", "plan", "one", "error"] ["way", "n", "plan", "one"] (defScope s__law_asked) := ⟨rfl, rfl, rfl, by decide +kernel, rfl, by decide +kernel, by decide +kernel⟩
abbrev s_law : Stmt := topS 60
abbrev N_law : List PySem.Str := ["script", "draws", "known", "answers", "n", "plan", "single", "double", "least", "full", "patterns", "due", "way", "bad", "wrong", "told", "found", "i", "j", "team", "entries", "size"]
theorem sc_law : FnScope ["script", "draws", "known", "answers", "n", "plan", "single", "double", "least", "full", "patterns", "due", "way", "bad", "wrong", "told", "found", "i", "j", "team", "entries", "size"] ["script"] (defScope s_law) := ⟨rfl, rfl, rfl, by decide +kernel, rfl, by decide +kernel, by decide +kernel⟩
/-- what the top has written -/
structure Fx (K : PySem.W.Frag) (w : World) (mg : PySem.Str → Option Value) where
  a_is_round : Addr
  d_is_round : FuncData
  F_is_round : Fun K "is_round" "is_round" s_is_round a_is_round d_is_round
  g_is_round : mg "is_round" = some (.ref a_is_round)
  b_is_round : Binds K d_is_round ["n", "games"] []
  a_is_plan : Addr
  d_is_plan : FuncData
  F_is_plan : Fun K "is_plan" "is_plan" s_is_plan a_is_plan d_is_plan
  g_is_plan : mg "is_plan" = some (.ref a_is_plan)
  b_is_plan : Binds K d_is_plan ["n", "plan"] []
  a_check_plan : Addr
  d_check_plan : FuncData
  F_check_plan : Fun K "check_plan" "check_plan" s_check_plan a_check_plan d_check_plan
  g_check_plan : mg "check_plan" = some (.ref a_check_plan)
  b_check_plan : Binds K d_check_plan ["n", "plan"] []
  a_check_team : Addr
  d_check_team : FuncData
  F_check_team : Fun K "check_team" "check_team" s_check_team a_check_team d_check_team
  g_check_team : mg "check_team" = some (.ref a_check_team)
  b_check_team : Binds K d_check_team ["n", "team"] []
  a_counts_of : Addr
  d_counts_of : FuncData
  F_counts_of : Fun K "counts_of" "counts_of" s_counts_of a_counts_of d_counts_of
  g_counts_of : mg "counts_of" = some (.ref a_counts_of)
  b_counts_of : Binds K d_counts_of ["plan"] []
  a_meetings : Addr
  d_meetings : FuncData
  F_meetings : Fun K "meetings" "meetings" s_meetings a_meetings d_meetings
  g_meetings : mg "meetings" = some (.ref a_meetings)
  b_meetings : Binds K d_meetings ["counts", "i", "j"] []
  a_trouble_of : Addr
  d_trouble_of : FuncData
  F_trouble_of : Fun K "trouble_of" "trouble_of" s_trouble_of a_trouble_of d_trouble_of
  g_trouble_of : mg "trouble_of" = some (.ref a_trouble_of)
  b_trouble_of : Binds K d_trouble_of ["n", "plan", "double"] []
  a_single_trouble : Addr
  d_single_trouble : FuncData
  F_single_trouble : Fun K "single_trouble" "single_trouble" s_single_trouble a_single_trouble d_single_trouble
  g_single_trouble : mg "single_trouble" = some (.ref a_single_trouble)
  b_single_trouble : Binds K d_single_trouble ["n", "plan"] []
  a_double_trouble : Addr
  d_double_trouble : FuncData
  F_double_trouble : Fun K "double_trouble" "double_trouble" s_double_trouble a_double_trouble d_double_trouble
  g_double_trouble : mg "double_trouble" = some (.ref a_double_trouble)
  b_double_trouble : Binds K d_double_trouble ["n", "plan"] []
  a_tells_trouble : Addr
  d_tells_trouble : FuncData
  F_tells_trouble : Fun K "tells_trouble" "tells_trouble" s_tells_trouble a_tells_trouble d_tells_trouble
  g_tells_trouble : mg "tells_trouble" = some (.ref a_tells_trouble)
  b_tells_trouble : Binds K d_tells_trouble ["n", "plan", "told", "double"] []
  a_is_single_trouble : Addr
  d_is_single_trouble : FuncData
  F_is_single_trouble : Fun K "is_single_trouble" "is_single_trouble" s_is_single_trouble a_is_single_trouble d_is_single_trouble
  g_is_single_trouble : mg "is_single_trouble" = some (.ref a_is_single_trouble)
  b_is_single_trouble : Binds K d_is_single_trouble ["n", "plan", "told"] []
  a_is_double_trouble : Addr
  d_is_double_trouble : FuncData
  F_is_double_trouble : Fun K "is_double_trouble" "is_double_trouble" s_is_double_trouble a_is_double_trouble d_is_double_trouble
  g_is_double_trouble : mg "is_double_trouble" = some (.ref a_is_double_trouble)
  b_is_double_trouble : Binds K d_is_double_trouble ["n", "plan", "told"] []
  a_is_single : Addr
  d_is_single : FuncData
  F_is_single : Fun K "is_single" "is_single" s_is_single a_is_single d_is_single
  g_is_single : mg "is_single" = some (.ref a_is_single)
  b_is_single : Binds K d_is_single ["n", "plan"] []
  a_is_double : Addr
  d_is_double : FuncData
  F_is_double : Fun K "is_double" "is_double" s_is_double a_is_double d_is_double
  g_is_double : mg "is_double" = some (.ref a_is_double)
  b_is_double : Binds K d_is_double ["n", "plan"] []
  a_is_full : Addr
  d_is_full : FuncData
  F_is_full : Fun K "is_full" "is_full" s_is_full a_is_full d_is_full
  g_is_full : mg "is_full" = some (.ref a_is_full)
  b_is_full : Binds K d_is_full ["n", "plan"] []
  a_pattern_of : Addr
  d_pattern_of : FuncData
  F_pattern_of : Fun K "pattern_of" "pattern_of" s_pattern_of a_pattern_of d_pattern_of
  g_pattern_of : mg "pattern_of" = some (.ref a_pattern_of)
  b_pattern_of : Binds K d_pattern_of ["plan", "team"] []
  a_pattern : Addr
  d_pattern : FuncData
  F_pattern : Fun K "pattern" "pattern" s_pattern a_pattern d_pattern
  g_pattern : mg "pattern" = some (.ref a_pattern)
  b_pattern : Binds K d_pattern ["n", "plan", "team"] []
  a_breaks_in : Addr
  d_breaks_in : FuncData
  F_breaks_in : Fun K "breaks_in" "breaks_in" s_breaks_in a_breaks_in d_breaks_in
  g_breaks_in : mg "breaks_in" = some (.ref a_breaks_in)
  b_breaks_in : Binds K d_breaks_in ["entries"] []
  a_breaks : Addr
  d_breaks : FuncData
  F_breaks : Fun K "breaks" "breaks" s_breaks a_breaks d_breaks
  g_breaks : mg "breaks" = some (.ref a_breaks)
  b_breaks : Binds K d_breaks ["n", "plan"] []
  a_run_in : Addr
  d_run_in : FuncData
  F_run_in : Fun K "run_in" "run_in" s_run_in a_run_in d_run_in
  g_run_in : mg "run_in" = some (.ref a_run_in)
  b_run_in : Binds K d_run_in ["entries"] []
  a_longest_run : Addr
  d_longest_run : FuncData
  F_longest_run : Fun K "longest_run" "longest_run" s_longest_run a_longest_run d_longest_run
  g_longest_run : mg "longest_run" = some (.ref a_longest_run)
  b_longest_run : Binds K d_longest_run ["n", "plan"] []
  a__law_number : Addr
  d__law_number : FuncData
  F__law_number : Fun K "_law_number" "_law_number" s__law_number a__law_number d__law_number
  g__law_number : mg "_law_number" = some (.ref a__law_number)
  b__law_number : Binds K d__law_number ["cell"] []
  a__law_draws : Addr
  d__law_draws : FuncData
  F__law_draws : Fun K "_law_draws" "_law_draws" s__law_draws a__law_draws d__law_draws
  g__law_draws : mg "_law_draws" = some (.ref a__law_draws)
  b__law_draws : Binds K d__law_draws ["script"] []
  a__law_flat : Addr
  d__law_flat : FuncData
  F__law_flat : Fun K "_law_flat" "_law_flat" s__law_flat a__law_flat d__law_flat
  g__law_flat : mg "_law_flat" = some (.ref a__law_flat)
  b__law_flat : Binds K d__law_flat ["rows"] []
  a__law_next : Addr
  d__law_next : FuncData
  F__law_next : Fun K "_law_next" "_law_next" s__law_next a__law_next d__law_next
  g__law_next : mg "_law_next" = some (.ref a__law_next)
  b__law_next : Binds K d__law_next ["draws"] []
  a__law_more : Addr
  d__law_more : FuncData
  F__law_more : Fun K "_law_more" "_law_more" s__law_more a__law_more d__law_more
  g__law_more : mg "_law_more" = some (.ref a__law_more)
  b__law_more : Binds K d__law_more ["draws", "many"] []
  a__law_kind : Addr
  d__law_kind : FuncData
  F__law_kind : Fun K "_law_kind" "_law_kind" s__law_kind a__law_kind d__law_kind
  g__law_kind : mg "_law_kind" = some (.ref a__law_kind)
  b__law_kind : Binds K d__law_kind ["error"] []
  a__law_mixed : Addr
  d__law_mixed : FuncData
  F__law_mixed : Fun K "_law_mixed" "_law_mixed" s__law_mixed a__law_mixed d__law_mixed
  g__law_mixed : mg "_law_mixed" = some (.ref a__law_mixed)
  b__law_mixed : Binds K d__law_mixed ["draws", "n"] []
  a__law_circle : Addr
  d__law_circle : FuncData
  F__law_circle : Fun K "_law_circle" "_law_circle" s__law_circle a__law_circle d__law_circle
  g__law_circle : mg "_law_circle" = some (.ref a__law_circle)
  b__law_circle : Binds K d__law_circle ["n"] []
  a__law_any_circle : Addr
  d__law_any_circle : FuncData
  F__law_any_circle : Fun K "_law_any_circle" "_law_any_circle" s__law_any_circle a__law_any_circle d__law_any_circle
  g__law_any_circle : mg "_law_any_circle" = some (.ref a__law_any_circle)
  b__law_any_circle : Binds K d__law_any_circle ["n"] []
  a__law_renamed : Addr
  d__law_renamed : FuncData
  F__law_renamed : Fun K "_law_renamed" "_law_renamed" s__law_renamed a__law_renamed d__law_renamed
  g__law_renamed : mg "_law_renamed" = some (.ref a__law_renamed)
  b__law_renamed : Binds K d__law_renamed ["plan", "order"] []
  a__law_plan : Addr
  d__law_plan : FuncData
  F__law_plan : Fun K "_law_plan" "_law_plan" s__law_plan a__law_plan d__law_plan
  g__law_plan : mg "_law_plan" = some (.ref a__law_plan)
  b__law_plan : Binds K d__law_plan ["draws", "most"] []
  a__law_games : Addr
  d__law_games : FuncData
  F__law_games : Fun K "_law_games" "_law_games" s__law_games a__law_games d__law_games
  g__law_games : mg "_law_games" = some (.ref a__law_games)
  b__law_games : Binds K d__law_games ["plan"] []
  a__law_troubles : Addr
  d__law_troubles : FuncData
  F__law_troubles : Fun K "_law_troubles" "_law_troubles" s__law_troubles a__law_troubles d__law_troubles
  g__law_troubles : mg "_law_troubles" = some (.ref a__law_troubles)
  b__law_troubles : Binds K d__law_troubles ["n", "plan", "double"] []
  a__law_pattern : Addr
  d__law_pattern : FuncData
  F__law_pattern : Fun K "_law_pattern" "_law_pattern" s__law_pattern a__law_pattern d__law_pattern
  g__law_pattern : mg "_law_pattern" = some (.ref a__law_pattern)
  b__law_pattern : Binds K d__law_pattern ["plan", "team"] []
  a__law_breaks : Addr
  d__law_breaks : FuncData
  F__law_breaks : Fun K "_law_breaks" "_law_breaks" s__law_breaks a__law_breaks d__law_breaks
  g__law_breaks : mg "_law_breaks" = some (.ref a__law_breaks)
  b__law_breaks : Binds K d__law_breaks ["entries"] []
  a__law_run : Addr
  d__law_run : FuncData
  F__law_run : Fun K "_law_run" "_law_run" s__law_run a__law_run d__law_run
  g__law_run : mg "_law_run" = some (.ref a__law_run)
  b__law_run : Binds K d__law_run ["entries"] []
  a__law_asked : Addr
  d__law_asked : FuncData
  F__law_asked : Fun K "_law_asked" "_law_asked" s__law_asked a__law_asked d__law_asked
  g__law_asked : mg "_law_asked" = some (.ref a__law_asked)
  b__law_asked : Binds K d__law_asked ["way", "n", "plan", "one"] []
  a_law : Addr
  d_law : FuncData
  F_law : Fun K "law" "law" s_law a_law d_law
  g_law : mg "law" = some (.ref a_law)
  b_law : Binds K d_law ["script"] []
  z_all : mg "all" = none
  z_any : mg "any" = none
  z_enumerate : mg "enumerate" = none
  z_int : mg "int" = none
  z_isinstance : mg "isinstance" = none
  z_len : mg "len" = none
  z_list : mg "list" = none
  z_max : mg "max" = none
  z_range : mg "range" = none
  z_repr : mg "repr" = none
  z_sorted : mg "sorted" = none
  z_tuple : mg "tuple" = none
  uc_AWAY : Value
  gc_AWAY : mg "AWAY" = some uc_AWAY
  rc_AWAY : RelV (.int 1) uc_AWAY
  uc_FEWEST_TEAMS : Value
  gc_FEWEST_TEAMS : mg "FEWEST_TEAMS" = some uc_FEWEST_TEAMS
  rc_FEWEST_TEAMS : RelV (.int 2) uc_FEWEST_TEAMS
  uc_FREE : Value
  gc_FREE : mg "FREE" = some uc_FREE
  rc_FREE : RelV (.int 2) uc_FREE
  uc_HOME : Value
  gc_HOME : mg "HOME" = some uc_HOME
  rc_HOME : RelV (.int 0) uc_HOME
  uc_MORE : Value
  gc_MORE : mg "MORE" = some uc_MORE
  rc_MORE : RelV (.str "more") uc_MORE
  uc_MOST_ROUNDS : Value
  gc_MOST_ROUNDS : mg "MOST_ROUNDS" = some uc_MOST_ROUNDS
  rc_MOST_ROUNDS : RelV (.int 200) uc_MOST_ROUNDS
  uc_MOST_TEAMS : Value
  gc_MOST_TEAMS : mg "MOST_TEAMS" = some uc_MOST_TEAMS
  rc_MOST_TEAMS : RelV (.int 60) uc_MOST_TEAMS
  uc_NONE : Value
  gc_NONE : mg "NONE" = some uc_NONE
  rc_NONE : RelV (.str "lacks") uc_NONE
  C_PlanError : Addr
  gC_PlanError : mg "PlanError" = some (.ref C_PlanError)
  C_NotPlan : Addr
  gC_NotPlan : mg "NotPlan" = some (.ref C_NotPlan)
  C_NotResults : Addr
  gC_NotResults : mg "NotResults" = some (.ref C_NotResults)
  C_NotPattern : Addr
  gC_NotPattern : mg "NotPattern" = some (.ref C_NotPattern)
  C_NotPaper : Addr
  gC_NotPaper : mg "NotPaper" = some (.ref C_NotPaper)
  C_BadNumber : Addr
  gC_BadNumber : mg "BadNumber" = some (.ref C_BadNumber)
  C_NoAnswer : Addr
  gC_NoAnswer : mg "NoAnswer" = some (.ref C_NoAnswer)
  C_TooLarge : Addr
  gC_TooLarge : mg "TooLarge" = some (.ref C_TooLarge)
  x_NotPlan : PySem.W.excIn K C_NotPlan [.type "ValueError", .type "Exception", .type "BaseException", .type "object"] "ValueError.__new__" = true
  kC_NotPlan : PySem.W.keepIn K (.ref C_NotPlan) = true
  bs_NotPlan : PySem.W.subIn K (.ref C_NotPlan) (.type "BaseException") = some true
  ty_NotPlan : PySem.W.typeIn K (.ref C_NotPlan) = some (.type "type")
  em_NotPlan : PySem.W.exmOne K (.ref C_NotPlan) (.ref C_PlanError) = some true
  ex_NotPlan : ExcC K C_NotPlan
  k_NotPlan_NotPlan : PySem.W.kitOne K (.ref C_NotPlan) (.ref C_NotPlan) = some true
  k_NotPlan_NotResults : PySem.W.kitOne K (.ref C_NotPlan) (.ref C_NotResults) = some false
  k_NotPlan_NotPattern : PySem.W.kitOne K (.ref C_NotPlan) (.ref C_NotPattern) = some false
  k_NotPlan_NotPaper : PySem.W.kitOne K (.ref C_NotPlan) (.ref C_NotPaper) = some false
  k_NotPlan_BadNumber : PySem.W.kitOne K (.ref C_NotPlan) (.ref C_BadNumber) = some false
  k_NotPlan_NoAnswer : PySem.W.kitOne K (.ref C_NotPlan) (.ref C_NoAnswer) = some false
  k_NotPlan_TooLarge : PySem.W.kitOne K (.ref C_NotPlan) (.ref C_TooLarge) = some false
  x_BadNumber : PySem.W.excIn K C_BadNumber [.type "ValueError", .type "Exception", .type "BaseException", .type "object"] "ValueError.__new__" = true
  kC_BadNumber : PySem.W.keepIn K (.ref C_BadNumber) = true
  bs_BadNumber : PySem.W.subIn K (.ref C_BadNumber) (.type "BaseException") = some true
  ty_BadNumber : PySem.W.typeIn K (.ref C_BadNumber) = some (.type "type")
  em_BadNumber : PySem.W.exmOne K (.ref C_BadNumber) (.ref C_PlanError) = some true
  ex_BadNumber : ExcC K C_BadNumber
  k_BadNumber_NotPlan : PySem.W.kitOne K (.ref C_BadNumber) (.ref C_NotPlan) = some false
  k_BadNumber_NotResults : PySem.W.kitOne K (.ref C_BadNumber) (.ref C_NotResults) = some false
  k_BadNumber_NotPattern : PySem.W.kitOne K (.ref C_BadNumber) (.ref C_NotPattern) = some false
  k_BadNumber_NotPaper : PySem.W.kitOne K (.ref C_BadNumber) (.ref C_NotPaper) = some false
  k_BadNumber_BadNumber : PySem.W.kitOne K (.ref C_BadNumber) (.ref C_BadNumber) = some true
  k_BadNumber_NoAnswer : PySem.W.kitOne K (.ref C_BadNumber) (.ref C_NoAnswer) = some false
  k_BadNumber_TooLarge : PySem.W.kitOne K (.ref C_BadNumber) (.ref C_TooLarge) = some false
section
variable {P : Program} {w : World} {K : PySem.W.Frag} {mg : PySem.Str → Option Value} {base : Heap}
def body_is_round : SM :=
      (sSeq (sSet 2 (mFz (mLC (mItA (mV 1)) (pN 4) mYes (mB (g1 tupleD) (mCons (mV 4) mNil)) [4])))
      (sSeq (sSet 3 (mFz (mLC2 (mItA (mV 2)) (pN 4) mYes (mItA (mV 4)) (pN 5) mYes (mV 5) [4, 5] [5])))
      (sSeq (sIf (mOr (mNot (mTru (mB (g1 allD) (mCons (mFz (mLC (mItA (mV 2)) (pN 4) mYes (mOp gEq (mB (g1 lenD) (mCons (mV 4) mNil)) (mC (.int 2))) [4])) mNil)))) (mNot (mTru (mB (g1 allD) (mCons (mFz (mLC (mItA (mV 3)) (pN 5) mYes (mChain gLe gLt (mC (.int 0)) (mV 5) (mV 0)) [5])) mNil))))) (sRet (mC (.bl false))) sSkip)
      (sRet (mAndV (mOp gEq (mB (g1 lenD) (mCons (mFz (mDC (mItA (mV 3)) (pN 5) mYes (mV 5) (mC (.bl true)) [5])) mNil)) (mB (g1 lenD) (mCons (mV 3) mNil))) (mOp gEq (mV 2) (mB (g1 sortA) (mCons (mV 2) mNil))))))))
def f_is_round : MFn := mkFn 2 6 body_is_round
theorem ok_is_round (Z : Fx K w mg) : FnG P w K mg base 1 Z.a_is_round Z.d_is_round ["n", "games"] (spM ⟨K, mg⟩ f_is_round) := by
  refine def_ok (k := 0) (N := ["n", "games", "told", "teams", "game", "team"]) (ps := ["n", "games"]) (st := s_is_round) body_is_round Z.F_is_round sc_is_round fun cdv A outer s H E hr hgd => ?_
  unfold body_is_round
  exact (ss_cons (ss_fz (ps_lc (i := 2) (own := [("game", 4)]) rfl sc_is_round.nd rfl rfl (sw_true rfl rfl rfl (by decide +kernel)) (si_anyA (sv_var (pv 1))) (blkOk_by (N := N_is_round) (sc := (defScope s_is_round)) (by decide +kernel)) (fun _ _ _ _ _ => (sgw_name (by decide) (pg_name (i := 4) sc_is_round.nd rfl (by first | exact .inl rfl | exact .inr rfl)))) (fun _ _ _ _ _ => sts_nil) (fun _ _ _ _ _ => (sv_b cg_tuple (pe_callTy call_tuple_of rfl Z.z_tuple bt_tuple (sa_cons (sv_var (pv 4)) sa_nil))))))
      (ss_cons (ss_fz (ps_lc2 (i := 3) (own := [("game", 4), ("team", 5)]) (vs1 := [5]) rfl sc_is_round.nd rfl rfl (sw_true rfl rfl rfl (by decide +kernel)) (si_anyA (sv_var (pv 2))) (blkOk_by (N := N_is_round) (sc := (defScope s_is_round)) (by decide +kernel)) (by decide) (fun _ _ _ _ _ => (sgw_name (by decide) (pg_name (i := 4) sc_is_round.nd rfl (by first | exact .inl rfl | exact .inr rfl)))) (fun _ _ _ _ _ => sts_nil) (fun _ _ _ _ _ => (si_anyA (sv_var (pv 4)))) (fun _ _ _ _ _ => (sgw_name (by decide) (pg_name (i := 5) sc_is_round.nd rfl (by first | exact .inl rfl | exact .inr rfl)))) (fun _ _ _ _ _ => sts_nil) (fun _ _ _ _ _ => (sv_var (pv 5)))))
      (ss_cons (ss_if (st_w (sw_or (st_not (st_tru (sv_b cg_all (pe_callB (cr_all rfl) rfl Z.z_all bt_all (sa_cons (sv_fz (sv_lc (own := [("game", 4)]) rfl sc_is_round.nd (si_anyA (sv_var (pv 2))) (blkOk_by (N := N_is_round) (sc := (defScope s_is_round)) (by decide +kernel)) (fun _ _ _ _ _ => (sgw_name (by decide) (pg_name (i := 4) sc_is_round.nd rfl (by first | exact .inl rfl | exact .inr rfl)))) (fun _ _ _ _ _ => sts_nil) (fun _ _ _ _ _ => (sv_cmp (op_eqA (u64 hr)) og_eq (sv_b cg_len (pe_callB call_lenA rfl Z.z_len bt_len (sa_cons (sv_var (pv 4)) sa_nil))) (sv_int pe_int) (nomark _))))) sa_nil))))) (sw_or1 (st_not (st_tru (sv_b cg_all (pe_callB (cr_all rfl) rfl Z.z_all bt_all (sa_cons (sv_fz (sv_lc (own := [("team", 5)]) rfl sc_is_round.nd (si_anyA (sv_var (pv 3))) (blkOk_by (N := N_is_round) (sc := (defScope s_is_round)) (by decide +kernel)) (fun _ _ _ _ _ => (sgw_name (by decide) (pg_name (i := 5) sc_is_round.nd rfl (by first | exact .inl rfl | exact .inr rfl)))) (fun _ _ _ _ _ => sts_nil) (fun _ _ _ _ _ => (sv_chain op_leA og_le op_ltA og_lt (sv_int pe_int) (sv_var (pv 5)) (sv_var (pv 0)))))) sa_nil)))))))) (ss_one (ss_ret (sv_bl pe_bl))) ss_nil)
      (ss_one (ss_ret (sv_and (sv_cmp (op_eqA (u64 hr)) og_eq (sv_b cg_len (pe_callB call_lenA rfl Z.z_len bt_len (sa_cons (sv_fz (sv_dc (own := [("team", 5)]) rfl sc_is_round.nd (si_anyA (sv_var (pv 3))) (blkOk_by (N := N_is_round) (sc := (defScope s_is_round)) (by decide +kernel)) (fun _ _ _ _ _ => (sgw_name (by decide) (pg_name (i := 5) sc_is_round.nd rfl (by first | exact .inl rfl | exact .inr rfl)))) (fun _ _ _ _ _ => sts_nil) (fun _ _ _ _ _ => (sv_var (pv 5))) (fun _ _ _ _ _ => (sv_bl pe_bl)))) sa_nil))) (sv_b cg_len (pe_callB call_lenA rfl Z.z_len bt_len (sa_cons (sv_var (pv 3)) sa_nil))) (nomark _)) (sv_one (sv_cmp (op_eqA (u64 hr)) og_eq (sv_var (pv 2)) (sv_b cg_sortA (pe_callB (call_sortA (u65 hr)) rfl Z.z_sorted bt_sorted (sa_cons (sv_var (pv 2)) sa_nil))) (nomark _)))))))))
def body_is_plan : SM :=
      (sSeq (sIf (mOr (mNot (mTB (mChain gLe gLe (mC (.int 2)) (mV 0) (mC (.int 60))))) (mTB (mOp gGt (mB (g1 lenD) (mCons (mV 1) mNil)) (mC (.int 200))))) (sRet (mC (.bl false))) sSkip)
      (sRet (mB (g1 allD) (mCons (mFz (mLC (mItA (mV 1)) (pN 2) mYes (mCall f_is_round (mCons (mV 0) (mCons (mV 2) mNil))) [2])) mNil))))
def f_is_plan : MFn := mkFn 2 3 body_is_plan
theorem ok_is_plan (Z : Fx K w mg) : FnG P w K mg base 2 Z.a_is_plan Z.d_is_plan ["n", "plan"] (spM ⟨K, mg⟩ f_is_plan) := by
  refine def_ok (k := 1) (N := ["n", "plan", "games"]) (ps := ["n", "plan"]) (st := s_is_plan) body_is_plan Z.F_is_plan sc_is_plan fun cdv A outer s H E hr hgd => ?_
  unfold body_is_plan
  exact (ss_cons (ss_if (st_w (sw_or (st_not (st_chain op_leA og_le op_leA og_le (sv_int (pe_glob rfl Z.gc_FEWEST_TEAMS Z.rc_FEWEST_TEAMS)) (sv_var (pv 0)) (sv_int (pe_glob rfl Z.gc_MOST_TEAMS Z.rc_MOST_TEAMS)))) (sw_or1 (st_cmp op_gtA og_gt (sv_b cg_len (pe_callB call_lenA rfl Z.z_len bt_len (sa_cons (sv_var (pv 1)) sa_nil))) (sv_int (pe_glob rfl Z.gc_MOST_ROUNDS Z.rc_MOST_ROUNDS)) (nomark _))))) (ss_one (ss_ret (sv_bl pe_bl))) ss_nil)
      (ss_one (ss_ret (sv_b cg_all (pe_callB (cr_all rfl) rfl Z.z_all bt_all (sa_cons (sv_fz (sv_lc (own := [("games", 2)]) rfl sc_is_plan.nd (si_anyA (sv_var (pv 1))) (blkOk_by (N := N_is_plan) (sc := (defScope s_is_plan)) (by decide +kernel)) (fun _ _ _ _ _ => (sgw_name (by decide) (pg_name (i := 2) sc_is_plan.nd rfl (by first | exact .inl rfl | exact .inr rfl)))) (fun _ _ _ _ _ => sts_nil) (fun _ _ _ _ _ => (sv_call (ok_is_round Z) (hr.mono (by decide)) hgd rfl Z.g_is_round Z.F_is_round.kp Z.b_is_round takes0 (sa_cons (sv_var (pv 0)) (sa_cons (sv_var (pv 2)) sa_nil)))))) sa_nil))))))
def body_check_plan : SM :=
      (sIf (mNot (mTru (mCall f_is_plan (mCons (mV 0) (mCons (mV 1) mNil))))) (sRaise "NotPlan") sSkip)
def f_check_plan : MFn := mkFn 2 2 body_check_plan
theorem ok_check_plan (Z : Fx K w mg) : FnG P w K mg base 3 Z.a_check_plan Z.d_check_plan ["n", "plan"] (spM ⟨K, mg⟩ f_check_plan) := by
  refine def_ok (k := 2) (N := ["n", "plan"]) (ps := ["n", "plan"]) (st := s_check_plan) body_check_plan Z.F_check_plan sc_check_plan fun cdv A outer s H E hr hgd => ?_
  unfold body_check_plan
  exact (ss_one (ss_if (st_not (st_tru (sv_call (ok_is_plan Z) (hr.mono (by decide)) hgd rfl Z.g_is_plan Z.F_is_plan.kp Z.b_is_plan (takes_of rfl rfl rfl rfl) (sa_cons (sv_var (pv 0)) (sa_cons (sv_var (pv 1)) sa_nil))))) (ss_one (ss_raise Z.gC_NotPlan (ps_raise rfl (takes_of rfl rfl rfl rfl) (pmk_own PySem.F.excBase_ValueError Z.x_NotPlan Z.gC_NotPlan Z.kC_NotPlan (raises_own Z.bs_NotPlan Z.ty_NotPlan) (by rfl))))) ss_nil))
def body_check_team : SM :=
      (sIf (mNot (mTB (mChain gLe gLt (mC (.int 0)) (mV 1) (mV 0)))) (sRaise "BadNumber") sSkip)
def f_check_team : MFn := mkFn 2 2 body_check_team
theorem ok_check_team (Z : Fx K w mg) : FnG P w K mg base 1 Z.a_check_team Z.d_check_team ["n", "team"] (spM ⟨K, mg⟩ f_check_team) := by
  refine def_ok (k := 0) (N := ["n", "team"]) (ps := ["n", "team"]) (st := s_check_team) body_check_team Z.F_check_team sc_check_team fun cdv A outer s H E hr hgd => ?_
  unfold body_check_team
  exact (ss_one (ss_if (st_not (st_chain op_leA og_le op_ltA og_lt (sv_int pe_int) (sv_var (pv 1)) (sv_var (pv 0)))) (ss_one (ss_raise Z.gC_BadNumber (ps_raise rfl (takes_of rfl rfl rfl rfl) (pmk_own PySem.F.excBase_ValueError Z.x_BadNumber Z.gC_BadNumber Z.kC_BadNumber (raises_own Z.bs_BadNumber Z.ty_BadNumber) (by rfl))))) ss_nil))
def body_counts_of : SM :=
      (sSeq (sSet 1 (mAl mNewT))
      (sSeq (sFor (mItA (mV 0)) (gN 2) (sFor (mItA (mV 2)) (gT 2 (gsC (gN 3) (gsC (gN 4) gsN))) (sAsg (mOp gAdd (mGet2 (mV 1) (mTup (mCons (mV 3) (mCons (mV 4) mNil))) (mC (.int 0))) (mC (.int 1))) (gIxS (mV 1) (mTup (mCons (mV 3) (mCons (mV 4) mNil)))))))
      (sRet (mV 1))))
def f_counts_of : MFn := mkFn 1 5 body_counts_of
theorem ok_counts_of (Z : Fx K w mg) : FnG P w K mg base 1 Z.a_counts_of Z.d_counts_of ["plan"] (spM ⟨K, mg⟩ f_counts_of) := by
  refine def_ok (k := 0) (N := ["plan", "found", "games", "home", "away"]) (ps := ["plan"]) (st := s_counts_of) body_counts_of Z.F_counts_of sc_counts_of fun cdv A outer s H E hr hgd => ?_
  unfold body_counts_of
  exact (ss_cons (ss_s (ps_set (i := 1) sc_counts_of.nd rfl (by first | exact .inl rfl | exact .inr rfl) (sv_al sv_newT)))
      (ss_cons (ss_for (passes_of rfl) rfl (si_anyA (sv_var (pv 0))) (sg_name (pg_name (i := 2) sc_counts_of.nd rfl (by first | exact .inl rfl | exact .inr rfl))) (ss_one (ss_for (passes_of rfl) rfl (si_anyA (sv_var (pv 2))) (sg_tup rfl (sgs_cons (sg_name (pg_name (i := 3) sc_counts_of.nd rfl (by first | exact .inl rfl | exact .inr rfl))) (sgs_cons (sg_name (pg_name (i := 4) sc_counts_of.nd rfl (by first | exact .inl rfl | exact .inr rfl))) sgs_nil))) (ss_one (ss_asg (sv_bin op_addA og_add (sv_get2 (u65 hr) (sv_var (pv 1)) (sv_tup (sa_cons (sv_var (pv 3)) (sa_cons (sv_var (pv 4)) sa_nil))) (sv_int pe_int) ⟨rfl, rfl, rfl, rfl⟩) (sv_int pe_int)) (sg_sub (u65 hr) (sv_var (pv 1)) (sv_tup (sa_cons (sv_var (pv 3)) (sa_cons (sv_var (pv 4)) sa_nil)))))))))
      (ss_one (ss_ret (sv_var (pv 1))))))
def body_meetings : SM :=
      (sRet (mOp gAdd (mGet2 (mV 0) (mTup (mCons (mV 1) (mCons (mV 2) mNil))) (mC (.int 0))) (mGet2 (mV 0) (mTup (mCons (mV 2) (mCons (mV 1) mNil))) (mC (.int 0)))))
def f_meetings : MFn := mkFn 3 3 body_meetings
theorem ok_meetings (Z : Fx K w mg) : FnG P w K mg base 1 Z.a_meetings Z.d_meetings ["counts", "i", "j"] (spM ⟨K, mg⟩ f_meetings) := by
  refine def_ok (k := 0) (N := ["counts", "i", "j"]) (ps := ["counts", "i", "j"]) (st := s_meetings) body_meetings Z.F_meetings sc_meetings fun cdv A outer s H E hr hgd => ?_
  unfold body_meetings
  exact (ss_one (ss_ret (sv_bin op_addA og_add (sv_get2 (u65 hr) (sv_var (pv 0)) (sv_tup (sa_cons (sv_var (pv 1)) (sa_cons (sv_var (pv 2)) sa_nil))) (sv_int pe_int) ⟨rfl, rfl, rfl, rfl⟩) (sv_get2 (u65 hr) (sv_var (pv 0)) (sv_tup (sa_cons (sv_var (pv 2)) (sa_cons (sv_var (pv 1)) sa_nil))) (sv_int pe_int) ⟨rfl, rfl, rfl, rfl⟩))))
def body_trouble_of : SM :=
      (sSeq (sSet 3 (mFz (mCall f_counts_of (mCons (mV 1) mNil))))
      (sSeq (sFor (mRng rng1 (mCons (mV 0) mNil)) (gN 4) (sFor (mRng rng1 (mCons (mV 0) mNil)) (gN 5) (sIf (mOr (mTB (mOp gLt (mV 4) (mV 5))) (mAnd (mTru (mV 2)) (mTB (mOp gNe (mV 4) (mV 5))))) (sSeq (sSet 6 (mFz (mIfE (mTru (mV 2)) (mGet2 (mV 3) (mTup (mCons (mV 4) (mCons (mV 5) mNil))) (mC (.int 0))) (mCall f_meetings (mCons (mV 3) (mCons (mV 4) (mCons (mV 5) mNil)))))))
      (sIf (mTB (mOp gNe (mV 6) (mC (.int 1)))) (sRet (mTup (mCons (mIfE (mTB (mOp gEq (mV 6) (mC (.int 0)))) (mC (.str "lacks")) (mC (.str "more"))) (mCons (mV 4) (mCons (mV 5) mNil))))) sSkip)) sSkip)))
      (sRet (mC .non))))
def f_trouble_of : MFn := mkFn 3 7 body_trouble_of
theorem ok_trouble_of (Z : Fx K w mg) : FnG P w K mg base 2 Z.a_trouble_of Z.d_trouble_of ["n", "plan", "double"] (spM ⟨K, mg⟩ f_trouble_of) := by
  refine def_ok (k := 1) (N := ["n", "plan", "double", "counts", "i", "j", "many"]) (ps := ["n", "plan", "double"]) (st := s_trouble_of) body_trouble_of Z.F_trouble_of sc_trouble_of fun cdv A outer s H E hr hgd => ?_
  unfold body_trouble_of
  exact (ss_cons (ss_s (ps_set (i := 3) sc_trouble_of.nd rfl (by first | exact .inl rfl | exact .inr rfl) (sv_fz (sv_call (ok_counts_of Z) (hr.mono (by decide)) hgd rfl Z.g_counts_of Z.F_counts_of.kp Z.b_counts_of (takes_of rfl rfl rfl rfl) (sa_cons (sv_var (pv 1)) sa_nil)))))
      (ss_cons (ss_for (passes_of rfl) rfl (si_r1 (pi_range1 rfl Z.z_range (sa_cons (sv_var (pv 0)) sa_nil))) (sg_name (pg_name (i := 4) sc_trouble_of.nd rfl (by first | exact .inl rfl | exact .inr rfl))) (ss_one (ss_for (passes_of rfl) rfl (si_r1 (pi_range1 rfl Z.z_range (sa_cons (sv_var (pv 0)) sa_nil))) (sg_name (pg_name (i := 5) sc_trouble_of.nd rfl (by first | exact .inl rfl | exact .inr rfl))) (ss_one (ss_if (st_w (sw_or (st_cmp op_ltA og_lt (sv_var (pv 4)) (sv_var (pv 5)) (nomark _)) (sw_or1 (st_w (sw_and (st_tru (sv_var (pv 2))) (sw_and1 (st_cmp (op_neA (u64 hr)) og_ne (sv_var (pv 4)) (sv_var (pv 5)) (nomark _)))))))) (ss_cons (ss_s (ps_set (i := 6) sc_trouble_of.nd rfl (by first | exact .inl rfl | exact .inr rfl) (sv_fz (sv_if (st_tru (sv_var (pv 2))) (sv_get2 (u65 hr) (sv_var (pv 3)) (sv_tup (sa_cons (sv_var (pv 4)) (sa_cons (sv_var (pv 5)) sa_nil))) (sv_int pe_int) ⟨rfl, rfl, rfl, rfl⟩) (sv_call (ok_meetings Z) (hr.mono (by decide)) hgd rfl Z.g_meetings Z.F_meetings.kp Z.b_meetings (takes_of rfl rfl rfl rfl) (sa_cons (sv_var (pv 3)) (sa_cons (sv_var (pv 4)) (sa_cons (sv_var (pv 5)) sa_nil))))))))
      (ss_one (ss_if (st_cmp (op_neA (u64 hr)) og_ne (sv_var (pv 6)) (sv_int pe_int) (nomark _)) (ss_one (ss_ret (sv_tup (sa_cons (sv_if (st_cmp (op_eqA (u64 hr)) og_eq (sv_var (pv 6)) (sv_int pe_int) (nomark _)) (sv_str (pe_glob rfl Z.gc_NONE Z.rc_NONE)) (sv_str (pe_glob rfl Z.gc_MORE Z.rc_MORE))) (sa_cons (sv_var (pv 4)) (sa_cons (sv_var (pv 5)) sa_nil)))))) ss_nil))) ss_nil)))))
      (ss_one (ss_ret (sv_non pe_non)))))
def body_single_trouble : SM :=
      (sSeq (sExpr (mCall f_check_plan (mCons (mV 0) (mCons (mV 1) mNil))))
      (sRet (mCall f_trouble_of (mCons (mV 0) (mCons (mV 1) (mCons (mC (.bl false)) mNil))))))
def f_single_trouble : MFn := mkFn 2 2 body_single_trouble
theorem ok_single_trouble (Z : Fx K w mg) : FnG P w K mg base 4 Z.a_single_trouble Z.d_single_trouble ["n", "plan"] (spM ⟨K, mg⟩ f_single_trouble) := by
  refine def_ok (k := 3) (N := ["n", "plan"]) (ps := ["n", "plan"]) (st := s_single_trouble) body_single_trouble Z.F_single_trouble sc_single_trouble fun cdv A outer s H E hr hgd => ?_
  unfold body_single_trouble
  exact (ss_cons (ss_expr (sv_call (ok_check_plan Z) (hr.mono (by decide)) hgd rfl Z.g_check_plan Z.F_check_plan.kp Z.b_check_plan (takes_of rfl rfl rfl rfl) (sa_cons (sv_var (pv 0)) (sa_cons (sv_var (pv 1)) sa_nil))))
      (ss_one (ss_ret (sv_call (ok_trouble_of Z) (hr.mono (by decide)) hgd rfl Z.g_trouble_of Z.F_trouble_of.kp Z.b_trouble_of (takes_of rfl rfl rfl rfl) (sa_cons (sv_var (pv 0)) (sa_cons (sv_var (pv 1)) (sa_cons (sv_bl pe_bl) sa_nil)))))))
def body_double_trouble : SM :=
      (sSeq (sExpr (mCall f_check_plan (mCons (mV 0) (mCons (mV 1) mNil))))
      (sRet (mCall f_trouble_of (mCons (mV 0) (mCons (mV 1) (mCons (mC (.bl true)) mNil))))))
def f_double_trouble : MFn := mkFn 2 2 body_double_trouble
theorem ok_double_trouble (Z : Fx K w mg) : FnG P w K mg base 4 Z.a_double_trouble Z.d_double_trouble ["n", "plan"] (spM ⟨K, mg⟩ f_double_trouble) := by
  refine def_ok (k := 3) (N := ["n", "plan"]) (ps := ["n", "plan"]) (st := s_double_trouble) body_double_trouble Z.F_double_trouble sc_double_trouble fun cdv A outer s H E hr hgd => ?_
  unfold body_double_trouble
  exact (ss_cons (ss_expr (sv_call (ok_check_plan Z) (hr.mono (by decide)) hgd rfl Z.g_check_plan Z.F_check_plan.kp Z.b_check_plan (takes_of rfl rfl rfl rfl) (sa_cons (sv_var (pv 0)) (sa_cons (sv_var (pv 1)) sa_nil))))
      (ss_one (ss_ret (sv_call (ok_trouble_of Z) (hr.mono (by decide)) hgd rfl Z.g_trouble_of Z.F_trouble_of.kp Z.b_trouble_of (takes_of rfl rfl rfl rfl) (sa_cons (sv_var (pv 0)) (sa_cons (sv_var (pv 1)) (sa_cons (sv_bl pe_bl) sa_nil)))))))
def body_tells_trouble : SM :=
      (sSeq (sIf (mOr (mTB (mOp gNe (mB (g1 lenD) (mCons (mV 2) mNil)) (mC (.int 3)))) (mTB (mOp (gIn true) (mOp gIx (mV 2) (mC (.int 0))) (mTup (mCons (mC (.str "lacks")) (mCons (mC (.str "more")) mNil)))))) (sRet (mC (.bl false))) sSkip)
      (sSeq (sAsg (mV 2) (gT 3 (gsC (gN 4) (gsC (gN 5) (gsC (gN 6) gsN)))))
      (sSeq (sIf (mOr (mNot (mTB (mChain gLe gLt (mC (.int 0)) (mV 5) (mV 0)))) (mOr (mNot (mTB (mChain gLe gLt (mC (.int 0)) (mV 6) (mV 0)))) (mOr (mTB (mOp gEq (mV 5) (mV 6))) (mAnd (mTB (mOp gGt (mV 5) (mV 6))) (mNot (mTru (mV 3))))))) (sRet (mC (.bl false))) sSkip)
      (sSeq (sSet 7 (mFz (mCall f_counts_of (mCons (mV 1) mNil))))
      (sSeq (sSet 8 (mFz (mIfE (mTru (mV 3)) (mGet2 (mV 7) (mTup (mCons (mV 5) (mCons (mV 6) mNil))) (mC (.int 0))) (mCall f_meetings (mCons (mV 7) (mCons (mV 5) (mCons (mV 6) mNil)))))))
      (sRet (mIfE (mTB (mOp gEq (mV 4) (mC (.str "lacks")))) (mOp gEq (mV 8) (mC (.int 0))) (mOp gGt (mV 8) (mC (.int 1))))))))))
def f_tells_trouble : MFn := mkFn 4 9 body_tells_trouble
theorem ok_tells_trouble (Z : Fx K w mg) : FnG P w K mg base 2 Z.a_tells_trouble Z.d_tells_trouble ["n", "plan", "told", "double"] (spM ⟨K, mg⟩ f_tells_trouble) := by
  refine def_ok (k := 1) (N := ["n", "plan", "told", "double", "word", "i", "j", "counts", "many"]) (ps := ["n", "plan", "told", "double"]) (st := s_tells_trouble) body_tells_trouble Z.F_tells_trouble sc_tells_trouble fun cdv A outer s H E hr hgd => ?_
  unfold body_tells_trouble
  exact (ss_cons (ss_if (st_w (sw_or (st_cmp (op_neA (u64 hr)) og_ne (sv_b cg_len (pe_callB call_lenA rfl Z.z_len bt_len (sa_cons (sv_var (pv 2)) sa_nil))) (sv_int pe_int) (nomark _)) (sw_or1 (st_cmp (op_notInB (u65 hr)) og_in (sv_ix (u65 hr) (sv_var (pv 2)) (sv_int pe_int) (fun _ _ => rfl)) (sv_tup (sa_cons (sv_str (pe_glob rfl Z.gc_NONE Z.rc_NONE)) (sa_cons (sv_str (pe_glob rfl Z.gc_MORE Z.rc_MORE)) sa_nil))) rfl)))) (ss_one (ss_ret (sv_bl pe_bl))) ss_nil)
      (ss_cons (ss_asg (sv_var (pv 2)) (sg_tup rfl (sgs_cons (sg_name (pg_name (i := 4) sc_tells_trouble.nd rfl (by first | exact .inl rfl | exact .inr rfl))) (sgs_cons (sg_name (pg_name (i := 5) sc_tells_trouble.nd rfl (by first | exact .inl rfl | exact .inr rfl))) (sgs_cons (sg_name (pg_name (i := 6) sc_tells_trouble.nd rfl (by first | exact .inl rfl | exact .inr rfl))) sgs_nil)))))
      (ss_cons (ss_if (st_w (sw_or (st_not (st_chain op_leA og_le op_ltA og_lt (sv_int pe_int) (sv_var (pv 5)) (sv_var (pv 0)))) (sw_or (st_not (st_chain op_leA og_le op_ltA og_lt (sv_int pe_int) (sv_var (pv 6)) (sv_var (pv 0)))) (sw_or (st_cmp (op_eqA (u64 hr)) og_eq (sv_var (pv 5)) (sv_var (pv 6)) (nomark _)) (sw_or1 (st_w (sw_and (st_cmp op_gtA og_gt (sv_var (pv 5)) (sv_var (pv 6)) (nomark _)) (sw_and1 (st_not (st_tru (sv_var (pv 3)))))))))))) (ss_one (ss_ret (sv_bl pe_bl))) ss_nil)
      (ss_cons (ss_s (ps_set (i := 7) sc_tells_trouble.nd rfl (by first | exact .inl rfl | exact .inr rfl) (sv_fz (sv_call (ok_counts_of Z) (hr.mono (by decide)) hgd rfl Z.g_counts_of Z.F_counts_of.kp Z.b_counts_of (takes_of rfl rfl rfl rfl) (sa_cons (sv_var (pv 1)) sa_nil)))))
      (ss_cons (ss_s (ps_set (i := 8) sc_tells_trouble.nd rfl (by first | exact .inl rfl | exact .inr rfl) (sv_fz (sv_if (st_tru (sv_var (pv 3))) (sv_get2 (u65 hr) (sv_var (pv 7)) (sv_tup (sa_cons (sv_var (pv 5)) (sa_cons (sv_var (pv 6)) sa_nil))) (sv_int pe_int) ⟨rfl, rfl, rfl, rfl⟩) (sv_call (ok_meetings Z) (hr.mono (by decide)) hgd rfl Z.g_meetings Z.F_meetings.kp Z.b_meetings (takes_of rfl rfl rfl rfl) (sa_cons (sv_var (pv 7)) (sa_cons (sv_var (pv 5)) (sa_cons (sv_var (pv 6)) sa_nil))))))))
      (ss_one (ss_ret (sv_if (st_cmp (op_eqA (u64 hr)) og_eq (sv_var (pv 4)) (sv_str (pe_glob rfl Z.gc_NONE Z.rc_NONE)) (nomark _)) (sv_cmp (op_eqA (u64 hr)) og_eq (sv_var (pv 8)) (sv_int pe_int) (nomark _)) (sv_cmp op_gtA og_gt (sv_var (pv 8)) (sv_int pe_int) (nomark _))))))))))
def body_is_single_trouble : SM :=
      (sSeq (sExpr (mCall f_check_plan (mCons (mV 0) (mCons (mV 1) mNil))))
      (sRet (mCall f_tells_trouble (mCons (mV 0) (mCons (mV 1) (mCons (mV 2) (mCons (mC (.bl false)) mNil)))))))
def f_is_single_trouble : MFn := mkFn 3 3 body_is_single_trouble
theorem ok_is_single_trouble (Z : Fx K w mg) : FnG P w K mg base 4 Z.a_is_single_trouble Z.d_is_single_trouble ["n", "plan", "told"] (spM ⟨K, mg⟩ f_is_single_trouble) := by
  refine def_ok (k := 3) (N := ["n", "plan", "told"]) (ps := ["n", "plan", "told"]) (st := s_is_single_trouble) body_is_single_trouble Z.F_is_single_trouble sc_is_single_trouble fun cdv A outer s H E hr hgd => ?_
  unfold body_is_single_trouble
  exact (ss_cons (ss_expr (sv_call (ok_check_plan Z) (hr.mono (by decide)) hgd rfl Z.g_check_plan Z.F_check_plan.kp Z.b_check_plan (takes_of rfl rfl rfl rfl) (sa_cons (sv_var (pv 0)) (sa_cons (sv_var (pv 1)) sa_nil))))
      (ss_one (ss_ret (sv_call (ok_tells_trouble Z) (hr.mono (by decide)) hgd rfl Z.g_tells_trouble Z.F_tells_trouble.kp Z.b_tells_trouble (takes_of rfl rfl rfl rfl) (sa_cons (sv_var (pv 0)) (sa_cons (sv_var (pv 1)) (sa_cons (sv_var (pv 2)) (sa_cons (sv_bl pe_bl) sa_nil))))))))
def body_is_double_trouble : SM :=
      (sSeq (sExpr (mCall f_check_plan (mCons (mV 0) (mCons (mV 1) mNil))))
      (sRet (mCall f_tells_trouble (mCons (mV 0) (mCons (mV 1) (mCons (mV 2) (mCons (mC (.bl true)) mNil)))))))
def f_is_double_trouble : MFn := mkFn 3 3 body_is_double_trouble
theorem ok_is_double_trouble (Z : Fx K w mg) : FnG P w K mg base 4 Z.a_is_double_trouble Z.d_is_double_trouble ["n", "plan", "told"] (spM ⟨K, mg⟩ f_is_double_trouble) := by
  refine def_ok (k := 3) (N := ["n", "plan", "told"]) (ps := ["n", "plan", "told"]) (st := s_is_double_trouble) body_is_double_trouble Z.F_is_double_trouble sc_is_double_trouble fun cdv A outer s H E hr hgd => ?_
  unfold body_is_double_trouble
  exact (ss_cons (ss_expr (sv_call (ok_check_plan Z) (hr.mono (by decide)) hgd rfl Z.g_check_plan Z.F_check_plan.kp Z.b_check_plan (takes_of rfl rfl rfl rfl) (sa_cons (sv_var (pv 0)) (sa_cons (sv_var (pv 1)) sa_nil))))
      (ss_one (ss_ret (sv_call (ok_tells_trouble Z) (hr.mono (by decide)) hgd rfl Z.g_tells_trouble Z.F_tells_trouble.kp Z.b_tells_trouble (takes_of rfl rfl rfl rfl) (sa_cons (sv_var (pv 0)) (sa_cons (sv_var (pv 1)) (sa_cons (sv_var (pv 2)) (sa_cons (sv_bl pe_bl) sa_nil))))))))
def body_is_single : SM :=
      (sSeq (sExpr (mCall f_check_plan (mCons (mV 0) (mCons (mV 1) mNil))))
      (sRet (mOp (gIsN false) (mCall f_trouble_of (mCons (mV 0) (mCons (mV 1) (mCons (mC (.bl false)) mNil)))) (mC .non))))
def f_is_single : MFn := mkFn 2 2 body_is_single
theorem ok_is_single (Z : Fx K w mg) : FnG P w K mg base 4 Z.a_is_single Z.d_is_single ["n", "plan"] (spM ⟨K, mg⟩ f_is_single) := by
  refine def_ok (k := 3) (N := ["n", "plan"]) (ps := ["n", "plan"]) (st := s_is_single) body_is_single Z.F_is_single sc_is_single fun cdv A outer s H E hr hgd => ?_
  unfold body_is_single
  exact (ss_cons (ss_expr (sv_call (ok_check_plan Z) (hr.mono (by decide)) hgd rfl Z.g_check_plan Z.F_check_plan.kp Z.b_check_plan (takes_of rfl rfl rfl rfl) (sa_cons (sv_var (pv 0)) (sa_cons (sv_var (pv 1)) sa_nil))))
      (ss_one (ss_ret (sv_cmp op_isN og_isN (sv_call (ok_trouble_of Z) (hr.mono (by decide)) hgd rfl Z.g_trouble_of Z.F_trouble_of.kp Z.b_trouble_of (takes_of rfl rfl rfl rfl) (sa_cons (sv_var (pv 0)) (sa_cons (sv_var (pv 1)) (sa_cons (sv_bl pe_bl) sa_nil)))) (sv_non pe_non) (nomark _)))))
def body_is_double : SM :=
      (sSeq (sExpr (mCall f_check_plan (mCons (mV 0) (mCons (mV 1) mNil))))
      (sRet (mOp (gIsN false) (mCall f_trouble_of (mCons (mV 0) (mCons (mV 1) (mCons (mC (.bl true)) mNil)))) (mC .non))))
def f_is_double : MFn := mkFn 2 2 body_is_double
theorem ok_is_double (Z : Fx K w mg) : FnG P w K mg base 4 Z.a_is_double Z.d_is_double ["n", "plan"] (spM ⟨K, mg⟩ f_is_double) := by
  refine def_ok (k := 3) (N := ["n", "plan"]) (ps := ["n", "plan"]) (st := s_is_double) body_is_double Z.F_is_double sc_is_double fun cdv A outer s H E hr hgd => ?_
  unfold body_is_double
  exact (ss_cons (ss_expr (sv_call (ok_check_plan Z) (hr.mono (by decide)) hgd rfl Z.g_check_plan Z.F_check_plan.kp Z.b_check_plan (takes_of rfl rfl rfl rfl) (sa_cons (sv_var (pv 0)) (sa_cons (sv_var (pv 1)) sa_nil))))
      (ss_one (ss_ret (sv_cmp op_isN og_isN (sv_call (ok_trouble_of Z) (hr.mono (by decide)) hgd rfl Z.g_trouble_of Z.F_trouble_of.kp Z.b_trouble_of (takes_of rfl rfl rfl rfl) (sa_cons (sv_var (pv 0)) (sa_cons (sv_var (pv 1)) (sa_cons (sv_bl pe_bl) sa_nil)))) (sv_non pe_non) (nomark _)))))
def body_is_full : SM :=
      (sSeq (sExpr (mCall f_check_plan (mCons (mV 0) (mCons (mV 1) mNil))))
      (sSeq (sSet 2 (mIfE (mTB (mOp gEq (mOp gMod (mV 0) (mC (.int 2))) (mC (.int 0)))) (mOp gSub (mV 0) (mC (.int 1))) (mV 0)))
      (sSeq (sIf (mTB (mOp (gIsN false) (mCall f_trouble_of (mCons (mV 0) (mCons (mV 1) (mCons (mC (.bl false)) mNil)))) (mC .non))) (sRet (mOp gEq (mB (g1 lenD) (mCons (mV 1) mNil)) (mV 2))) sSkip)
      (sRet (mAndV (mOp (gIsN false) (mCall f_trouble_of (mCons (mV 0) (mCons (mV 1) (mCons (mC (.bl true)) mNil)))) (mC .non)) (mOp gEq (mB (g1 lenD) (mCons (mV 1) mNil)) (mOp gMulA (mC (.int 2)) (mV 2))))))))
def f_is_full : MFn := mkFn 2 3 body_is_full
theorem ok_is_full (Z : Fx K w mg) : FnG P w K mg base 4 Z.a_is_full Z.d_is_full ["n", "plan"] (spM ⟨K, mg⟩ f_is_full) := by
  refine def_ok (k := 3) (N := ["n", "plan", "least"]) (ps := ["n", "plan"]) (st := s_is_full) body_is_full Z.F_is_full sc_is_full fun cdv A outer s H E hr hgd => ?_
  unfold body_is_full
  exact (ss_cons (ss_expr (sv_call (ok_check_plan Z) (hr.mono (by decide)) hgd rfl Z.g_check_plan Z.F_check_plan.kp Z.b_check_plan (takes_of rfl rfl rfl rfl) (sa_cons (sv_var (pv 0)) (sa_cons (sv_var (pv 1)) sa_nil))))
      (ss_cons (ss_s (ps_set (i := 2) sc_is_full.nd rfl (by first | exact .inl rfl | exact .inr rfl) (sv_if (st_cmp (op_eqA (u64 hr)) og_eq (sv_bin op_modN og_mod (sv_var (pv 0)) (sv_int pe_int)) (sv_int pe_int) (nomark _)) (sv_bin op_sub og_sub (sv_var (pv 0)) (sv_int pe_int)) (sv_var (pv 0)))))
      (ss_cons (ss_if (st_cmp op_isN og_isN (sv_call (ok_trouble_of Z) (hr.mono (by decide)) hgd rfl Z.g_trouble_of Z.F_trouble_of.kp Z.b_trouble_of (takes_of rfl rfl rfl rfl) (sa_cons (sv_var (pv 0)) (sa_cons (sv_var (pv 1)) (sa_cons (sv_bl pe_bl) sa_nil)))) (sv_non pe_non) (nomark _)) (ss_one (ss_ret (sv_cmp (op_eqA (u64 hr)) og_eq (sv_b cg_len (pe_callB call_lenA rfl Z.z_len bt_len (sa_cons (sv_var (pv 1)) sa_nil))) (sv_var (pv 2)) (nomark _)))) ss_nil)
      (ss_one (ss_ret (sv_and (sv_cmp op_isN og_isN (sv_call (ok_trouble_of Z) (hr.mono (by decide)) hgd rfl Z.g_trouble_of Z.F_trouble_of.kp Z.b_trouble_of (takes_of rfl rfl rfl rfl) (sa_cons (sv_var (pv 0)) (sa_cons (sv_var (pv 1)) (sa_cons (sv_bl pe_bl) sa_nil)))) (sv_non pe_non) (nomark _)) (sv_one (sv_cmp (op_eqA (u64 hr)) og_eq (sv_b cg_len (pe_callB call_lenA rfl Z.z_len bt_len (sa_cons (sv_var (pv 1)) sa_nil))) (sv_bin op_mulA og_mulA (sv_int pe_int) (sv_var (pv 2))) (nomark _)))))))))
def body_pattern_of : SM :=
      (sSeq (sSet 2 (mAl (mLst mNil)))
      (sSeq (sFor (mItA (mV 0)) (gN 3) (sSeq (sSet 4 (mC (.int 2)))
      (sSeq (sFor (mItA (mV 3)) (gT 2 (gsC (gN 5) (gsC (gN 6) gsN))) (sIf (mTB (mOp (gIn false) (mV 1) (mTup (mCons (mV 5) (mCons (mV 6) mNil))))) (sSet 4 (mIfE (mTB (mOp gEq (mV 1) (mV 5))) (mC (.int 0)) (mC (.int 1)))) sSkip))
      (sExpr (mMut arK hApp (mV 2) (mCons (mV 4) mNil))))))
      (sRet (mB (g1 tupleD) (mCons (mV 2) mNil)))))
def f_pattern_of : MFn := mkFn 2 7 body_pattern_of
theorem ok_pattern_of (Z : Fx K w mg) : FnG P w K mg base 1 Z.a_pattern_of Z.d_pattern_of ["plan", "team"] (spM ⟨K, mg⟩ f_pattern_of) := by
  refine def_ok (k := 0) (N := ["plan", "team", "found", "games", "entry", "home", "away"]) (ps := ["plan", "team"]) (st := s_pattern_of) body_pattern_of Z.F_pattern_of sc_pattern_of fun cdv A outer s H E hr hgd => ?_
  unfold body_pattern_of
  exact (ss_cons (ss_s (ps_set (i := 2) sc_pattern_of.nd rfl (by first | exact .inl rfl | exact .inr rfl) (sv_al (sv_lst sa_nil))))
      (ss_cons (ss_for (passes_of rfl) rfl (si_anyA (sv_var (pv 0))) (sg_name (pg_name (i := 3) sc_pattern_of.nd rfl (by first | exact .inl rfl | exact .inr rfl))) (ss_cons (ss_s (ps_set (i := 4) sc_pattern_of.nd rfl (by first | exact .inl rfl | exact .inr rfl) (sv_int (pe_glob rfl Z.gc_FREE Z.rc_FREE))))
      (ss_cons (ss_for (passes_of rfl) rfl (si_anyA (sv_var (pv 3))) (sg_tup rfl (sgs_cons (sg_name (pg_name (i := 5) sc_pattern_of.nd rfl (by first | exact .inl rfl | exact .inr rfl))) (sgs_cons (sg_name (pg_name (i := 6) sc_pattern_of.nd rfl (by first | exact .inl rfl | exact .inr rfl))) sgs_nil))) (ss_one (ss_if (st_cmp (op_inB (u65 hr)) og_in (sv_var (pv 1)) (sv_tup (sa_cons (sv_var (pv 5)) (sa_cons (sv_var (pv 6)) sa_nil))) rfl) (ss_one (ss_s (ps_set (i := 4) sc_pattern_of.nd rfl (by first | exact .inl rfl | exact .inr rfl) (sv_if (st_cmp (op_eqA (u64 hr)) og_eq (sv_var (pv 1)) (sv_var (pv 5)) (nomark _)) (sv_int (pe_glob rfl Z.gc_HOME Z.rc_HOME)) (sv_int (pe_glob rfl Z.gc_AWAY Z.rc_AWAY)))))) ss_nil)))
      (ss_one (ss_expr (sv_mut arK_ok mg_app (pe_bm PySem.F.plainAttrs_list PySem.F.slot_list_append PySem.F.type_list_append mt_append (sv_var (pv 2)) (sa_cons (sv_var (pv 4)) sa_nil))))))))
      (ss_one (ss_ret (sv_b cg_tuple (pe_callTy call_tuple_of rfl Z.z_tuple bt_tuple (sa_cons (sv_var (pv 2)) sa_nil)))))))
def body_pattern : SM :=
      (sSeq (sExpr (mCall f_check_plan (mCons (mV 0) (mCons (mV 1) mNil))))
      (sSeq (sExpr (mCall f_check_team (mCons (mV 0) (mCons (mV 2) mNil))))
      (sRet (mCall f_pattern_of (mCons (mV 1) (mCons (mV 2) mNil))))))
def f_pattern : MFn := mkFn 3 3 body_pattern
theorem ok_pattern (Z : Fx K w mg) : FnG P w K mg base 4 Z.a_pattern Z.d_pattern ["n", "plan", "team"] (spM ⟨K, mg⟩ f_pattern) := by
  refine def_ok (k := 3) (N := ["n", "plan", "team"]) (ps := ["n", "plan", "team"]) (st := s_pattern) body_pattern Z.F_pattern sc_pattern fun cdv A outer s H E hr hgd => ?_
  unfold body_pattern
  exact (ss_cons (ss_expr (sv_call (ok_check_plan Z) (hr.mono (by decide)) hgd rfl Z.g_check_plan Z.F_check_plan.kp Z.b_check_plan (takes_of rfl rfl rfl rfl) (sa_cons (sv_var (pv 0)) (sa_cons (sv_var (pv 1)) sa_nil))))
      (ss_cons (ss_expr (sv_call (ok_check_team Z) (hr.mono (by decide)) hgd rfl Z.g_check_team Z.F_check_team.kp Z.b_check_team (takes_of rfl rfl rfl rfl) (sa_cons (sv_var (pv 0)) (sa_cons (sv_var (pv 2)) sa_nil))))
      (ss_one (ss_ret (sv_call (ok_pattern_of Z) (hr.mono (by decide)) hgd rfl Z.g_pattern_of Z.F_pattern_of.kp Z.b_pattern_of (takes_of rfl rfl rfl rfl) (sa_cons (sv_var (pv 1)) (sa_cons (sv_var (pv 2)) sa_nil)))))))
def body_breaks_in : SM :=
      (sSeq (sSet 1 (mAl (mLst mNil)))
      (sSeq (sSet 2 (mC (.int 2)))
      (sSeq (sFor (mRng enumA (mCons (mV 0) mNil)) (gT 2 (gsC (gN 3) (gsC (gN 4) gsN))) (sIf (mTB (mOp gNe (mV 4) (mC (.int 2)))) (sSeq (sIf (mTB (mOp gEq (mV 4) (mV 2))) (sExpr (mMut arK hApp (mV 1) (mCons (mV 3) mNil))) sSkip)
      (sSet 2 (mV 4))) sSkip))
      (sRet (mB (g1 tupleD) (mCons (mV 1) mNil))))))
def f_breaks_in : MFn := mkFn 1 5 body_breaks_in
theorem ok_breaks_in (Z : Fx K w mg) : FnG P w K mg base 1 Z.a_breaks_in Z.d_breaks_in ["entries"] (spM ⟨K, mg⟩ f_breaks_in) := by
  refine def_ok (k := 0) (N := ["entries", "found", "last", "at", "entry"]) (ps := ["entries"]) (st := s_breaks_in) body_breaks_in Z.F_breaks_in sc_breaks_in fun cdv A outer s H E hr hgd => ?_
  unfold body_breaks_in
  exact (ss_cons (ss_s (ps_set (i := 1) sc_breaks_in.nd rfl (by first | exact .inl rfl | exact .inr rfl) (sv_al (sv_lst sa_nil))))
      (ss_cons (ss_s (ps_set (i := 2) sc_breaks_in.nd rfl (by first | exact .inl rfl | exact .inr rfl) (sv_int (pe_glob rfl Z.gc_FREE Z.rc_FREE))))
      (ss_cons (ss_for (passes_of rfl) rfl (si_enumA (pi_enumA rfl Z.z_enumerate (sa_cons (sv_var (pv 0)) sa_nil))) (sg_tup rfl (sgs_cons (sg_name (pg_name (i := 3) sc_breaks_in.nd rfl (by first | exact .inl rfl | exact .inr rfl))) (sgs_cons (sg_name (pg_name (i := 4) sc_breaks_in.nd rfl (by first | exact .inl rfl | exact .inr rfl))) sgs_nil))) (ss_one (ss_if (st_cmp (op_neA (u64 hr)) og_ne (sv_var (pv 4)) (sv_int (pe_glob rfl Z.gc_FREE Z.rc_FREE)) (nomark _)) (ss_cons (ss_if (st_cmp (op_eqA (u64 hr)) og_eq (sv_var (pv 4)) (sv_var (pv 2)) (nomark _)) (ss_one (ss_expr (sv_mut arK_ok mg_app (pe_bm PySem.F.plainAttrs_list PySem.F.slot_list_append PySem.F.type_list_append mt_append (sv_var (pv 1)) (sa_cons (sv_var (pv 3)) sa_nil))))) ss_nil)
      (ss_one (ss_s (ps_set (i := 2) sc_breaks_in.nd rfl (by first | exact .inl rfl | exact .inr rfl) (sv_var (pv 4)))))) ss_nil)))
      (ss_one (ss_ret (sv_b cg_tuple (pe_callTy call_tuple_of rfl Z.z_tuple bt_tuple (sa_cons (sv_var (pv 1)) sa_nil))))))))
def body_breaks : SM :=
      (sSeq (sExpr (mCall f_check_plan (mCons (mV 0) (mCons (mV 1) mNil))))
      (sRet (mB (g1 tupleD) (mCons (mFz (mLC (mRng rng1 (mCons (mV 0) mNil)) (pN 2) mYes (mCall f_breaks_in (mCons (mCall f_pattern_of (mCons (mV 1) (mCons (mV 2) mNil))) mNil)) [2])) mNil))))
def f_breaks : MFn := mkFn 2 3 body_breaks
theorem ok_breaks (Z : Fx K w mg) : FnG P w K mg base 4 Z.a_breaks Z.d_breaks ["n", "plan"] (spM ⟨K, mg⟩ f_breaks) := by
  refine def_ok (k := 3) (N := ["n", "plan", "team"]) (ps := ["n", "plan"]) (st := s_breaks) body_breaks Z.F_breaks sc_breaks fun cdv A outer s H E hr hgd => ?_
  unfold body_breaks
  exact (ss_cons (ss_expr (sv_call (ok_check_plan Z) (hr.mono (by decide)) hgd rfl Z.g_check_plan Z.F_check_plan.kp Z.b_check_plan (takes_of rfl rfl rfl rfl) (sa_cons (sv_var (pv 0)) (sa_cons (sv_var (pv 1)) sa_nil))))
      (ss_one (ss_ret (sv_b cg_tuple (pe_callTy call_tuple_of rfl Z.z_tuple bt_tuple (sa_cons (sv_fz (sv_lc (own := [("team", 2)]) rfl sc_breaks.nd (si_r1 (pi_range1 rfl Z.z_range (sa_cons (sv_var (pv 0)) sa_nil))) (blkOk_by (N := N_breaks) (sc := (defScope s_breaks)) (by decide +kernel)) (fun _ _ _ _ _ => (sgw_name (by decide) (pg_name (i := 2) sc_breaks.nd rfl (by first | exact .inl rfl | exact .inr rfl)))) (fun _ _ _ _ _ => sts_nil) (fun _ _ _ _ _ => (sv_call (ok_breaks_in Z) (hr.mono (by decide)) hgd rfl Z.g_breaks_in Z.F_breaks_in.kp Z.b_breaks_in takes0 (sa_cons (sv_call (ok_pattern_of Z) (hr.mono (by decide)) hgd rfl Z.g_pattern_of Z.F_pattern_of.kp Z.b_pattern_of takes0 (sa_cons (sv_var (pv 1)) (sa_cons (sv_var (pv 2)) sa_nil))) sa_nil))))) sa_nil))))))
def body_run_in : SM :=
      (sSeq (sSet 1 (mC (.int 0)))
      (sSeq (sSet 2 (mC (.int 0)))
      (sSeq (sSet 3 (mC (.int 2)))
      (sSeq (sFor (mItA (mV 0)) (gN 4) (sIf (mTB (mOp gNe (mV 4) (mC (.int 2)))) (sSeq (sSet 2 (mIfE (mTB (mOp gEq (mV 4) (mV 3))) (mOp gAdd (mV 2) (mC (.int 1))) (mC (.int 1))))
      (sSeq (sSet 3 (mV 4))
      (sSet 1 (mB gMax2 (mCons (mV 1) (mCons (mV 2) mNil)))))) sSkip))
      (sRet (mV 1))))))
def f_run_in : MFn := mkFn 1 5 body_run_in
theorem ok_run_in (Z : Fx K w mg) : FnG P w K mg base 1 Z.a_run_in Z.d_run_in ["entries"] (spM ⟨K, mg⟩ f_run_in) := by
  refine def_ok (k := 0) (N := ["entries", "most", "here", "last", "entry"]) (ps := ["entries"]) (st := s_run_in) body_run_in Z.F_run_in sc_run_in fun cdv A outer s H E hr hgd => ?_
  unfold body_run_in
  exact (ss_cons (ss_s (ps_set (i := 1) sc_run_in.nd rfl (by first | exact .inl rfl | exact .inr rfl) (sv_int pe_int)))
      (ss_cons (ss_s (ps_set (i := 2) sc_run_in.nd rfl (by first | exact .inl rfl | exact .inr rfl) (sv_int pe_int)))
      (ss_cons (ss_s (ps_set (i := 3) sc_run_in.nd rfl (by first | exact .inl rfl | exact .inr rfl) (sv_int (pe_glob rfl Z.gc_FREE Z.rc_FREE))))
      (ss_cons (ss_for (passes_of rfl) rfl (si_anyA (sv_var (pv 0))) (sg_name (pg_name (i := 4) sc_run_in.nd rfl (by first | exact .inl rfl | exact .inr rfl))) (ss_one (ss_if (st_cmp (op_neA (u64 hr)) og_ne (sv_var (pv 4)) (sv_int (pe_glob rfl Z.gc_FREE Z.rc_FREE)) (nomark _)) (ss_cons (ss_s (ps_set (i := 2) sc_run_in.nd rfl (by first | exact .inl rfl | exact .inr rfl) (sv_if (st_cmp (op_eqA (u64 hr)) og_eq (sv_var (pv 4)) (sv_var (pv 3)) (nomark _)) (sv_bin op_addA og_add (sv_var (pv 2)) (sv_int pe_int)) (sv_int pe_int))))
      (ss_cons (ss_s (ps_set (i := 3) sc_run_in.nd rfl (by first | exact .inl rfl | exact .inr rfl) (sv_var (pv 4))))
      (ss_one (ss_s (ps_set (i := 1) sc_run_in.nd rfl (by first | exact .inl rfl | exact .inr rfl) (sv_b cg_max2 (pe_callB (call_max2 rfl) rfl Z.z_max bt_max (sa_cons (sv_var (pv 1)) (sa_cons (sv_var (pv 2)) sa_nil))))))))) ss_nil)))
      (ss_one (ss_ret (sv_var (pv 1))))))))
def body_longest_run : SM :=
      (sSeq (sExpr (mCall f_check_plan (mCons (mV 0) (mCons (mV 1) mNil))))
      (sRet (mB (g1 maxD) (mCons (mFz (mLC (mRng rng1 (mCons (mV 0) mNil)) (pN 2) mYes (mCall f_run_in (mCons (mCall f_pattern_of (mCons (mV 1) (mCons (mV 2) mNil))) mNil)) [2])) mNil))))
def f_longest_run : MFn := mkFn 2 3 body_longest_run
theorem ok_longest_run (Z : Fx K w mg) : FnG P w K mg base 4 Z.a_longest_run Z.d_longest_run ["n", "plan"] (spM ⟨K, mg⟩ f_longest_run) := by
  refine def_ok (k := 3) (N := ["n", "plan", "team"]) (ps := ["n", "plan"]) (st := s_longest_run) body_longest_run Z.F_longest_run sc_longest_run fun cdv A outer s H E hr hgd => ?_
  unfold body_longest_run
  exact (ss_cons (ss_expr (sv_call (ok_check_plan Z) (hr.mono (by decide)) hgd rfl Z.g_check_plan Z.F_check_plan.kp Z.b_check_plan (takes_of rfl rfl rfl rfl) (sa_cons (sv_var (pv 0)) (sa_cons (sv_var (pv 1)) sa_nil))))
      (ss_one (ss_ret (sv_b cg_max (pe_callB (cr_max rfl) rfl Z.z_max bt_max (sa_cons (sv_fz (sv_lc (own := [("team", 2)]) rfl sc_longest_run.nd (si_r1 (pi_range1 rfl Z.z_range (sa_cons (sv_var (pv 0)) sa_nil))) (blkOk_by (N := N_longest_run) (sc := (defScope s_longest_run)) (by decide +kernel)) (fun _ _ _ _ _ => (sgw_name (by decide) (pg_name (i := 2) sc_longest_run.nd rfl (by first | exact .inl rfl | exact .inr rfl)))) (fun _ _ _ _ _ => sts_nil) (fun _ _ _ _ _ => (sv_call (ok_run_in Z) (hr.mono (by decide)) hgd rfl Z.g_run_in Z.F_run_in.kp Z.b_run_in takes0 (sa_cons (sv_call (ok_pattern_of Z) (hr.mono (by decide)) hgd rfl Z.g_pattern_of Z.F_pattern_of.kp Z.b_pattern_of takes0 (sa_cons (sv_var (pv 1)) (sa_cons (sv_var (pv 2)) sa_nil))) sa_nil))))) sa_nil))))))
def body__law_number : SM :=
      (sSeq (sIf (mTB (mOp gLt (mV 0) (mC (.int 0)))) (sRet (mOp gSub (mC (.int 0)) (mV 0))) sSkip)
      (sRet (mV 0)))
def f__law_number : MFn := mkFn 1 1 body__law_number
theorem ok__law_number (Z : Fx K w mg) : FnG P w K mg base 1 Z.a__law_number Z.d__law_number ["cell"] (spM ⟨K, mg⟩ f__law_number) := by
  refine def_ok (k := 0) (N := ["cell"]) (ps := ["cell"]) (st := s__law_number) body__law_number Z.F__law_number sc__law_number fun cdv A outer s H E hr hgd => ?_
  unfold body__law_number
  exact (ss_cons (ss_if (st_cmp op_ltA og_lt (sv_var (pv 0)) (sv_int pe_int) (nomark _)) (ss_one (ss_ret (sv_bin op_sub og_sub (sv_int pe_int) (sv_var (pv 0))))) ss_nil)
      (ss_one (ss_ret (sv_var (pv 0)))))
def body__law_draws : SM :=
      (sSeq (sSet 1 (mAl (mLst mNil)))
      (sSeq (sFor (mItA (mV 0)) (gN 2) (sSeq (sSet 3 (mCall f__law_number (mCons (mV 2) mNil)))
      (sIf (mTB (mOp gGe (mV 3) (mC (.int 1000000000000000000)))) (sFor (mRng rng1 (mCons (mC (.int 60)) mNil)) (gN 4) (sSeq (sIf (mTB (mOp gEq (mV 3) (mC (.int 0)))) sBrk sSkip)
      (sSeq (sExpr (mMut arK hApp (mV 1) (mCons (mOp gMod (mB (g1 intD) (mCons (mV 3) mNil)) (mC (.int 1000))) mNil)))
      (sSet 3 (mOp gDiv (mV 3) (mC (.int 1000))))))) (sSeq (sSet 5 (mOp gMod (mB (g1 intD) (mCons (mOp gAdd (mOp gMulA (mV 3) (mC (.int 48271))) (mC (.int 11))) mNil)) (mC (.int 2147483647))))
      (sSeq (sSet 6 (mOp gMod (mB (g1 intD) (mCons (mOp gAdd (mOp gMulA (mV 5) (mC (.int 69621))) (mV 3)) mNil)) (mC (.int 2147483629))))
      (sExpr (mMut pks hExt (mV 1) (mCons (mFz (mLst (mCons (mOp gMod (mB (g1 intD) (mCons (mV 3) mNil)) (mC (.int 1000))) (mCons (mOp gMod (mB (g1 intD) (mCons (mV 5) mNil)) (mC (.int 1000))) (mCons (mOp gMod (mB (g1 intD) (mCons (mV 6) mNil)) (mC (.int 1000))) mNil))))) mNil))))))))
      (sSeq (sExpr (mMut arK hRev (mV 1) mNil))
      (sRet (mV 1)))))
def f__law_draws : MFn := mkFn 1 7 body__law_draws
theorem ok__law_draws (Z : Fx K w mg) : FnG P w K mg base 2 Z.a__law_draws Z.d__law_draws ["script"] (spM ⟨K, mg⟩ f__law_draws) := by
  refine def_ok (k := 1) (N := ["script", "draws", "cell", "rest", "k", "once", "twice"]) (ps := ["script"]) (st := s__law_draws) body__law_draws Z.F__law_draws sc__law_draws fun cdv A outer s H E hr hgd => ?_
  unfold body__law_draws
  exact (ss_cons (ss_s (ps_set (i := 1) sc__law_draws.nd rfl (by first | exact .inl rfl | exact .inr rfl) (sv_al (sv_lst sa_nil))))
      (ss_cons (ss_for (passes_of rfl) rfl (si_anyA (sv_var (pv 0))) (sg_name (pg_name (i := 2) sc__law_draws.nd rfl (by first | exact .inl rfl | exact .inr rfl))) (ss_cons (ss_s (ps_set (i := 3) sc__law_draws.nd rfl (by first | exact .inl rfl | exact .inr rfl) (sv_call (ok__law_number Z) (hr.mono (by decide)) hgd rfl Z.g__law_number Z.F__law_number.kp Z.b__law_number (takes_of rfl rfl rfl rfl) (sa_cons (sv_var (pv 2)) sa_nil))))
      (ss_one (ss_if (st_cmp op_geA og_ge (sv_var (pv 3)) (sv_int pe_int) (nomark _)) (ss_one (ss_for (passes_of rfl) rfl (si_r1 (pi_range1 rfl Z.z_range (sa_cons (sv_int pe_int) sa_nil))) (sg_name (pg_name (i := 4) sc__law_draws.nd rfl (by first | exact .inl rfl | exact .inr rfl))) (ss_cons (ss_if (st_cmp (op_eqA (u64 hr)) og_eq (sv_var (pv 3)) (sv_int pe_int) (nomark _)) (ss_one ss_break) ss_nil)
      (ss_cons (ss_expr (sv_mut arK_ok mg_app (pe_bm PySem.F.plainAttrs_list PySem.F.slot_list_append PySem.F.type_list_append mt_append (sv_var (pv 1)) (sa_cons (sv_bin op_modN og_mod (sv_b cg_int (pe_callTy call_intA rfl Z.z_int bt_int (sa_cons (sv_var (pv 3)) sa_nil))) (sv_int pe_int)) sa_nil))))
      (ss_one (ss_s (ps_set (i := 3) sc__law_draws.nd rfl (by first | exact .inl rfl | exact .inr rfl) (sv_bin op_fdivN og_div (sv_var (pv 3)) (sv_int pe_int))))))))) (ss_cons (ss_s (ps_set (i := 5) sc__law_draws.nd rfl (by first | exact .inl rfl | exact .inr rfl) (sv_bin op_modN og_mod (sv_b cg_int (pe_callTy call_intA rfl Z.z_int bt_int (sa_cons (sv_bin op_addA og_add (sv_bin op_mulA og_mulA (sv_var (pv 3)) (sv_int pe_int)) (sv_int pe_int)) sa_nil))) (sv_int pe_int))))
      (ss_cons (ss_s (ps_set (i := 6) sc__law_draws.nd rfl (by first | exact .inl rfl | exact .inr rfl) (sv_bin op_modN og_mod (sv_b cg_int (pe_callTy call_intA rfl Z.z_int bt_int (sa_cons (sv_bin op_addA og_add (sv_bin op_mulA og_mulA (sv_var (pv 5)) (sv_int pe_int)) (sv_var (pv 3))) sa_nil))) (sv_int pe_int))))
      (ss_one (ss_expr (sv_mut arR_ok mg_ext (pe_bm PySem.F.plainAttrs_list PySem.F.slot_list_extend PySem.F.type_list_extend mt_extS (sv_var (pv 1)) (sa_cons (sv_fz (sv_lst (sa_cons (sv_bin op_modN og_mod (sv_b cg_int (pe_callTy call_intA rfl Z.z_int bt_int (sa_cons (sv_var (pv 3)) sa_nil))) (sv_int pe_int)) (sa_cons (sv_bin op_modN og_mod (sv_b cg_int (pe_callTy call_intA rfl Z.z_int bt_int (sa_cons (sv_var (pv 5)) sa_nil))) (sv_int pe_int)) (sa_cons (sv_bin op_modN og_mod (sv_b cg_int (pe_callTy call_intA rfl Z.z_int bt_int (sa_cons (sv_var (pv 6)) sa_nil))) (sv_int pe_int)) sa_nil))))) sa_nil)))))))))))
      (ss_cons (ss_expr (sv_mut0 arK_ok mg_rev (pe_bm0 PySem.F.plainAttrs_list PySem.F.slot_list_reverse PySem.F.type_list_reverse mt_reverse (sv_var (pv 1)))))
      (ss_one (ss_ret (sv_var (pv 1)))))))
def body__law_flat : SM :=
      (sSeq (sSet 1 (mAl (mLst mNil)))
      (sSeq (sFor (mItA (mV 0)) (gN 2) (sExpr (mMut pks hExt (mV 1) (mCons (mV 2) mNil))))
      (sRet (mV 1))))
def f__law_flat : MFn := mkFn 1 3 body__law_flat
theorem ok__law_flat (Z : Fx K w mg) : FnG P w K mg base 1 Z.a__law_flat Z.d__law_flat ["rows"] (spM ⟨K, mg⟩ f__law_flat) := by
  refine def_ok (k := 0) (N := ["rows", "found", "row"]) (ps := ["rows"]) (st := s__law_flat) body__law_flat Z.F__law_flat sc__law_flat fun cdv A outer s H E hr hgd => ?_
  unfold body__law_flat
  exact (ss_cons (ss_s (ps_set (i := 1) sc__law_flat.nd rfl (by first | exact .inl rfl | exact .inr rfl) (sv_al (sv_lst sa_nil))))
      (ss_cons (ss_for (passes_of rfl) rfl (si_anyA (sv_var (pv 0))) (sg_name (pg_name (i := 2) sc__law_flat.nd rfl (by first | exact .inl rfl | exact .inr rfl))) (ss_one (ss_expr (sv_mut arR_ok mg_ext (pe_bm PySem.F.plainAttrs_list PySem.F.slot_list_extend PySem.F.type_list_extend mt_extS (sv_var (pv 1)) (sa_cons (sv_var (pv 2)) sa_nil))))))
      (ss_one (ss_ret (sv_var (pv 1))))))
def body__law_next : SM :=
      (sSeq (sIf (mTru (mV 0)) (sRet (mMut arK hPop (mV 0) mNil)) sSkip)
      (sRet (mC (.int 0))))
def f__law_next : MFn := mkFn 1 1 body__law_next
theorem ok__law_next (Z : Fx K w mg) : FnG P w K mg base 1 Z.a__law_next Z.d__law_next ["draws"] (spM ⟨K, mg⟩ f__law_next) := by
  refine def_ok (k := 0) (N := ["draws"]) (ps := ["draws"]) (st := s__law_next) body__law_next Z.F__law_next sc__law_next fun cdv A outer s H E hr hgd => ?_
  unfold body__law_next
  exact (ss_cons (ss_if (st_tru (sv_var (pv 0))) (ss_one (ss_ret (sv_mut0 arK_ok mg_pop (pe_bm0 PySem.F.plainAttrs_list PySem.F.slot_list_pop PySem.F.type_list_pop mt_pop (sv_var (pv 0)))))) ss_nil)
      (ss_one (ss_ret (sv_int pe_int))))
def body__law_more : SM :=
      (sSeq (sSet 2 (mOp gAdd (mOp gAdd (mOp gMulA (mC (.int 1000)) (mCall f__law_next (mCons (mV 0) mNil))) (mCall f__law_next (mCons (mV 0) mNil))) (mC (.int 1))))
      (sSeq (sSet 3 (mAl (mLst mNil)))
      (sSeq (sFor (mRng rng1 (mCons (mV 1) mNil)) (gN 4) (sSeq (sSet 2 (mOp gMod (mB (g1 intD) (mCons (mOp gAdd (mOp gMulA (mV 2) (mC (.int 48271))) (mC (.int 12345))) mNil)) (mC (.int 2147483647))))
      (sExpr (mMut arK hApp (mV 3) (mCons (mOp gMod (mB (g1 intD) (mCons (mOp gDiv (mV 2) (mC (.int 7))) mNil)) (mC (.int 1000))) mNil)))))
      (sRet (mOp gAdd (mV 3) (mV 0))))))
def f__law_more : MFn := mkFn 2 5 body__law_more
theorem ok__law_more (Z : Fx K w mg) : FnG P w K mg base 2 Z.a__law_more Z.d__law_more ["draws", "many"] (spM ⟨K, mg⟩ f__law_more) := by
  refine def_ok (k := 1) (N := ["draws", "many", "seed", "more", "k"]) (ps := ["draws", "many"]) (st := s__law_more) body__law_more Z.F__law_more sc__law_more fun cdv A outer s H E hr hgd => ?_
  unfold body__law_more
  exact (ss_cons (ss_s (ps_set (i := 2) sc__law_more.nd rfl (by first | exact .inl rfl | exact .inr rfl) (sv_bin op_addA og_add (sv_bin op_addA og_add (sv_bin op_mulA og_mulA (sv_int pe_int) (sv_call (ok__law_next Z) (hr.mono (by decide)) hgd rfl Z.g__law_next Z.F__law_next.kp Z.b__law_next (takes_of rfl rfl rfl rfl) (sa_cons (sv_var (pv 0)) sa_nil))) (sv_call (ok__law_next Z) (hr.mono (by decide)) hgd rfl Z.g__law_next Z.F__law_next.kp Z.b__law_next (takes_of rfl rfl rfl rfl) (sa_cons (sv_var (pv 0)) sa_nil))) (sv_int pe_int))))
      (ss_cons (ss_s (ps_set (i := 3) sc__law_more.nd rfl (by first | exact .inl rfl | exact .inr rfl) (sv_al (sv_lst sa_nil))))
      (ss_cons (ss_for (passes_of rfl) rfl (si_r1 (pi_range1 rfl Z.z_range (sa_cons (sv_var (pv 1)) sa_nil))) (sg_name (pg_name (i := 4) sc__law_more.nd rfl (by first | exact .inl rfl | exact .inr rfl))) (ss_cons (ss_s (ps_set (i := 2) sc__law_more.nd rfl (by first | exact .inl rfl | exact .inr rfl) (sv_bin op_modN og_mod (sv_b cg_int (pe_callTy call_intA rfl Z.z_int bt_int (sa_cons (sv_bin op_addA og_add (sv_bin op_mulA og_mulA (sv_var (pv 2)) (sv_int pe_int)) (sv_int pe_int)) sa_nil))) (sv_int pe_int))))
      (ss_one (ss_expr (sv_mut arK_ok mg_app (pe_bm PySem.F.plainAttrs_list PySem.F.slot_list_append PySem.F.type_list_append mt_append (sv_var (pv 3)) (sa_cons (sv_bin op_modN og_mod (sv_b cg_int (pe_callTy call_intA rfl Z.z_int bt_int (sa_cons (sv_bin op_fdivN og_div (sv_var (pv 2)) (sv_int pe_int)) sa_nil))) (sv_int pe_int)) sa_nil)))))))
      (ss_one (ss_ret (sv_bin op_addA og_add (sv_var (pv 3)) (sv_var (pv 0))))))))
/-- what the class C is, by isinstance -/
structure KiY (K : PySem.W.Frag) (w : World) (mg : PySem.Str → Option Value) (Z : Fx K w mg) (C : Addr) (b : PySem.Str → Bool) : Prop where
  exc : ExcC K C
  k_NotPlan : PySem.W.kitOne K (.ref C) (.ref Z.C_NotPlan) = some (b "NotPlan")
  k_NotResults : PySem.W.kitOne K (.ref C) (.ref Z.C_NotResults) = some (b "NotResults")
  k_NotPattern : PySem.W.kitOne K (.ref C) (.ref Z.C_NotPattern) = some (b "NotPattern")
  k_NotPaper : PySem.W.kitOne K (.ref C) (.ref Z.C_NotPaper) = some (b "NotPaper")
  k_BadNumber : PySem.W.kitOne K (.ref C) (.ref Z.C_BadNumber) = some (b "BadNumber")
  k_NoAnswer : PySem.W.kitOne K (.ref C) (.ref Z.C_NoAnswer) = some (b "NoAnswer")
  k_TooLarge : PySem.W.kitOne K (.ref C) (.ref Z.C_TooLarge) = some (b "TooLarge")
def body__law_kind (b : PySem.Str → Bool) (a : Addr) : SM :=
      (sSeq (sSet 1 (mFz (mLst (mCons (mC (.str "plan")) (mCons (mC (.str "results")) (mCons (mC (.str "pattern")) (mCons (mC (.str "paper")) (mCons (mC (.str "number")) (mCons (mC (.str "none")) (mCons (mC (.str "large")) mNil))))))))))
      (sSeq (sSet 2 (mFz (mLst (mCons (mIsP a (b "NotPlan") (mV 0)) (mCons (mIsP a (b "NotResults") (mV 0)) (mCons (mIsP a (b "NotPattern") (mV 0)) (mCons (mIsP a (b "NotPaper") (mV 0)) mNil)))))))
      (sSeq (sSet 2 (mFz (mOp gAdd (mV 2) (mLst (mCons (mIsP a (b "BadNumber") (mV 0)) (mCons (mIsP a (b "NoAnswer") (mV 0)) (mCons (mIsP a (b "TooLarge") (mV 0)) mNil)))))))
      (sRet (mIfE (mTB (mOp gEq (mLm gCnt (mV 2) (mCons (mC (.bl true)) mNil)) (mC (.int 1)))) (mOp gAdd (mC (.str "!")) (mOp gIx (mV 1) (mLm gIdx (mV 2) (mCons (mC (.bl true)) mNil)))) (mC (.str "!other")))))))
theorem ok__law_kind (Z : Fx K w mg) {C : Addr} {b : PySem.Str → Bool} {r : PySem.Str} (Y : KiY K w mg Z C b) (h : ∀ a, ∃ S1, body__law_kind b a ([some (.v (.raw a))] ++ List.replicate 2 none) [] = .rt (.v (.str r)) S1) : FnK P w K mg base 1 Z.a__law_kind Z.d__law_kind ["error"] C r := by
  refine fnK_of (k := 0) (N := ["error", "names", "found"]) (st := s__law_kind) (body__law_kind b) Z.F__law_kind sc__law_kind (fun cdv A outer s H a oe hr hz hf => ?_) h
  unfold body__law_kind
  exact (ss_cons (ss_s (ps_set (i := 1) sc__law_kind.nd rfl (by first | exact .inl rfl | exact .inr rfl) (sv_fz (sv_lst (sa_cons (sv_str pe_str) (sa_cons (sv_str pe_str) (sa_cons (sv_str pe_str) (sa_cons (sv_str pe_str) (sa_cons (sv_str pe_str) (sa_cons (sv_str pe_str) (sa_cons (sv_str pe_str) sa_nil)))))))))))
      (ss_cons (ss_s (ps_set (i := 2) sc__law_kind.nd rfl (by first | exact .inl rfl | exact .inr rfl) (sv_fz (sv_lst (sa_cons (sv_isP (Y.k_NotPlan) (pe_callB (call_isP Y.exc List.mem_cons_self hz hf) rfl Z.z_isinstance bt_isinstance (pa_cons (sv_var (pv 0)) (pa_cons (pe_glob rfl Z.gC_NotPlan rfl) pa_nil)))) (sa_cons (sv_isP (Y.k_NotResults) (pe_callB (call_isP Y.exc List.mem_cons_self hz hf) rfl Z.z_isinstance bt_isinstance (pa_cons (sv_var (pv 0)) (pa_cons (pe_glob rfl Z.gC_NotResults rfl) pa_nil)))) (sa_cons (sv_isP (Y.k_NotPattern) (pe_callB (call_isP Y.exc List.mem_cons_self hz hf) rfl Z.z_isinstance bt_isinstance (pa_cons (sv_var (pv 0)) (pa_cons (pe_glob rfl Z.gC_NotPattern rfl) pa_nil)))) (sa_cons (sv_isP (Y.k_NotPaper) (pe_callB (call_isP Y.exc List.mem_cons_self hz hf) rfl Z.z_isinstance bt_isinstance (pa_cons (sv_var (pv 0)) (pa_cons (pe_glob rfl Z.gC_NotPaper rfl) pa_nil)))) sa_nil))))))))
      (ss_cons (ss_s (ps_set (i := 2) sc__law_kind.nd rfl (by first | exact .inl rfl | exact .inr rfl) (sv_fz (sv_bin op_addA og_add (sv_var (pv 2)) (sv_lst (sa_cons (sv_isP (Y.k_BadNumber) (pe_callB (call_isP Y.exc List.mem_cons_self hz hf) rfl Z.z_isinstance bt_isinstance (pa_cons (sv_var (pv 0)) (pa_cons (pe_glob rfl Z.gC_BadNumber rfl) pa_nil)))) (sa_cons (sv_isP (Y.k_NoAnswer) (pe_callB (call_isP Y.exc List.mem_cons_self hz hf) rfl Z.z_isinstance bt_isinstance (pa_cons (sv_var (pv 0)) (pa_cons (pe_glob rfl Z.gC_NoAnswer rfl) pa_nil)))) (sa_cons (sv_isP (Y.k_TooLarge) (pe_callB (call_isP Y.exc List.mem_cons_self hz hf) rfl Z.z_isinstance bt_isinstance (pa_cons (sv_var (pv 0)) (pa_cons (pe_glob rfl Z.gC_TooLarge rfl) pa_nil)))) sa_nil))))))))
      (ss_one (ss_ret (sv_if (st_cmp (op_eqA (v64 hr)) og_eq (sv_lm lg_cnt (pe_bm PySem.F.plainAttrs_list PySem.F.slot_list_count PySem.F.type_list_count (mt_countD (v65 hr)) (sv_var (pv 2)) (sa_cons (sv_bl pe_bl) sa_nil))) (sv_int pe_int) (nomark _)) (sv_bin op_addA og_add (sv_str pe_str) (sv_ix (v65 hr) (sv_var (pv 1)) (sv_lm lg_idx (pe_bm PySem.F.plainAttrs_list PySem.F.slot_list_index PySem.F.type_list_index (mt_indexD (v65 hr)) (sv_var (pv 2)) (sa_cons (sv_bl pe_bl) sa_nil))) (fun _ _ => rfl))) (sv_str pe_str)))))))
theorem kind_NotPlan (a : Addr) : body__law_kind (fun x => decide (x = "NotPlan")) a [some (.v (.raw a)), none, none] [] = .rt (.v (.str "!plan")) [] := by
  simp [body__law_kind, gAdd, lim]
  rfl
theorem kind_BadNumber (a : Addr) : body__law_kind (fun x => decide (x = "BadNumber")) a [some (.v (.raw a)), none, none] [] = .rt (.v (.str "!number")) [] := by
  simp [body__law_kind, gAdd, lim]
  rfl
abbrev tabK : KTab := [("NotPlan", "!plan"), ("BadNumber", "!number")]
theorem okKind (Z : Fx K w mg) : KindOk P w K mg base 1 Z.a__law_kind Z.d__law_kind ["error"] (.ref Z.C_PlanError) tabK := by
  refine ⟨fun n r h => ?_, fun n r n1 r1 h h1 e => ?_, by decide⟩
  · simp only [tabK, List.mem_cons, Prod.mk.injEq, List.not_mem_nil, or_false] at h
    rcases h with ⟨rfl, rfl⟩ | ⟨rfl, rfl⟩
    · exact ⟨_, Z.gC_NotPlan, Z.em_NotPlan, ok__law_kind Z (b := fun x => decide (x = "NotPlan")) ⟨Z.ex_NotPlan, Z.k_NotPlan_NotPlan, Z.k_NotPlan_NotResults, Z.k_NotPlan_NotPattern, Z.k_NotPlan_NotPaper, Z.k_NotPlan_BadNumber, Z.k_NotPlan_NoAnswer, Z.k_NotPlan_TooLarge⟩ fun a => ⟨_, kind_NotPlan a⟩⟩
    · exact ⟨_, Z.gC_BadNumber, Z.em_BadNumber, ok__law_kind Z (b := fun x => decide (x = "BadNumber")) ⟨Z.ex_BadNumber, Z.k_BadNumber_NotPlan, Z.k_BadNumber_NotResults, Z.k_BadNumber_NotPattern, Z.k_BadNumber_NotPaper, Z.k_BadNumber_BadNumber, Z.k_BadNumber_NoAnswer, Z.k_BadNumber_TooLarge⟩ fun a => ⟨_, kind_BadNumber a⟩⟩
  · simp only [tabK, List.mem_cons, Prod.mk.injEq, List.not_mem_nil, or_false] at h h1
    have e_NotPlan := Z.gC_NotPlan
    have e_BadNumber := Z.gC_BadNumber
    have n_NotPlan_BadNumber := kit_ne Z.k_NotPlan_BadNumber
    have n_BadNumber_NotPlan := kit_ne Z.k_BadNumber_NotPlan
    rcases h with ⟨rfl, rfl⟩ | ⟨rfl, rfl⟩ <;> rcases h1 with ⟨rfl, rfl⟩ | ⟨rfl, rfl⟩ <;> first | rfl | (exfalso; simp_all)
def body__law_mixed : SM :=
      (sSeq (sSet 2 (mAl (mLR lrng1 (mCons (mV 1) mNil))))
      (sSeq (sFor (mRng rng1 (mCons (mV 1) mNil)) (gN 3) (sSeq (sSet 4 (mOp gMod (mB (g1 intD) (mCons (mCall f__law_next (mCons (mV 0) mNil)) mNil)) (mV 1)))
      (sAsg (mTup (mCons (mOp gIx (mV 2) (mV 4)) (mCons (mOp gIx (mV 2) (mV 3)) mNil))) (gT 2 (gsC (gIxS (mV 2) (mV 3)) (gsC (gIxS (mV 2) (mV 4)) gsN))))))
      (sRet (mB (g1 tupleD) (mCons (mV 2) mNil)))))
def f__law_mixed : MFn := mkFn 2 5 body__law_mixed
theorem ok__law_mixed (Z : Fx K w mg) : FnG P w K mg base 2 Z.a__law_mixed Z.d__law_mixed ["draws", "n"] (spM ⟨K, mg⟩ f__law_mixed) := by
  refine def_ok (k := 1) (N := ["draws", "n", "order", "at", "place"]) (ps := ["draws", "n"]) (st := s__law_mixed) body__law_mixed Z.F__law_mixed sc__law_mixed fun cdv A outer s H E hr hgd => ?_
  unfold body__law_mixed
  exact (ss_cons (ss_s (ps_set (i := 2) sc__law_mixed.nd rfl (by first | exact .inl rfl | exact .inr rfl) (sv_al (sv_lr1 (pe_callTy (call_list_rng rfl) rfl Z.z_list bt_list (pa_cons (pe_callTy cr_range1 rfl Z.z_range bt_range (sa_cons (sv_var (pv 1)) sa_nil)) pa_nil))))))
      (ss_cons (ss_for (passes_of rfl) rfl (si_r1 (pi_range1 rfl Z.z_range (sa_cons (sv_var (pv 1)) sa_nil))) (sg_name (pg_name (i := 3) sc__law_mixed.nd rfl (by first | exact .inl rfl | exact .inr rfl))) (ss_cons (ss_s (ps_set (i := 4) sc__law_mixed.nd rfl (by first | exact .inl rfl | exact .inr rfl) (sv_bin op_modN og_mod (sv_b cg_int (pe_callTy call_intA rfl Z.z_int bt_int (sa_cons (sv_call (ok__law_next Z) (hr.mono (by decide)) hgd rfl Z.g__law_next Z.F__law_next.kp Z.b__law_next (takes_of rfl rfl rfl rfl) (sa_cons (sv_var (pv 0)) sa_nil)) sa_nil))) (sv_var (pv 1)))))
      (ss_one (ss_asg (sv_tup (sa_cons (sv_ix (u65 hr) (sv_var (pv 2)) (sv_var (pv 4)) (fun _ _ => rfl)) (sa_cons (sv_ix (u65 hr) (sv_var (pv 2)) (sv_var (pv 3)) (fun _ _ => rfl)) sa_nil))) (sg_tup rfl (sgs_cons (sg_sub (u65 hr) (sv_var (pv 2)) (sv_var (pv 3))) (sgs_cons (sg_sub (u65 hr) (sv_var (pv 2)) (sv_var (pv 4))) sgs_nil)))))))
      (ss_one (ss_ret (sv_b cg_tuple (pe_callTy call_tuple_of rfl Z.z_tuple bt_tuple (sa_cons (sv_var (pv 2)) sa_nil)))))))
def body__law_circle : SM :=
      (sSeq (sSet 1 (mOp gSub (mV 0) (mC (.int 1))))
      (sSeq (sSet 2 (mAl (mLst mNil)))
      (sSeq (sFor (mRng rng1 (mCons (mV 1) mNil)) (gN 3) (sSeq (sSet 4 (mAl (mLst (mCons (mIfE (mTB (mOp gEq (mOp gMod (mB (g1 intD) (mCons (mV 3) mNil)) (mC (.int 2))) (mC (.int 0)))) (mTup (mCons (mV 1) (mCons (mV 3) mNil))) (mTup (mCons (mV 3) (mCons (mV 1) mNil)))) mNil))))
      (sSeq (sFor (mRng rng2 (mCons (mC (.int 1)) (mCons (mOp gDiv (mV 0) (mC (.int 2))) mNil))) (gN 5) (sSeq (sPar 6 7 (mCons (mOp gMod (mB (g1 intD) (mCons (mFz (mOp gAdd (mV 3) (mV 5))) mNil)) (mV 1)) (mCons (mOp gMod (mB (g1 intD) (mCons (mOp gSub (mV 3) (mV 5)) mNil)) (mV 1)) mNil)))
      (sExpr (mMut arK hApp (mV 4) (mCons (mIfE (mTB (mOp gEq (mOp gMod (mB (g1 intD) (mCons (mV 5) mNil)) (mC (.int 2))) (mC (.int 1)))) (mTup (mCons (mV 6) (mCons (mV 7) mNil))) (mTup (mCons (mV 7) (mCons (mV 6) mNil)))) mNil)))))
      (sExpr (mMut arK hApp (mV 2) (mCons (mB (g1 tupleD) (mCons (mFz (mB (g1 sortA) (mCons (mV 4) mNil))) mNil)) mNil))))))
      (sRet (mB (g1 tupleD) (mCons (mV 2) mNil))))))
def f__law_circle : MFn := mkFn 1 8 body__law_circle
theorem ok__law_circle (Z : Fx K w mg) : FnG P w K mg base 1 Z.a__law_circle Z.d__law_circle ["n"] (spM ⟨K, mg⟩ f__law_circle) := by
  refine def_ok (k := 0) (N := ["n", "m", "found", "r", "games", "i", "one", "other"]) (ps := ["n"]) (st := s__law_circle) body__law_circle Z.F__law_circle sc__law_circle fun cdv A outer s H E hr hgd => ?_
  unfold body__law_circle
  exact (ss_cons (ss_s (ps_set (i := 1) sc__law_circle.nd rfl (by first | exact .inl rfl | exact .inr rfl) (sv_bin op_sub og_sub (sv_var (pv 0)) (sv_int pe_int))))
      (ss_cons (ss_s (ps_set (i := 2) sc__law_circle.nd rfl (by first | exact .inl rfl | exact .inr rfl) (sv_al (sv_lst sa_nil))))
      (ss_cons (ss_for (passes_of rfl) rfl (si_r1 (pi_range1 rfl Z.z_range (sa_cons (sv_var (pv 1)) sa_nil))) (sg_name (pg_name (i := 3) sc__law_circle.nd rfl (by first | exact .inl rfl | exact .inr rfl))) (ss_cons (ss_s (ps_set (i := 4) sc__law_circle.nd rfl (by first | exact .inl rfl | exact .inr rfl) (sv_al (sv_lst (sa_cons (sv_if (st_cmp (op_eqA (u64 hr)) og_eq (sv_bin op_modN og_mod (sv_b cg_int (pe_callTy call_intA rfl Z.z_int bt_int (sa_cons (sv_var (pv 3)) sa_nil))) (sv_int pe_int)) (sv_int pe_int) (nomark _)) (sv_tup (sa_cons (sv_var (pv 1)) (sa_cons (sv_var (pv 3)) sa_nil))) (sv_tup (sa_cons (sv_var (pv 3)) (sa_cons (sv_var (pv 1)) sa_nil)))) sa_nil)))))
      (ss_cons (ss_for (passes_of rfl) rfl (si_r2 (pi_range2 rfl Z.z_range (sa_cons (sv_int pe_int) (sa_cons (sv_bin op_fdivN og_div (sv_var (pv 0)) (sv_int pe_int)) sa_nil)))) (sg_name (pg_name (i := 5) sc__law_circle.nd rfl (by first | exact .inl rfl | exact .inr rfl))) (ss_cons (ss_par (ps_par (i := 6) (j := 7) rfl sc__law_circle.nd rfl rfl (by decide) rfl rfl (sa_cons (sv_bin op_modN og_mod (sv_b cg_int (pe_callTy call_intA rfl Z.z_int bt_int (sa_cons (sv_fz (sv_bin op_addA og_add (sv_var (pv 3)) (sv_var (pv 5)))) sa_nil))) (sv_var (pv 1))) (sa_cons (sv_bin op_modN og_mod (sv_b cg_int (pe_callTy call_intA rfl Z.z_int bt_int (sa_cons (sv_bin op_sub og_sub (sv_var (pv 3)) (sv_var (pv 5))) sa_nil))) (sv_var (pv 1))) sa_nil)) rfl))
      (ss_one (ss_expr (sv_mut arK_ok mg_app (pe_bm PySem.F.plainAttrs_list PySem.F.slot_list_append PySem.F.type_list_append mt_append (sv_var (pv 4)) (sa_cons (sv_if (st_cmp (op_eqA (u64 hr)) og_eq (sv_bin op_modN og_mod (sv_b cg_int (pe_callTy call_intA rfl Z.z_int bt_int (sa_cons (sv_var (pv 5)) sa_nil))) (sv_int pe_int)) (sv_int pe_int) (nomark _)) (sv_tup (sa_cons (sv_var (pv 6)) (sa_cons (sv_var (pv 7)) sa_nil))) (sv_tup (sa_cons (sv_var (pv 7)) (sa_cons (sv_var (pv 6)) sa_nil)))) sa_nil)))))))
      (ss_one (ss_expr (sv_mut arK_ok mg_app (pe_bm PySem.F.plainAttrs_list PySem.F.slot_list_append PySem.F.type_list_append mt_append (sv_var (pv 2)) (sa_cons (sv_b cg_tuple (pe_callTy call_tuple_of rfl Z.z_tuple bt_tuple (sa_cons (sv_fz (sv_b cg_sortA (pe_callB (call_sortA (u65 hr)) rfl Z.z_sorted bt_sorted (sa_cons (sv_var (pv 4)) sa_nil)))) sa_nil))) sa_nil))))))))
      (ss_one (ss_ret (sv_b cg_tuple (pe_callTy call_tuple_of rfl Z.z_tuple bt_tuple (sa_cons (sv_var (pv 2)) sa_nil))))))))
def body__law_any_circle : SM :=
      (sSeq (sIf (mTB (mOp gEq (mOp gMod (mB (g1 intD) (mCons (mV 0) mNil)) (mC (.int 2))) (mC (.int 0)))) (sRet (mCall f__law_circle (mCons (mV 0) mNil))) sSkip)
      (sRet (mB (g1 tupleD) (mCons (mFz (mLC (mItA (mCall f__law_circle (mCons (mOp gAdd (mV 0) (mC (.int 1))) mNil))) (pN 1) mYes (mB (g1 tupleD) (mCons (mFz (mLC (mItA (mV 1)) (pN 2) (mTB (mOp (gIn true) (mV 0) (mV 2))) (mV 2) [2])) mNil)) [1])) mNil))))
def f__law_any_circle : MFn := mkFn 1 3 body__law_any_circle
theorem ok__law_any_circle (Z : Fx K w mg) : FnG P w K mg base 2 Z.a__law_any_circle Z.d__law_any_circle ["n"] (spM ⟨K, mg⟩ f__law_any_circle) := by
  refine def_ok (k := 1) (N := ["n", "games", "game"]) (ps := ["n"]) (st := s__law_any_circle) body__law_any_circle Z.F__law_any_circle sc__law_any_circle fun cdv A outer s H E hr hgd => ?_
  unfold body__law_any_circle
  exact (ss_cons (ss_if (st_cmp (op_eqA (u64 hr)) og_eq (sv_bin op_modN og_mod (sv_b cg_int (pe_callTy call_intA rfl Z.z_int bt_int (sa_cons (sv_var (pv 0)) sa_nil))) (sv_int pe_int)) (sv_int pe_int) (nomark _)) (ss_one (ss_ret (sv_call (ok__law_circle Z) (hr.mono (by decide)) hgd rfl Z.g__law_circle Z.F__law_circle.kp Z.b__law_circle (takes_of rfl rfl rfl rfl) (sa_cons (sv_var (pv 0)) sa_nil)))) ss_nil)
      (ss_one (ss_ret (sv_b cg_tuple (pe_callTy call_tuple_of rfl Z.z_tuple bt_tuple (sa_cons (sv_fz (sv_lc (own := [("games", 1)]) rfl sc__law_any_circle.nd (si_anyA (sv_call (ok__law_circle Z) (hr.mono (by decide)) hgd rfl Z.g__law_circle Z.F__law_circle.kp Z.b__law_circle (takes_of rfl rfl rfl rfl) (sa_cons (sv_bin op_addA og_add (sv_var (pv 0)) (sv_int pe_int)) sa_nil))) (blkOk_by (N := N__law_any_circle) (sc := (defScope s__law_any_circle)) (by decide +kernel)) (fun _ _ _ _ _ => (sgw_name (by decide) (pg_name (i := 1) sc__law_any_circle.nd rfl (by first | exact .inl rfl | exact .inr rfl)))) (fun _ _ _ _ _ => sts_nil) (fun _ _ _ _ _ => (sv_b cg_tuple (pe_callTy call_tuple_of rfl Z.z_tuple bt_tuple (sa_cons (sv_fz (sv_lc (own := [("game", 2)]) rfl sc__law_any_circle.nd (si_anyA (sv_var (pv 1))) (blkOk_by (by first | decide +kernel | rfl)) (fun _ _ _ _ _ => (sgw_name (by decide) (pg_name (i := 2) sc__law_any_circle.nd rfl (by first | exact .inl rfl | exact .inr rfl)))) (fun _ _ _ _ _ => (sts_one (st_cmp (op_notInB (u65 hr)) og_in (sv_var (pv 0)) (sv_var (pv 2)) rfl))) (fun _ _ _ _ _ => (sv_var (pv 2))))) sa_nil)))))) sa_nil))))))
def body__law_renamed : SM :=
      (sRet (mB (g1 tupleD) (mCons (mFz (mLC (mItA (mV 0)) (pN 2) mYes (mB (g1 tupleD) (mCons (mFz (mB (g1 sortA) (mCons (mFz (mLC (mItA (mV 2)) (pT 2 (psC (pN 3) (psC (pN 4) psN))) mYes (mTup (mCons (mOp gIx (mV 1) (mV 3)) (mCons (mOp gIx (mV 1) (mV 4)) mNil))) [3, 4])) mNil))) mNil)) [2])) mNil)))
def f__law_renamed : MFn := mkFn 2 5 body__law_renamed
theorem ok__law_renamed (Z : Fx K w mg) : FnG P w K mg base 1 Z.a__law_renamed Z.d__law_renamed ["plan", "order"] (spM ⟨K, mg⟩ f__law_renamed) := by
  refine def_ok (k := 0) (N := ["plan", "order", "games", "one", "other"]) (ps := ["plan", "order"]) (st := s__law_renamed) body__law_renamed Z.F__law_renamed sc__law_renamed fun cdv A outer s H E hr hgd => ?_
  unfold body__law_renamed
  exact (ss_one (ss_ret (sv_b cg_tuple (pe_callTy call_tuple_of rfl Z.z_tuple bt_tuple (sa_cons (sv_fz (sv_lc (own := [("games", 2)]) rfl sc__law_renamed.nd (si_anyA (sv_var (pv 0))) (blkOk_by (N := N__law_renamed) (sc := (defScope s__law_renamed)) (by decide +kernel)) (fun _ _ _ _ _ => (sgw_name (by decide) (pg_name (i := 2) sc__law_renamed.nd rfl (by first | exact .inl rfl | exact .inr rfl)))) (fun _ _ _ _ _ => sts_nil) (fun _ _ _ _ _ => (sv_b cg_tuple (pe_callTy call_tuple_of rfl Z.z_tuple bt_tuple (sa_cons (sv_fz (sv_b cg_sortA (pe_callB (call_sortA (u65 hr)) rfl Z.z_sorted bt_sorted (sa_cons (sv_fz (sv_lc (own := [("one", 3), ("other", 4)]) rfl sc__law_renamed.nd (si_anyA (sv_var (pv 2))) (blkOk_by (by first | decide +kernel | rfl)) (fun _ _ _ _ _ => (sgw_tup rfl (sgsw_cons (sgw_name (by decide) (pg_name (i := 3) sc__law_renamed.nd rfl (by first | exact .inl rfl | exact .inr rfl))) (sgsw_cons (sgw_name (by decide) (pg_name (i := 4) sc__law_renamed.nd rfl (by first | exact .inl rfl | exact .inr rfl))) sgsw_nil)))) (fun _ _ _ _ _ => sts_nil) (fun _ _ _ _ _ => (sv_tup (sa_cons (sv_ix (u65 hr) (sv_var (pv 1)) (sv_var (pv 3)) (fun _ _ => rfl)) (sa_cons (sv_ix (u65 hr) (sv_var (pv 1)) (sv_var (pv 4)) (fun _ _ => rfl)) sa_nil)))))) sa_nil)))) sa_nil)))))) sa_nil)))))
def body__law_plan : SM :=
      (sSeq (sSet 2 (mOp gAdd (mC (.int 2)) (mOp gMod (mB (g1 intD) (mCons (mCall f__law_next (mCons (mV 0) mNil)) mNil)) (mOp gSub (mV 1) (mC (.int 1))))))
      (sSeq (sSet 3 (mCall f__law_renamed (mCons (mCall f__law_any_circle (mCons (mV 2) mNil)) (mCons (mCall f__law_mixed (mCons (mV 0) (mCons (mV 2) mNil))) mNil))))
      (sSeq (sSet 4 (mOp gMod (mB (g1 intD) (mCons (mCall f__law_next (mCons (mV 0) mNil)) mNil)) (mC (.int 4))))
      (sSeq (sSet 3 (mB (g1 tupleD) (mCons (mFz (mLC (mItA (mV 3)) (pN 5) mYes (mB (g1 tupleD) (mCons (mFz (mB (g1 sortA) (mCons (mFz (mLC (mItA (mV 5)) (pN 6) mYes (mIfE (mTB (mOp gGt (mOp gMod (mB (g1 intD) (mCons (mCall f__law_next (mCons (mV 0) mNil)) mNil)) (mC (.int 3))) (mC (.int 0)))) (mV 6) (mTup (mCons (mOp gIx (mV 6) (mC (.int 1))) (mCons (mOp gIx (mV 6) (mC (.int 0))) mNil)))) [6])) mNil))) mNil)) [5])) mNil)))
      (sSeq (sIf (mTB (mOp gEq (mV 4) (mC (.int 1)))) (sSet 3 (mOp gAdd (mV 3) (mB (g1 tupleD) (mCons (mFz (mLC (mItA (mV 3)) (pN 5) mYes (mB (g1 tupleD) (mCons (mFz (mB (g1 sortA) (mCons (mFz (mLC (mItA (mV 5)) (pT 2 (psC (pN 7) (psC (pN 8) psN))) mYes (mTup (mCons (mV 8) (mCons (mV 7) mNil))) [7, 8])) mNil))) mNil)) [5])) mNil)))) sSkip)
      (sSeq (sIf (mTB (mOp gEq (mV 4) (mC (.int 2)))) (sSet 3 (mB (g1 tupleD) (mCons (mFz (mLC (mItA (mV 3)) (pN 5) mYes (mB (g1 tupleD) (mCons (mFz (mLC (mItA (mV 5)) (pN 6) (mTB (mOp gGt (mOp gMod (mB (g1 intD) (mCons (mCall f__law_next (mCons (mV 0) mNil)) mNil)) (mC (.int 5))) (mC (.int 0)))) (mV 6) [6])) mNil)) [5])) mNil))) sSkip)
      (sSeq (sIf (mTB (mOp gEq (mV 4) (mC (.int 3)))) (sSet 3 (mFz (mOp gAdd (mV 3) (mSl (mV 3) oNo (oAt (mOp gMod (mB (g1 intD) (mCons (mCall f__law_next (mCons (mV 0) mNil)) mNil)) (mC (.int 3)))))))) sSkip)
      (sRet (mTup (mCons (mV 2) (mCons (mV 3) mNil)))))))))))
def f__law_plan : MFn := mkFn 2 9 body__law_plan
theorem ok__law_plan (Z : Fx K w mg) : FnG P w K mg base 3 Z.a__law_plan Z.d__law_plan ["draws", "most"] (spM ⟨K, mg⟩ f__law_plan) := by
  refine def_ok (k := 2) (N := ["draws", "most", "n", "plan", "kind", "games", "game", "one", "other"]) (ps := ["draws", "most"]) (st := s__law_plan) body__law_plan Z.F__law_plan sc__law_plan fun cdv A outer s H E hr hgd => ?_
  unfold body__law_plan
  exact (ss_cons (ss_s (ps_set (i := 2) sc__law_plan.nd rfl (by first | exact .inl rfl | exact .inr rfl) (sv_bin op_addA og_add (sv_int pe_int) (sv_bin op_modN og_mod (sv_b cg_int (pe_callTy call_intA rfl Z.z_int bt_int (sa_cons (sv_call (ok__law_next Z) (hr.mono (by decide)) hgd rfl Z.g__law_next Z.F__law_next.kp Z.b__law_next (takes_of rfl rfl rfl rfl) (sa_cons (sv_var (pv 0)) sa_nil)) sa_nil))) (sv_bin op_sub og_sub (sv_var (pv 1)) (sv_int pe_int))))))
      (ss_cons (ss_s (ps_set (i := 3) sc__law_plan.nd rfl (by first | exact .inl rfl | exact .inr rfl) (sv_call (ok__law_renamed Z) (hr.mono (by decide)) hgd rfl Z.g__law_renamed Z.F__law_renamed.kp Z.b__law_renamed (takes_of rfl rfl rfl rfl) (sa_cons (sv_call (ok__law_any_circle Z) (hr.mono (by decide)) hgd rfl Z.g__law_any_circle Z.F__law_any_circle.kp Z.b__law_any_circle (takes_of rfl rfl rfl rfl) (sa_cons (sv_var (pv 2)) sa_nil)) (sa_cons (sv_call (ok__law_mixed Z) (hr.mono (by decide)) hgd rfl Z.g__law_mixed Z.F__law_mixed.kp Z.b__law_mixed (takes_of rfl rfl rfl rfl) (sa_cons (sv_var (pv 0)) (sa_cons (sv_var (pv 2)) sa_nil))) sa_nil)))))
      (ss_cons (ss_s (ps_set (i := 4) sc__law_plan.nd rfl (by first | exact .inl rfl | exact .inr rfl) (sv_bin op_modN og_mod (sv_b cg_int (pe_callTy call_intA rfl Z.z_int bt_int (sa_cons (sv_call (ok__law_next Z) (hr.mono (by decide)) hgd rfl Z.g__law_next Z.F__law_next.kp Z.b__law_next (takes_of rfl rfl rfl rfl) (sa_cons (sv_var (pv 0)) sa_nil)) sa_nil))) (sv_int pe_int))))
      (ss_cons (ss_s (ps_set (i := 3) sc__law_plan.nd rfl (by first | exact .inl rfl | exact .inr rfl) (sv_b cg_tuple (pe_callTy call_tuple_of rfl Z.z_tuple bt_tuple (sa_cons (sv_fz (sv_lc (own := [("games", 5)]) rfl sc__law_plan.nd (si_anyA (sv_var (pv 3))) (blkOk_by (N := N__law_plan) (sc := (defScope s__law_plan)) (by decide +kernel)) (fun _ _ _ _ _ => (sgw_name (by decide) (pg_name (i := 5) sc__law_plan.nd rfl (by first | exact .inl rfl | exact .inr rfl)))) (fun _ _ _ _ _ => sts_nil) (fun _ _ _ _ _ => (sv_b cg_tuple (pe_callTy call_tuple_of rfl Z.z_tuple bt_tuple (sa_cons (sv_fz (sv_b cg_sortA (pe_callB (call_sortA (u65 hr)) rfl Z.z_sorted bt_sorted (sa_cons (sv_fz (sv_lc (own := [("game", 6)]) rfl sc__law_plan.nd (si_anyA (sv_var (pv 5))) (blkOk_by (by first | decide +kernel | rfl)) (fun _ _ _ _ _ => (sgw_name (by decide) (pg_name (i := 6) sc__law_plan.nd rfl (by first | exact .inl rfl | exact .inr rfl)))) (fun _ _ _ _ _ => sts_nil) (fun _ _ _ _ _ => (sv_if (st_cmp op_gtA og_gt (sv_bin op_modN og_mod (sv_b cg_int (pe_callTy call_intA rfl Z.z_int bt_int (sa_cons (sv_call (ok__law_next Z) (hr.mono (by decide)) hgd rfl Z.g__law_next Z.F__law_next.kp Z.b__law_next takes0 (sa_cons (sv_var (pv 0)) sa_nil)) sa_nil))) (sv_int pe_int)) (sv_int pe_int) (nomark _)) (sv_var (pv 6)) (sv_tup (sa_cons (sv_ix (u65 hr) (sv_var (pv 6)) (sv_int pe_int) (fun _ _ => rfl)) (sa_cons (sv_ix (u65 hr) (sv_var (pv 6)) (sv_int pe_int) (fun _ _ => rfl)) sa_nil))))))) sa_nil)))) sa_nil)))))) sa_nil)))))
      (ss_cons (ss_if (st_cmp (op_eqA (u64 hr)) og_eq (sv_var (pv 4)) (sv_int pe_int) (nomark _)) (ss_one (ss_s (ps_set (i := 3) sc__law_plan.nd rfl (by first | exact .inl rfl | exact .inr rfl) (sv_bin op_addA og_add (sv_var (pv 3)) (sv_b cg_tuple (pe_callTy call_tuple_of rfl Z.z_tuple bt_tuple (sa_cons (sv_fz (sv_lc (own := [("games", 5)]) rfl sc__law_plan.nd (si_anyA (sv_var (pv 3))) (blkOk_by (N := N__law_plan) (sc := (defScope s__law_plan)) (by decide +kernel)) (fun _ _ _ _ _ => (sgw_name (by decide) (pg_name (i := 5) sc__law_plan.nd rfl (by first | exact .inl rfl | exact .inr rfl)))) (fun _ _ _ _ _ => sts_nil) (fun _ _ _ _ _ => (sv_b cg_tuple (pe_callTy call_tuple_of rfl Z.z_tuple bt_tuple (sa_cons (sv_fz (sv_b cg_sortA (pe_callB (call_sortA (u65 hr)) rfl Z.z_sorted bt_sorted (sa_cons (sv_fz (sv_lc (own := [("one", 7), ("other", 8)]) rfl sc__law_plan.nd (si_anyA (sv_var (pv 5))) (blkOk_by (by first | decide +kernel | rfl)) (fun _ _ _ _ _ => (sgw_tup rfl (sgsw_cons (sgw_name (by decide) (pg_name (i := 7) sc__law_plan.nd rfl (by first | exact .inl rfl | exact .inr rfl))) (sgsw_cons (sgw_name (by decide) (pg_name (i := 8) sc__law_plan.nd rfl (by first | exact .inl rfl | exact .inr rfl))) sgsw_nil)))) (fun _ _ _ _ _ => sts_nil) (fun _ _ _ _ _ => (sv_tup (sa_cons (sv_var (pv 8)) (sa_cons (sv_var (pv 7)) sa_nil)))))) sa_nil)))) sa_nil)))))) sa_nil))))))) ss_nil)
      (ss_cons (ss_if (st_cmp (op_eqA (u64 hr)) og_eq (sv_var (pv 4)) (sv_int pe_int) (nomark _)) (ss_one (ss_s (ps_set (i := 3) sc__law_plan.nd rfl (by first | exact .inl rfl | exact .inr rfl) (sv_b cg_tuple (pe_callTy call_tuple_of rfl Z.z_tuple bt_tuple (sa_cons (sv_fz (sv_lc (own := [("games", 5)]) rfl sc__law_plan.nd (si_anyA (sv_var (pv 3))) (blkOk_by (N := N__law_plan) (sc := (defScope s__law_plan)) (by decide +kernel)) (fun _ _ _ _ _ => (sgw_name (by decide) (pg_name (i := 5) sc__law_plan.nd rfl (by first | exact .inl rfl | exact .inr rfl)))) (fun _ _ _ _ _ => sts_nil) (fun _ _ _ _ _ => (sv_b cg_tuple (pe_callTy call_tuple_of rfl Z.z_tuple bt_tuple (sa_cons (sv_fz (sv_lc (own := [("game", 6)]) rfl sc__law_plan.nd (si_anyA (sv_var (pv 5))) (blkOk_by (by first | decide +kernel | rfl)) (fun _ _ _ _ _ => (sgw_name (by decide) (pg_name (i := 6) sc__law_plan.nd rfl (by first | exact .inl rfl | exact .inr rfl)))) (fun _ _ _ _ _ => (sts_one (st_cmp op_gtA og_gt (sv_bin op_modN og_mod (sv_b cg_int (pe_callTy call_intA rfl Z.z_int bt_int (sa_cons (sv_call (ok__law_next Z) (hr.mono (by decide)) hgd rfl Z.g__law_next Z.F__law_next.kp Z.b__law_next takes0 (sa_cons (sv_var (pv 0)) sa_nil)) sa_nil))) (sv_int pe_int)) (sv_int pe_int) (nomark _)))) (fun _ _ _ _ _ => (sv_var (pv 6))))) sa_nil)))))) sa_nil)))))) ss_nil)
      (ss_cons (ss_if (st_cmp (op_eqA (u64 hr)) og_eq (sv_var (pv 4)) (sv_int pe_int) (nomark _)) (ss_one (ss_s (ps_set (i := 3) sc__law_plan.nd rfl (by first | exact .inl rfl | exact .inr rfl) (sv_fz (sv_bin op_addA og_add (sv_var (pv 3)) (sv_slice (sv_var (pv 3)) so_none (so_some (sv_bin op_modN og_mod (sv_b cg_int (pe_callTy call_intA rfl Z.z_int bt_int (sa_cons (sv_call (ok__law_next Z) (hr.mono (by decide)) hgd rfl Z.g__law_next Z.F__law_next.kp Z.b__law_next (takes_of rfl rfl rfl rfl) (sa_cons (sv_var (pv 0)) sa_nil)) sa_nil))) (sv_int pe_int))))))))) ss_nil)
      (ss_one (ss_ret (sv_tup (sa_cons (sv_var (pv 2)) (sa_cons (sv_var (pv 3)) sa_nil))))))))))))
def body__law_games : SM :=
      (sSeq (sSet 1 (mFz (mLst mNil)))
      (sSeq (sFor (mItA (mV 0)) (gN 2) (sSet 1 (mFz (mOp gAdd (mV 1) (mB (g1 listD) (mCons (mV 2) mNil))))))
      (sRet (mV 1))))
def f__law_games : MFn := mkFn 1 3 body__law_games
theorem ok__law_games (Z : Fx K w mg) : FnG P w K mg base 1 Z.a__law_games Z.d__law_games ["plan"] (spM ⟨K, mg⟩ f__law_games) := by
  refine def_ok (k := 0) (N := ["plan", "found", "games"]) (ps := ["plan"]) (st := s__law_games) body__law_games Z.F__law_games sc__law_games fun cdv A outer s H E hr hgd => ?_
  unfold body__law_games
  exact (ss_cons (ss_s (ps_set (i := 1) sc__law_games.nd rfl (by first | exact .inl rfl | exact .inr rfl) (sv_fz (sv_lst sa_nil))))
      (ss_cons (ss_for (passes_of rfl) rfl (si_anyA (sv_var (pv 0))) (sg_name (pg_name (i := 2) sc__law_games.nd rfl (by first | exact .inl rfl | exact .inr rfl))) (ss_one (ss_s (ps_set (i := 1) sc__law_games.nd rfl (by first | exact .inl rfl | exact .inr rfl) (sv_fz (sv_bin op_addA og_add (sv_var (pv 1)) (sv_b cg_list (pe_callTy call_list_of rfl Z.z_list bt_list (sa_cons (sv_var (pv 2)) sa_nil)))))))))
      (ss_one (ss_ret (sv_var (pv 1))))))
def body__law_troubles : SM :=
      (sSeq (sSet 3 (mCall f__law_games (mCons (mV 1) mNil)))
      (sSeq (sSet 4 (mFz (mLst mNil)))
      (sSeq (sFor (mRng rng1 (mCons (mV 0) mNil)) (gN 5) (sFor (mRng rng1 (mCons (mV 0) mNil)) (gN 6) (sSeq (sSet 7 (mFz (mOp gAdd (mLm gCnt (mV 3) (mCons (mTup (mCons (mV 5) (mCons (mV 6) mNil))) mNil)) (mIfE (mTru (mV 2)) (mC (.int 0)) (mLm gCnt (mV 3) (mCons (mTup (mCons (mV 6) (mCons (mV 5) mNil))) mNil))))))
      (sIf (mOr (mTB (mOp gLt (mV 5) (mV 6))) (mAnd (mTru (mV 2)) (mTB (mOp gNe (mV 5) (mV 6))))) (sSet 4 (mFz (mOp gAdd (mOp gAdd (mV 4) (mRepL (mLst (mCons (mTup (mCons (mC (.str "lacks")) (mCons (mV 5) (mCons (mV 6) mNil)))) mNil)) (mB (g1 intD) (mCons (mOp gEq (mV 7) (mC (.int 0))) mNil)))) (mRepL (mLst (mCons (mTup (mCons (mC (.str "more")) (mCons (mV 5) (mCons (mV 6) mNil)))) mNil)) (mB (g1 intD) (mCons (mOp gGt (mV 7) (mC (.int 1))) mNil)))))) sSkip))))
      (sRet (mV 4)))))
def f__law_troubles : MFn := mkFn 3 8 body__law_troubles
theorem ok__law_troubles (Z : Fx K w mg) : FnG P w K mg base 2 Z.a__law_troubles Z.d__law_troubles ["n", "plan", "double"] (spM ⟨K, mg⟩ f__law_troubles) := by
  refine def_ok (k := 1) (N := ["n", "plan", "double", "games", "found", "i", "j", "many"]) (ps := ["n", "plan", "double"]) (st := s__law_troubles) body__law_troubles Z.F__law_troubles sc__law_troubles fun cdv A outer s H E hr hgd => ?_
  unfold body__law_troubles
  exact (ss_cons (ss_s (ps_set (i := 3) sc__law_troubles.nd rfl (by first | exact .inl rfl | exact .inr rfl) (sv_call (ok__law_games Z) (hr.mono (by decide)) hgd rfl Z.g__law_games Z.F__law_games.kp Z.b__law_games (takes_of rfl rfl rfl rfl) (sa_cons (sv_var (pv 1)) sa_nil))))
      (ss_cons (ss_s (ps_set (i := 4) sc__law_troubles.nd rfl (by first | exact .inl rfl | exact .inr rfl) (sv_fz (sv_lst sa_nil))))
      (ss_cons (ss_for (passes_of rfl) rfl (si_r1 (pi_range1 rfl Z.z_range (sa_cons (sv_var (pv 0)) sa_nil))) (sg_name (pg_name (i := 5) sc__law_troubles.nd rfl (by first | exact .inl rfl | exact .inr rfl))) (ss_one (ss_for (passes_of rfl) rfl (si_r1 (pi_range1 rfl Z.z_range (sa_cons (sv_var (pv 0)) sa_nil))) (sg_name (pg_name (i := 6) sc__law_troubles.nd rfl (by first | exact .inl rfl | exact .inr rfl))) (ss_cons (ss_s (ps_set (i := 7) sc__law_troubles.nd rfl (by first | exact .inl rfl | exact .inr rfl) (sv_fz (sv_bin op_addA og_add (sv_lm lg_cnt (pe_bm PySem.F.plainAttrs_list PySem.F.slot_list_count PySem.F.type_list_count (mt_countD (u65 hr)) (sv_var (pv 3)) (sa_cons (sv_tup (sa_cons (sv_var (pv 5)) (sa_cons (sv_var (pv 6)) sa_nil))) sa_nil))) (sv_if (st_tru (sv_var (pv 2))) (sv_int pe_int) (sv_lm lg_cnt (pe_bm PySem.F.plainAttrs_list PySem.F.slot_list_count PySem.F.type_list_count (mt_countD (u65 hr)) (sv_var (pv 3)) (sa_cons (sv_tup (sa_cons (sv_var (pv 6)) (sa_cons (sv_var (pv 5)) sa_nil))) sa_nil))))))))
      (ss_one (ss_if (st_w (sw_or (st_cmp op_ltA og_lt (sv_var (pv 5)) (sv_var (pv 6)) (nomark _)) (sw_or1 (st_w (sw_and (st_tru (sv_var (pv 2))) (sw_and1 (st_cmp (op_neA (u64 hr)) og_ne (sv_var (pv 5)) (sv_var (pv 6)) (nomark _)))))))) (ss_one (ss_s (ps_set (i := 4) sc__law_troubles.nd rfl (by first | exact .inl rfl | exact .inr rfl) (sv_fz (sv_bin op_addA og_add (sv_bin op_addA og_add (sv_var (pv 4)) (sv_repL (sv_lst (sa_cons (sv_tup (sa_cons (sv_str pe_str) (sa_cons (sv_var (pv 5)) (sa_cons (sv_var (pv 6)) sa_nil)))) sa_nil)) (sv_b cg_int (pe_callTy call_intA rfl Z.z_int bt_int (sa_cons (sv_cmp (op_eqA (u64 hr)) og_eq (sv_var (pv 7)) (sv_int pe_int) (nomark _)) sa_nil))))) (sv_repL (sv_lst (sa_cons (sv_tup (sa_cons (sv_str pe_str) (sa_cons (sv_var (pv 5)) (sa_cons (sv_var (pv 6)) sa_nil)))) sa_nil)) (sv_b cg_int (pe_callTy call_intA rfl Z.z_int bt_int (sa_cons (sv_cmp op_gtA og_gt (sv_var (pv 7)) (sv_int pe_int) (nomark _)) sa_nil))))))))) ss_nil))))))
      (ss_one (ss_ret (sv_var (pv 4)))))))
def body__law_pattern : SM :=
      (sRet (mB (g1 tupleD) (mCons (mFz (mLC (mItA (mV 0)) (pN 2) mYes (mIfE (mTB (mOp (gIn false) (mV 1) (mLC (mItA (mV 2)) (pT 2 (psC (pN 3) (psC (pN 4) psN))) mYes (mV 3) [3, 4]))) (mC (.int 0)) (mIfE (mTB (mOp (gIn false) (mV 1) (mLC (mItA (mV 2)) (pT 2 (psC (pN 3) (psC (pN 4) psN))) mYes (mV 4) [3, 4]))) (mC (.int 1)) (mC (.int 2)))) [2])) mNil)))
def f__law_pattern : MFn := mkFn 2 5 body__law_pattern
theorem ok__law_pattern (Z : Fx K w mg) : FnG P w K mg base 1 Z.a__law_pattern Z.d__law_pattern ["plan", "team"] (spM ⟨K, mg⟩ f__law_pattern) := by
  refine def_ok (k := 0) (N := ["plan", "team", "games", "one", "other"]) (ps := ["plan", "team"]) (st := s__law_pattern) body__law_pattern Z.F__law_pattern sc__law_pattern fun cdv A outer s H E hr hgd => ?_
  unfold body__law_pattern
  exact (ss_one (ss_ret (sv_b cg_tuple (pe_callTy call_tuple_of rfl Z.z_tuple bt_tuple (sa_cons (sv_fz (sv_lc (own := [("games", 2)]) rfl sc__law_pattern.nd (si_anyA (sv_var (pv 0))) (blkOk_by (N := N__law_pattern) (sc := (defScope s__law_pattern)) (by decide +kernel)) (fun _ _ _ _ _ => (sgw_name (by decide) (pg_name (i := 2) sc__law_pattern.nd rfl (by first | exact .inl rfl | exact .inr rfl)))) (fun _ _ _ _ _ => sts_nil) (fun _ _ _ _ _ => (sv_if (st_cmp (op_inB (u65 hr)) og_in (sv_var (pv 1)) (sv_lc (own := [("one", 3), ("other", 4)]) rfl sc__law_pattern.nd (si_anyA (sv_var (pv 2))) (blkOk_by (by first | decide +kernel | rfl)) (fun _ _ _ _ _ => (sgw_tup rfl (sgsw_cons (sgw_name (by decide) (pg_name (i := 3) sc__law_pattern.nd rfl (by first | exact .inl rfl | exact .inr rfl))) (sgsw_cons (sgw_name (by decide) (pg_name (i := 4) sc__law_pattern.nd rfl (by first | exact .inl rfl | exact .inr rfl))) sgsw_nil)))) (fun _ _ _ _ _ => sts_nil) (fun _ _ _ _ _ => (sv_var (pv 3)))) rfl) (sv_int pe_int) (sv_if (st_cmp (op_inB (u65 hr)) og_in (sv_var (pv 1)) (sv_lc (own := [("one", 3), ("other", 4)]) rfl sc__law_pattern.nd (si_anyA (sv_var (pv 2))) (blkOk_by (by first | decide +kernel | rfl)) (fun _ _ _ _ _ => (sgw_tup rfl (sgsw_cons (sgw_name (by decide) (pg_name (i := 3) sc__law_pattern.nd rfl (by first | exact .inl rfl | exact .inr rfl))) (sgsw_cons (sgw_name (by decide) (pg_name (i := 4) sc__law_pattern.nd rfl (by first | exact .inl rfl | exact .inr rfl))) sgsw_nil)))) (fun _ _ _ _ _ => sts_nil) (fun _ _ _ _ _ => (sv_var (pv 4)))) rfl) (sv_int pe_int) (sv_int pe_int)))))) sa_nil)))))
def body__law_breaks : SM :=
      (sSeq (sSet 1 (mAl (mLst mNil)))
      (sSeq (sFor (mRng rng1 (mCons (mB (g1 lenD) (mCons (mV 0) mNil)) mNil)) (gN 2) (sSeq (sSet 3 (mFz (mLC (mItA (mSl (mV 0) oNo (oAt (mV 2)))) (pN 4) (mTB (mOp gNe (mV 4) (mC (.int 2)))) (mV 4) [4])))
      (sIf (mAnd (mTB (mOp gNe (mOp gIx (mV 0) (mV 2)) (mC (.int 2)))) (mAnd (mTru (mV 3)) (mTB (mOp gEq (mOp gIx (mV 3) (mUn gNeg (mC (.int 1)))) (mOp gIx (mV 0) (mV 2)))))) (sExpr (mMut arK hApp (mV 1) (mCons (mV 2) mNil))) sSkip)))
      (sRet (mB (g1 tupleD) (mCons (mV 1) mNil)))))
def f__law_breaks : MFn := mkFn 1 5 body__law_breaks
theorem ok__law_breaks (Z : Fx K w mg) : FnG P w K mg base 1 Z.a__law_breaks Z.d__law_breaks ["entries"] (spM ⟨K, mg⟩ f__law_breaks) := by
  refine def_ok (k := 0) (N := ["entries", "found", "at", "ahead", "entry"]) (ps := ["entries"]) (st := s__law_breaks) body__law_breaks Z.F__law_breaks sc__law_breaks fun cdv A outer s H E hr hgd => ?_
  unfold body__law_breaks
  exact (ss_cons (ss_s (ps_set (i := 1) sc__law_breaks.nd rfl (by first | exact .inl rfl | exact .inr rfl) (sv_al (sv_lst sa_nil))))
      (ss_cons (ss_for (passes_of rfl) rfl (si_r1 (pi_range1 rfl Z.z_range (sa_cons (sv_b cg_len (pe_callB call_lenA rfl Z.z_len bt_len (sa_cons (sv_var (pv 0)) sa_nil))) sa_nil))) (sg_name (pg_name (i := 2) sc__law_breaks.nd rfl (by first | exact .inl rfl | exact .inr rfl))) (ss_cons (ss_fz (ps_lc (i := 3) (own := [("entry", 4)]) rfl sc__law_breaks.nd rfl rfl (sw_true rfl rfl rfl (by decide +kernel)) (si_anyA (sv_slice (sv_var (pv 0)) so_none (so_some (sv_var (pv 2))))) (blkOk_by (N := N__law_breaks) (sc := (defScope s__law_breaks)) (by decide +kernel)) (fun _ _ _ _ _ => (sgw_name (by decide) (pg_name (i := 4) sc__law_breaks.nd rfl (by first | exact .inl rfl | exact .inr rfl)))) (fun _ _ _ _ _ => (sts_one (st_cmp (op_neA (u64 hr)) og_ne (sv_var (pv 4)) (sv_int pe_int) (nomark _)))) (fun _ _ _ _ _ => (sv_var (pv 4)))))
      (ss_one (ss_if (st_w (sw_and (st_cmp (op_neA (u64 hr)) og_ne (sv_ix (u65 hr) (sv_var (pv 0)) (sv_var (pv 2)) (fun _ _ => rfl)) (sv_int pe_int) (nomark _)) (sw_and (st_tru (sv_var (pv 3))) (sw_and1 (st_cmp (op_eqA (u64 hr)) og_eq (sv_ix (u65 hr) (sv_var (pv 3)) (sv_un un_neg ug_neg (sv_int pe_int)) (fun _ _ => rfl)) (sv_ix (u65 hr) (sv_var (pv 0)) (sv_var (pv 2)) (fun _ _ => rfl)) (nomark _)))))) (ss_one (ss_expr (sv_mut arK_ok mg_app (pe_bm PySem.F.plainAttrs_list PySem.F.slot_list_append PySem.F.type_list_append mt_append (sv_var (pv 1)) (sa_cons (sv_var (pv 2)) sa_nil))))) ss_nil))))
      (ss_one (ss_ret (sv_b cg_tuple (pe_callTy call_tuple_of rfl Z.z_tuple bt_tuple (sa_cons (sv_var (pv 1)) sa_nil)))))))
def body__law_run : SM :=
      (sSeq (sSet 1 (mFz (mLC (mItA (mV 0)) (pN 2) (mTB (mOp gNe (mV 2) (mC (.int 2)))) (mV 2) [2])))
      (sRet (mB (g1 maxD) (mCons (mFz (mOp gAdd (mLst (mCons (mC (.int 0)) mNil)) (mLC (mRng rng2 (mCons (mC (.int 1)) (mCons (mOp gAdd (mB (g1 lenD) (mCons (mV 1) mNil)) (mC (.int 1))) mNil))) (pN 3) (mTru (mB (g1 anyD) (mCons (mFz (mLC (mRng rng1 (mCons (mOp gAdd (mOp gSub (mB (g1 lenD) (mCons (mV 1) mNil)) (mV 3)) (mC (.int 1))) mNil)) (pN 4) mYes (mOp (gIn false) (mSl (mV 1) (oAt (mV 4)) (oAt (mOp gAdd (mV 4) (mV 3)))) (mLst (mCons (mFz (mRepL (mLst (mCons (mC (.int 0)) mNil)) (mV 3))) (mCons (mFz (mRepL (mLst (mCons (mC (.int 1)) mNil)) (mV 3))) mNil)))) [4])) mNil))) (mV 3) [3]))) mNil))))
def f__law_run : MFn := mkFn 1 5 body__law_run
theorem ok__law_run (Z : Fx K w mg) : FnG P w K mg base 1 Z.a__law_run Z.d__law_run ["entries"] (spM ⟨K, mg⟩ f__law_run) := by
  refine def_ok (k := 0) (N := ["entries", "told", "entry", "size", "at"]) (ps := ["entries"]) (st := s__law_run) body__law_run Z.F__law_run sc__law_run fun cdv A outer s H E hr hgd => ?_
  unfold body__law_run
  exact (ss_cons (ss_s (ps_set (i := 1) sc__law_run.nd rfl (by first | exact .inl rfl | exact .inr rfl) (sv_fz (sv_lc (own := [("entry", 2)]) rfl sc__law_run.nd (si_anyA (sv_var (pv 0))) (blkOk_by (N := N__law_run) (sc := (defScope s__law_run)) (by decide +kernel)) (fun _ _ _ _ _ => (sgw_name (by decide) (pg_name (i := 2) sc__law_run.nd rfl (by first | exact .inl rfl | exact .inr rfl)))) (fun _ _ _ _ _ => (sts_one (st_cmp (op_neA (u64 hr)) og_ne (sv_var (pv 2)) (sv_int pe_int) (nomark _)))) (fun _ _ _ _ _ => (sv_var (pv 2)))))))
      (ss_one (ss_ret (sv_b cg_max (pe_callB (cr_max rfl) rfl Z.z_max bt_max (sa_cons (sv_fz (sv_bin op_addA og_add (sv_lst (sa_cons (sv_int pe_int) sa_nil)) (sv_lc (own := [("size", 3)]) rfl sc__law_run.nd (si_r2 (pi_range2 rfl Z.z_range (sa_cons (sv_int pe_int) (sa_cons (sv_bin op_addA og_add (sv_b cg_len (pe_callB call_lenA rfl Z.z_len bt_len (sa_cons (sv_var (pv 1)) sa_nil))) (sv_int pe_int)) sa_nil)))) (blkOk_by (N := N__law_run) (sc := (defScope s__law_run)) (by decide +kernel)) (fun _ _ _ _ _ => (sgw_name (by decide) (pg_name (i := 3) sc__law_run.nd rfl (by first | exact .inl rfl | exact .inr rfl)))) (fun _ _ _ _ _ => (sts_one (st_tru (sv_b cg_any (pe_callB (cr_any rfl) rfl Z.z_any bt_any (sa_cons (sv_fz (sv_lc (own := [("at", 4)]) rfl sc__law_run.nd (si_r1 (pi_range1 rfl Z.z_range (sa_cons (sv_bin op_addA og_add (sv_bin op_sub og_sub (sv_b cg_len (pe_callB call_lenA rfl Z.z_len bt_len (sa_cons (sv_var (pv 1)) sa_nil))) (sv_var (pv 3))) (sv_int pe_int)) sa_nil))) (blkOk_by (by first | decide +kernel | rfl)) (fun _ _ _ _ _ => (sgw_name (by decide) (pg_name (i := 4) sc__law_run.nd rfl (by first | exact .inl rfl | exact .inr rfl)))) (fun _ _ _ _ _ => sts_nil) (fun _ _ _ _ _ => (sv_cmp (op_inB (u65 hr)) og_in (sv_slice (sv_var (pv 1)) (so_some (sv_var (pv 4))) (so_some (sv_bin op_addA og_add (sv_var (pv 4)) (sv_var (pv 3))))) (sv_lst (sa_cons (sv_fz (sv_repL (sv_lst (sa_cons (sv_int pe_int) sa_nil)) (sv_var (pv 3)))) (sa_cons (sv_fz (sv_repL (sv_lst (sa_cons (sv_int pe_int) sa_nil)) (sv_var (pv 3)))) sa_nil))) rfl)))) sa_nil)))))) (fun _ _ _ _ _ => (sv_var (pv 3)))))) sa_nil))))))
def ftab__law_asked : FTab := [("is_single", f_is_single), ("is_double", f_is_double), ("is_full", f_is_full), ("single_trouble", f_single_trouble), ("double_trouble", f_double_trouble), ("breaks", f_breaks), ("longest_run", f_longest_run), ("pattern", f_pattern), ("is_single_trouble", f_is_single_trouble), ("is_double_trouble", f_is_double_trouble)]
theorem fok__law_asked {X : Cx} (Z : Fx X.K X.w X.mg) (hr : Room 4 X.A) : FTabOk X ftab__law_asked := ⟨fun n g h => by
  have hm := lookup_mem h
  simp only [ftab__law_asked, List.mem_cons, Prod.mk.injEq, List.not_mem_nil, or_false] at hm
  rcases hm with ⟨rfl, rfl⟩ | ⟨rfl, rfl⟩ | ⟨rfl, rfl⟩ | ⟨rfl, rfl⟩ | ⟨rfl, rfl⟩ | ⟨rfl, rfl⟩ | ⟨rfl, rfl⟩ | ⟨rfl, rfl⟩ | ⟨rfl, rfl⟩ | ⟨rfl, rfl⟩
  · exact ⟨Z.a_is_single, Z.d_is_single, _, _, Z.g_is_single, ok_is_single Z, hr.mono (by decide), Z.F_is_single.kp, Z.b_is_single⟩
  · exact ⟨Z.a_is_double, Z.d_is_double, _, _, Z.g_is_double, ok_is_double Z, hr.mono (by decide), Z.F_is_double.kp, Z.b_is_double⟩
  · exact ⟨Z.a_is_full, Z.d_is_full, _, _, Z.g_is_full, ok_is_full Z, hr.mono (by decide), Z.F_is_full.kp, Z.b_is_full⟩
  · exact ⟨Z.a_single_trouble, Z.d_single_trouble, _, _, Z.g_single_trouble, ok_single_trouble Z, hr.mono (by decide), Z.F_single_trouble.kp, Z.b_single_trouble⟩
  · exact ⟨Z.a_double_trouble, Z.d_double_trouble, _, _, Z.g_double_trouble, ok_double_trouble Z, hr.mono (by decide), Z.F_double_trouble.kp, Z.b_double_trouble⟩
  · exact ⟨Z.a_breaks, Z.d_breaks, _, _, Z.g_breaks, ok_breaks Z, hr.mono (by decide), Z.F_breaks.kp, Z.b_breaks⟩
  · exact ⟨Z.a_longest_run, Z.d_longest_run, _, _, Z.g_longest_run, ok_longest_run Z, hr.mono (by decide), Z.F_longest_run.kp, Z.b_longest_run⟩
  · exact ⟨Z.a_pattern, Z.d_pattern, _, _, Z.g_pattern, ok_pattern Z, hr.mono (by decide), Z.F_pattern.kp, Z.b_pattern⟩
  · exact ⟨Z.a_is_single_trouble, Z.d_is_single_trouble, _, _, Z.g_is_single_trouble, ok_is_single_trouble Z, hr.mono (by decide), Z.F_is_single_trouble.kp, Z.b_is_single_trouble⟩
  · exact ⟨Z.a_is_double_trouble, Z.d_is_double_trouble, _, _, Z.g_is_double_trouble, ok_is_double_trouble Z, hr.mono (by decide), Z.F_is_double_trouble.kp, Z.b_is_double_trouble⟩⟩
def body__law_asked : SM :=
      (sTryK tabK 4 (sSeq (sIf (mTB (mOp gLt (mV 0) (mC (.int 7)))) (sRet (mCallV ftab__law_asked (mOp gIx (mLst (mCons (mC (.fn "is_single")) (mCons (mC (.fn "is_double")) (mCons (mC (.fn "is_full")) (mCons (mC (.fn "single_trouble")) (mCons (mC (.fn "double_trouble")) (mCons (mC (.fn "breaks")) (mCons (mC (.fn "longest_run")) mNil)))))))) (mV 0)) (mCons (mV 1) (mCons (mV 2) mNil)))) sSkip)
      (sRet (mCallV ftab__law_asked (mOp gIx (mLst (mCons (mC (.fn "pattern")) (mCons (mC (.fn "is_single_trouble")) (mCons (mC (.fn "is_double_trouble")) mNil)))) (mOp gSub (mV 0) (mC (.int 7)))) (mCons (mV 1) (mCons (mV 2) (mCons (mV 3) mNil)))))))
def f__law_asked : MFn := mkFn 4 5 body__law_asked
theorem ok__law_asked (Z : Fx K w mg) : FnG P w K mg base 5 Z.a__law_asked Z.d__law_asked ["way", "n", "plan", "one"] (spM ⟨K, mg⟩ f__law_asked) := by
  refine def_ok (k := 4) (N := ["way", "n", "plan", "one", "error"]) (ps := ["way", "n", "plan", "one"]) (st := s__law_asked) body__law_asked Z.F__law_asked sc__law_asked fun cdv A outer s H E hr hgd => ?_
  unfold body__law_asked
  exact (ss_one (ss_tryR (i := 4) rfl rfl sc__law_asked.nd rfl rfl ⟨rfl, by decide, .inl Z.gC_PlanError⟩ (takes_of rfl rfl rfl rfl) (okKind Z) (L2H_room hr (by decide)) Z.g__law_kind Z.F__law_kind.kp Z.b__law_kind rfl (fun _ _ _ => pv 4) (fun _ _ _ => rfl) (fun W pn xe tk pw => (ss_cons (ss_if (st_cmp op_ltA og_lt (sv_var (pv 0)) (sv_int pe_int) (nomark _)) (ss_one (ss_ret (sv_callV (fok__law_asked Z hr) hgd tk (sv_ix (u65 hr) (sv_lst (sa_cons (sv_fn (pe_glob rfl Z.g_is_single rfl) Z.g_is_single) (sa_cons (sv_fn (pe_glob rfl Z.g_is_double rfl) Z.g_is_double) (sa_cons (sv_fn (pe_glob rfl Z.g_is_full rfl) Z.g_is_full) (sa_cons (sv_fn (pe_glob rfl Z.g_single_trouble rfl) Z.g_single_trouble) (sa_cons (sv_fn (pe_glob rfl Z.g_double_trouble rfl) Z.g_double_trouble) (sa_cons (sv_fn (pe_glob rfl Z.g_breaks rfl) Z.g_breaks) (sa_cons (sv_fn (pe_glob rfl Z.g_longest_run rfl) Z.g_longest_run) sa_nil)))))))) (sv_var (pv 0)) (fun _ _ => rfl)) (sa_cons (sv_var (pv 1)) (sa_cons (sv_var (pv 2)) sa_nil))))) ss_nil)
      (ss_one (ss_ret (sv_callV (fok__law_asked Z hr) hgd tk (sv_ix (u65 hr) (sv_lst (sa_cons (sv_fn (pe_glob rfl Z.g_pattern rfl) Z.g_pattern) (sa_cons (sv_fn (pe_glob rfl Z.g_is_single_trouble rfl) Z.g_is_single_trouble) (sa_cons (sv_fn (pe_glob rfl Z.g_is_double_trouble rfl) Z.g_is_double_trouble) sa_nil)))) (sv_bin op_sub og_sub (sv_var (pv 0)) (sv_int pe_int)) (fun _ _ => rfl)) (sa_cons (sv_var (pv 1)) (sa_cons (sv_var (pv 2)) (sa_cons (sv_var (pv 3)) sa_nil))))))))))
def body_law : SM :=
      (sSeq (sSet 1 (mAl (mCall f__law_draws (mCons (mV 0) mNil))))
      (sSeq (sSet 1 (mAl (mCall f__law_more (mCons (mV 1) (mCons (mC (.int 200)) mNil)))))
      (sSeq (sSet 2 (mTup (mCons (mTup (mCons (mTup (mCons (mC (.int 0)) (mCons (mC (.int 3)) mNil))) (mCons (mTup (mCons (mC (.int 1)) (mCons (mC (.int 2)) mNil))) mNil))) (mCons (mTup (mCons (mTup (mCons (mC (.int 2)) (mCons (mC (.int 0)) mNil))) (mCons (mTup (mCons (mC (.int 3)) (mCons (mC (.int 1)) mNil))) mNil))) (mCons (mTup (mCons (mTup (mCons (mC (.int 0)) (mCons (mC (.int 1)) mNil))) (mCons (mTup (mCons (mC (.int 2)) (mCons (mC (.int 3)) mNil))) mNil))) mNil)))))
      (sSeq (sSet 3 (mFz (mLst (mCons (mCall f_is_single (mCons (mC (.int 4)) (mCons (mV 2) mNil))) (mCons (mCall f_is_full (mCons (mC (.int 4)) (mCons (mV 2) mNil))) (mCons (mCall f_breaks (mCons (mC (.int 4)) (mCons (mV 2) mNil))) (mCons (mFz (mLC (mRng rng1 (mCons (mC (.int 4)) mNil)) (pN 19) mYes (mCall f_pattern (mCons (mC (.int 4)) (mCons (mV 2) (mCons (mV 19) mNil)))) [19])) (mCons (mCall f_longest_run (mCons (mC (.int 4)) (mCons (mV 2) mNil))) mNil))))))))
      (sSeq (sIf (mTB (mOp gNe (mB (g1 reprD) (mCons (mV 3) mNil)) (mB (g1 reprD) (mCons (mFz (mLst (mCons (mC (.bl true)) (mCons (mC (.bl true)) (mCons (mTup (mCons (mTup mNil) (mCons (mTup (mCons (mC (.int 2)) mNil)) (mCons (mTup (mCons (mC (.int 2)) mNil)) (mCons (mTup mNil) mNil))))) (mCons (mFz (mLst (mCons (mTup (mCons (mC (.int 0)) (mCons (mC (.int 1)) (mCons (mC (.int 0)) mNil)))) (mCons (mTup (mCons (mC (.int 0)) (mCons (mC (.int 1)) (mCons (mC (.int 1)) mNil)))) (mCons (mTup (mCons (mC (.int 1)) (mCons (mC (.int 0)) (mCons (mC (.int 0)) mNil)))) (mCons (mTup (mCons (mC (.int 1)) (mCons (mC (.int 0)) (mCons (mC (.int 1)) mNil)))) mNil)))))) (mCons (mC (.int 2)) mNil))))))) mNil)))) (sRet (mC (.bl false))) sSkip)
      (sSeq (sAsg (mCall f__law_plan (mCons (mV 1) (mCons (mC (.int 8)) mNil))) (gT 2 (gsC (gN 4) (gsC (gN 5) gsN))))
      (sSeq (sPar 6 7 (mCons (mCall f__law_troubles (mCons (mV 4) (mCons (mV 5) (mCons (mC (.bl false)) mNil)))) (mCons (mCall f__law_troubles (mCons (mV 4) (mCons (mV 5) (mCons (mC (.bl true)) mNil)))) mNil)))
      (sSeq (sSet 8 (mIfE (mTB (mOp gEq (mOp gMod (mB (g1 intD) (mCons (mV 4) mNil)) (mC (.int 2))) (mC (.int 0)))) (mOp gSub (mV 4) (mC (.int 1))) (mV 4)))
      (sSeq (sSet 9 (mOrV (mAndV (mOp gEq (mV 6) (mLst mNil)) (mOp gEq (mB (g1 lenD) (mCons (mV 5) mNil)) (mV 8))) (mAndV (mOp gNe (mV 6) (mLst mNil)) (mAndV (mOp gEq (mV 7) (mLst mNil)) (mOp gEq (mB (g1 lenD) (mCons (mV 5) mNil)) (mOp gMulA (mC (.int 2)) (mV 8)))))))
      (sSeq (sSet 10 (mFz (mLC (mRng rng1 (mCons (mV 4) mNil)) (pN 19) mYes (mCall f__law_pattern (mCons (mV 5) (mCons (mV 19) mNil))) [19])))
      (sSeq (sIf (mTB (mOp (gIsB true) (mCall f_is_plan (mCons (mV 4) (mCons (mV 5) mNil))) (mC (.bl true)))) (sRet (mC (.bl false))) sSkip)
      (sSeq (sSet 11 (mFz (mLst (mCons (mOp gEq (mV 6) (mLst mNil)) (mCons (mOp gEq (mV 7) (mLst mNil)) (mCons (mV 9) (mCons (mB (g1 tupleD) (mCons (mFz (mLC (mItA (mV 10)) (pN 20) mYes (mCall f__law_breaks (mCons (mV 20) mNil)) [20])) mNil)) (mCons (mB (g1 maxD) (mCons (mFz (mLC (mItA (mV 10)) (pN 20) mYes (mCall f__law_run (mCons (mV 20) mNil)) [20])) mNil)) mNil))))))))
      (sSeq (sIf (mTB (mOp gNe (mB (g1 reprD) (mCons (mFz (mLC (mItA (mLst (mCons (mC (.int 0)) (mCons (mC (.int 1)) (mCons (mC (.int 2)) (mCons (mC (.int 5)) (mCons (mC (.int 6)) mNil))))))) (pN 12) mYes (mCall f__law_asked (mCons (mV 12) (mCons (mV 4) (mCons (mV 5) (mCons (mC .non) mNil))))) [12])) mNil)) (mB (g1 reprD) (mCons (mV 11) mNil)))) (sRet (mC (.bl false))) sSkip)
      (sSeq (sIf (mTB (mOp gNe (mLC (mRng rng1 (mCons (mV 4) mNil)) (pN 19) mYes (mCall f__law_asked (mCons (mC (.int 7)) (mCons (mV 4) (mCons (mV 5) (mCons (mV 19) mNil))))) [19]) (mV 10))) (sRet (mC (.bl false))) sSkip)
      (sSeq (sFor (mItA (mLst (mCons (mTup (mCons (mC (.int 3)) (mCons (mV 6) mNil))) (mCons (mTup (mCons (mC (.int 4)) (mCons (mV 7) mNil))) mNil)))) (gT 2 (gsC (gN 12) (gsC (gN 13) gsN))) (sSeq (sSet 16 (mCall f__law_asked (mCons (mV 12) (mCons (mV 4) (mCons (mV 5) (mCons (mC .non) mNil))))))
      (sSeq (sIf (mOr (mTB (mOp gNe (mOp (gIsN false) (mV 16) (mC .non)) (mOp gEq (mV 13) (mLst mNil)))) (mAnd (mTB (mOp (gIsN true) (mV 16) (mC .non))) (mTB (mOp (gIn true) (mV 16) (mV 13))))) (sRet (mC (.bl false))) sSkip)
      (sSeq (sPar 17 18 (mCons (mOp gMod (mB (g1 intD) (mCons (mCall f__law_next (mCons (mV 1) mNil)) mNil)) (mV 4)) (mCons (mOp gMod (mB (g1 intD) (mCons (mCall f__law_next (mCons (mV 1) mNil)) mNil)) (mV 4)) mNil)))
      (sFor (mItA (mOp gAdd (mOp gAdd (mSl (mV 13) oNo (oAt (mC (.int 2)))) (mSl (mV 13) (oAt (mUn gNeg (mC (.int 1)))) oNo)) (mLst (mCons (mTup (mCons (mC (.str "lacks")) (mCons (mV 17) (mCons (mV 18) mNil)))) (mCons (mTup (mCons (mC (.str "more")) (mCons (mV 17) (mCons (mV 18) mNil)))) (mCons (mTup (mCons (mC (.str "lacks")) (mCons (mV 18) (mCons (mV 17) mNil)))) (mCons (mTup (mCons (mC (.str "more")) (mCons (mV 17) (mCons (mV 4) mNil)))) (mCons (mTup (mCons (mC (.str "lacks")) (mCons (mUn gNeg (mC (.int 1))) (mCons (mV 18) mNil)))) (mCons (mTup (mCons (mC (.str "x")) (mCons (mV 17) (mCons (mV 18) mNil)))) (mCons (mTup (mCons (mC (.str "lacks")) (mCons (mV 17) mNil))) (mCons (mTup (mCons (mC (.str "more")) (mCons (mV 17) (mCons (mV 18) (mCons (mC (.int 0)) mNil))))) (mCons (mTup mNil) mNil)))))))))))) (gN 15) (sIf (mTB (mOp gNe (mB (g1 reprD) (mCons (mCall f__law_asked (mCons (mOp gAdd (mV 12) (mC (.int 5))) (mCons (mV 4) (mCons (mV 5) (mCons (mV 15) mNil))))) mNil)) (mB (g1 reprD) (mCons (mOp (gIn false) (mV 15) (mV 13)) mNil)))) (sRet (mC (.bl false))) sSkip))))))
      (sSeq (sSet 14 (mFz (mLst (mCons (mTup (mCons (mC (.int 1)) (mCons (mTup mNil) mNil))) (mCons (mTup (mCons (mC (.int 61)) (mCons (mTup mNil) mNil))) (mCons (mTup (mCons (mV 4) (mCons (mOp gMulA (mTup (mCons (mTup mNil) mNil)) (mC (.int 201))) mNil))) (mCons (mTup (mCons (mV 4) (mCons (mTup (mCons (mTup (mCons (mTup (mCons (mC (.int 0)) (mCons (mC (.int 0)) mNil))) mNil)) mNil)) mNil))) (mCons (mTup (mCons (mV 4) (mCons (mTup (mCons (mTup (mCons (mTup (mCons (mC (.int 0)) (mCons (mV 4) mNil))) mNil)) mNil)) mNil))) (mCons (mTup (mCons (mV 4) (mCons (mTup (mCons (mTup (mCons (mTup (mCons (mC (.int 0)) (mCons (mC (.int 1)) mNil))) (mCons (mTup (mCons (mC (.int 0)) (mCons (mC (.int 1)) mNil))) mNil))) mNil)) mNil))) (mCons (mTup (mCons (mV 4) (mCons (mTup (mCons (mTup (mCons (mTup (mCons (mC (.int 0)) (mCons (mC (.int 1)) (mCons (mC (.int 0)) mNil)))) mNil)) mNil)) mNil))) (mCons (mTup (mCons (mV 4) (mCons (mTup (mCons (mTup (mCons (mTup (mCons (mUn gNeg (mC (.int 1))) (mCons (mC (.int 0)) mNil))) mNil)) mNil)) mNil))) (mCons (mTup (mCons (mC (.int 4)) (mCons (mTup (mCons (mTup (mCons (mTup (mCons (mC (.int 2)) (mCons (mC (.int 3)) mNil))) (mCons (mTup (mCons (mC (.int 0)) (mCons (mC (.int 1)) mNil))) mNil))) mNil)) mNil))) mNil))))))))))))
      (sSeq (sSet 15 (mFz (mCall f__law_flat (mCons (mFz (mLC (mRng rng1 (mCons (mC (.int 10)) mNil)) (pN 12) mYes (mFz (mLC (mItA (mV 14)) (pN 13) mYes (mCall f__law_asked (mCons (mV 12) (mCons (mOp gIx (mV 13) (mC (.int 0))) (mCons (mOp gIx (mV 13) (mC (.int 1))) (mCons (mIfE (mTB (mOp gEq (mV 12) (mC (.int 7)))) (mC (.int 99)) (mTup mNil)) mNil))))) [13])) [12])) mNil))))
      (sSeq (sIf (mOr (mTB (mOp gNe (mLC (mItA (mV 14)) (pT 2 (psC (pN 21) (psC (pN 13) psN))) mYes (mCall f_is_plan (mCons (mV 21) (mCons (mV 13) mNil))) [21, 13]) (mRepL (mLst (mCons (mC (.bl false)) mNil)) (mC (.int 9))))) (mTB (mOp (gIsB true) (mCall f_is_plan (mCons (mC (.int 60)) (mCons (mOp gMulA (mTup (mCons (mTup mNil) mNil)) (mC (.int 200))) mNil))) (mC (.bl true))))) (sRet (mC (.bl false))) sSkip)
      (sRet (mAndV (mOp gEq (mV 15) (mRepL (mLst (mCons (mC (.str "!plan")) mNil)) (mC (.int 90)))) (mOp gEq (mLC (mItA (mLst (mCons (mUn gNeg (mC (.int 1))) (mCons (mV 4) mNil)))) (pN 19) mYes (mCall f__law_asked (mCons (mC (.int 7)) (mCons (mV 4) (mCons (mV 5) (mCons (mV 19) mNil))))) [19]) (mRepL (mLst (mCons (mC (.str "!number")) mNil)) (mC (.int 2))))))))))))))))))))))))
def f_law : MFn := mkFn 1 22 body_law
theorem ok_law (Z : Fx K w mg) : FnG P w K mg base 6 Z.a_law Z.d_law ["script"] (spM ⟨K, mg⟩ f_law) := by
  refine def_ok (k := 5) (N := ["script", "draws", "known", "answers", "n", "plan", "single", "double", "least", "full", "patterns", "due", "way", "bad", "wrong", "told", "found", "i", "j", "team", "entries", "size"]) (ps := ["script"]) (st := s_law) body_law Z.F_law sc_law fun cdv A outer s H E hr hgd => ?_
  unfold body_law
  exact (ss_cons (ss_s (ps_set (i := 1) sc_law.nd rfl (by first | exact .inl rfl | exact .inr rfl) (sv_al (sv_call (ok__law_draws Z) (hr.mono (by decide)) hgd rfl Z.g__law_draws Z.F__law_draws.kp Z.b__law_draws (takes_of rfl rfl rfl rfl) (sa_cons (sv_var (pv 0)) sa_nil)))))
      (ss_cons (ss_s (ps_set (i := 1) sc_law.nd rfl (by first | exact .inl rfl | exact .inr rfl) (sv_al (sv_call (ok__law_more Z) (hr.mono (by decide)) hgd rfl Z.g__law_more Z.F__law_more.kp Z.b__law_more (takes_of rfl rfl rfl rfl) (sa_cons (sv_var (pv 1)) (sa_cons (sv_int pe_int) sa_nil))))))
      (ss_cons (ss_s (ps_set (i := 2) sc_law.nd rfl (by first | exact .inl rfl | exact .inr rfl) (sv_tup (sa_cons (sv_tup (sa_cons (sv_tup (sa_cons (sv_int pe_int) (sa_cons (sv_int pe_int) sa_nil))) (sa_cons (sv_tup (sa_cons (sv_int pe_int) (sa_cons (sv_int pe_int) sa_nil))) sa_nil))) (sa_cons (sv_tup (sa_cons (sv_tup (sa_cons (sv_int pe_int) (sa_cons (sv_int pe_int) sa_nil))) (sa_cons (sv_tup (sa_cons (sv_int pe_int) (sa_cons (sv_int pe_int) sa_nil))) sa_nil))) (sa_cons (sv_tup (sa_cons (sv_tup (sa_cons (sv_int pe_int) (sa_cons (sv_int pe_int) sa_nil))) (sa_cons (sv_tup (sa_cons (sv_int pe_int) (sa_cons (sv_int pe_int) sa_nil))) sa_nil))) sa_nil))))))
      (ss_cons (ss_s (ps_set (i := 3) sc_law.nd rfl (by first | exact .inl rfl | exact .inr rfl) (sv_fz (sv_lst (sa_cons (sv_call (ok_is_single Z) (hr.mono (by decide)) hgd rfl Z.g_is_single Z.F_is_single.kp Z.b_is_single (takes_of rfl rfl rfl rfl) (sa_cons (sv_int pe_int) (sa_cons (sv_var (pv 2)) sa_nil))) (sa_cons (sv_call (ok_is_full Z) (hr.mono (by decide)) hgd rfl Z.g_is_full Z.F_is_full.kp Z.b_is_full (takes_of rfl rfl rfl rfl) (sa_cons (sv_int pe_int) (sa_cons (sv_var (pv 2)) sa_nil))) (sa_cons (sv_call (ok_breaks Z) (hr.mono (by decide)) hgd rfl Z.g_breaks Z.F_breaks.kp Z.b_breaks (takes_of rfl rfl rfl rfl) (sa_cons (sv_int pe_int) (sa_cons (sv_var (pv 2)) sa_nil))) (sa_cons (sv_fz (sv_lc (own := [("team", 19)]) rfl sc_law.nd (si_r1 (pi_range1 rfl Z.z_range (sa_cons (sv_int pe_int) sa_nil))) (blkOk_by (N := N_law) (sc := (defScope s_law)) (by decide +kernel)) (fun _ _ _ _ _ => (sgw_name (by decide) (pg_name (i := 19) sc_law.nd rfl (by first | exact .inl rfl | exact .inr rfl)))) (fun _ _ _ _ _ => sts_nil) (fun _ _ _ _ _ => (sv_call (ok_pattern Z) (hr.mono (by decide)) hgd rfl Z.g_pattern Z.F_pattern.kp Z.b_pattern takes0 (sa_cons (sv_int pe_int) (sa_cons (sv_var (pv 2)) (sa_cons (sv_var (pv 19)) sa_nil))))))) (sa_cons (sv_call (ok_longest_run Z) (hr.mono (by decide)) hgd rfl Z.g_longest_run Z.F_longest_run.kp Z.b_longest_run (takes_of rfl rfl rfl rfl) (sa_cons (sv_int pe_int) (sa_cons (sv_var (pv 2)) sa_nil))) sa_nil)))))))))
      (ss_cons (ss_if (st_cmp (op_neA (u64 hr)) og_ne (sv_b cg_repr (pe_callB (call_reprA hgd (u65 hr)) rfl Z.z_repr bt_repr (sa_cons (sv_var (pv 3)) sa_nil))) (sv_b cg_repr (pe_callB (call_reprA hgd (u65 hr)) rfl Z.z_repr bt_repr (sa_cons (sv_fz (sv_lst (sa_cons (sv_bl pe_bl) (sa_cons (sv_bl pe_bl) (sa_cons (sv_tup (sa_cons (sv_tup sa_nil) (sa_cons (sv_tup (sa_cons (sv_int pe_int) sa_nil)) (sa_cons (sv_tup (sa_cons (sv_int pe_int) sa_nil)) (sa_cons (sv_tup sa_nil) sa_nil))))) (sa_cons (sv_fz (sv_lst (sa_cons (sv_tup (sa_cons (sv_int pe_int) (sa_cons (sv_int pe_int) (sa_cons (sv_int pe_int) sa_nil)))) (sa_cons (sv_tup (sa_cons (sv_int pe_int) (sa_cons (sv_int pe_int) (sa_cons (sv_int pe_int) sa_nil)))) (sa_cons (sv_tup (sa_cons (sv_int pe_int) (sa_cons (sv_int pe_int) (sa_cons (sv_int pe_int) sa_nil)))) (sa_cons (sv_tup (sa_cons (sv_int pe_int) (sa_cons (sv_int pe_int) (sa_cons (sv_int pe_int) sa_nil)))) sa_nil)))))) (sa_cons (sv_int pe_int) sa_nil))))))) sa_nil))) (nomark _)) (ss_one (ss_ret (sv_bl pe_bl))) ss_nil)
      (ss_cons (ss_asg (sv_call (ok__law_plan Z) (hr.mono (by decide)) hgd rfl Z.g__law_plan Z.F__law_plan.kp Z.b__law_plan (takes_of rfl rfl rfl rfl) (sa_cons (sv_var (pv 1)) (sa_cons (sv_int pe_int) sa_nil))) (sg_tup rfl (sgs_cons (sg_name (pg_name (i := 4) sc_law.nd rfl (by first | exact .inl rfl | exact .inr rfl))) (sgs_cons (sg_name (pg_name (i := 5) sc_law.nd rfl (by first | exact .inl rfl | exact .inr rfl))) sgs_nil))))
      (ss_cons (ss_par (ps_par (i := 6) (j := 7) rfl sc_law.nd rfl rfl (by decide) rfl rfl (sa_cons (sv_call (ok__law_troubles Z) (hr.mono (by decide)) hgd rfl Z.g__law_troubles Z.F__law_troubles.kp Z.b__law_troubles (takes_of rfl rfl rfl rfl) (sa_cons (sv_var (pv 4)) (sa_cons (sv_var (pv 5)) (sa_cons (sv_bl pe_bl) sa_nil)))) (sa_cons (sv_call (ok__law_troubles Z) (hr.mono (by decide)) hgd rfl Z.g__law_troubles Z.F__law_troubles.kp Z.b__law_troubles (takes_of rfl rfl rfl rfl) (sa_cons (sv_var (pv 4)) (sa_cons (sv_var (pv 5)) (sa_cons (sv_bl pe_bl) sa_nil)))) sa_nil)) rfl))
      (ss_cons (ss_s (ps_set (i := 8) sc_law.nd rfl (by first | exact .inl rfl | exact .inr rfl) (sv_if (st_cmp (op_eqA (u64 hr)) og_eq (sv_bin op_modN og_mod (sv_b cg_int (pe_callTy call_intA rfl Z.z_int bt_int (sa_cons (sv_var (pv 4)) sa_nil))) (sv_int pe_int)) (sv_int pe_int) (nomark _)) (sv_bin op_sub og_sub (sv_var (pv 4)) (sv_int pe_int)) (sv_var (pv 4)))))
      (ss_cons (ss_s (ps_set (i := 9) sc_law.nd rfl (by first | exact .inl rfl | exact .inr rfl) (sv_or (sv_and (sv_cmp (op_eqA (u64 hr)) og_eq (sv_var (pv 6)) (sv_lst sa_nil) (nomark _)) (sv_one (sv_cmp (op_eqA (u64 hr)) og_eq (sv_b cg_len (pe_callB call_lenA rfl Z.z_len bt_len (sa_cons (sv_var (pv 5)) sa_nil))) (sv_var (pv 8)) (nomark _)))) (sv_one (sv_and (sv_cmp (op_neA (u64 hr)) og_ne (sv_var (pv 6)) (sv_lst sa_nil) (nomark _)) (sv_and (sv_cmp (op_eqA (u64 hr)) og_eq (sv_var (pv 7)) (sv_lst sa_nil) (nomark _)) (sv_one (sv_cmp (op_eqA (u64 hr)) og_eq (sv_b cg_len (pe_callB call_lenA rfl Z.z_len bt_len (sa_cons (sv_var (pv 5)) sa_nil))) (sv_bin op_mulA og_mulA (sv_int pe_int) (sv_var (pv 8))) (nomark _)))))))))
      (ss_cons (ss_fz (ps_lc (i := 10) (own := [("team", 19)]) rfl sc_law.nd rfl rfl (sw_true rfl rfl rfl (by decide +kernel)) (si_r1 (pi_range1 rfl Z.z_range (sa_cons (sv_var (pv 4)) sa_nil))) (blkOk_by (N := N_law) (sc := (defScope s_law)) (by decide +kernel)) (fun _ _ _ _ _ => (sgw_name (by decide) (pg_name (i := 19) sc_law.nd rfl (by first | exact .inl rfl | exact .inr rfl)))) (fun _ _ _ _ _ => sts_nil) (fun _ _ _ _ _ => (sv_call (ok__law_pattern Z) (hr.mono (by decide)) hgd rfl Z.g__law_pattern Z.F__law_pattern.kp Z.b__law_pattern takes0 (sa_cons (sv_var (pv 5)) (sa_cons (sv_var (pv 19)) sa_nil))))))
      (ss_cons (ss_if (st_cmp op_notBl og_notB (sv_call (ok_is_plan Z) (hr.mono (by decide)) hgd rfl Z.g_is_plan Z.F_is_plan.kp Z.b_is_plan (takes_of rfl rfl rfl rfl) (sa_cons (sv_var (pv 4)) (sa_cons (sv_var (pv 5)) sa_nil))) (sv_bl pe_bl) (nomark _)) (ss_one (ss_ret (sv_bl pe_bl))) ss_nil)
      (ss_cons (ss_s (ps_set (i := 11) sc_law.nd rfl (by first | exact .inl rfl | exact .inr rfl) (sv_fz (sv_lst (sa_cons (sv_cmp (op_eqA (u64 hr)) og_eq (sv_var (pv 6)) (sv_lst sa_nil) (nomark _)) (sa_cons (sv_cmp (op_eqA (u64 hr)) og_eq (sv_var (pv 7)) (sv_lst sa_nil) (nomark _)) (sa_cons (sv_var (pv 9)) (sa_cons (sv_b cg_tuple (pe_callTy call_tuple_of rfl Z.z_tuple bt_tuple (sa_cons (sv_fz (sv_lc (own := [("entries", 20)]) rfl sc_law.nd (si_anyA (sv_var (pv 10))) (blkOk_by (N := N_law) (sc := (defScope s_law)) (by decide +kernel)) (fun _ _ _ _ _ => (sgw_name (by decide) (pg_name (i := 20) sc_law.nd rfl (by first | exact .inl rfl | exact .inr rfl)))) (fun _ _ _ _ _ => sts_nil) (fun _ _ _ _ _ => (sv_call (ok__law_breaks Z) (hr.mono (by decide)) hgd rfl Z.g__law_breaks Z.F__law_breaks.kp Z.b__law_breaks takes0 (sa_cons (sv_var (pv 20)) sa_nil))))) sa_nil))) (sa_cons (sv_b cg_max (pe_callB (cr_max rfl) rfl Z.z_max bt_max (sa_cons (sv_fz (sv_lc (own := [("entries", 20)]) rfl sc_law.nd (si_anyA (sv_var (pv 10))) (blkOk_by (N := N_law) (sc := (defScope s_law)) (by decide +kernel)) (fun _ _ _ _ _ => (sgw_name (by decide) (pg_name (i := 20) sc_law.nd rfl (by first | exact .inl rfl | exact .inr rfl)))) (fun _ _ _ _ _ => sts_nil) (fun _ _ _ _ _ => (sv_call (ok__law_run Z) (hr.mono (by decide)) hgd rfl Z.g__law_run Z.F__law_run.kp Z.b__law_run takes0 (sa_cons (sv_var (pv 20)) sa_nil))))) sa_nil))) sa_nil)))))))))
      (ss_cons (ss_if (st_cmp (op_neA (u64 hr)) og_ne (sv_b cg_repr (pe_callB (call_reprA hgd (u65 hr)) rfl Z.z_repr bt_repr (sa_cons (sv_fz (sv_lc (own := [("way", 12)]) rfl sc_law.nd (si_anyA (sv_lst (sa_cons (sv_int pe_int) (sa_cons (sv_int pe_int) (sa_cons (sv_int pe_int) (sa_cons (sv_int pe_int) (sa_cons (sv_int pe_int) sa_nil))))))) (blkOk_by (N := N_law) (sc := (defScope s_law)) (by decide +kernel)) (fun _ _ _ _ _ => (sgw_name (by decide) (pg_name (i := 12) sc_law.nd rfl (by first | exact .inl rfl | exact .inr rfl)))) (fun _ _ _ _ _ => sts_nil) (fun _ _ _ _ _ => (sv_call (ok__law_asked Z) (hr.mono (by decide)) hgd rfl Z.g__law_asked Z.F__law_asked.kp Z.b__law_asked takes0 (sa_cons (sv_var (pv 12)) (sa_cons (sv_var (pv 4)) (sa_cons (sv_var (pv 5)) (sa_cons (sv_non pe_non) sa_nil)))))))) sa_nil))) (sv_b cg_repr (pe_callB (call_reprA hgd (u65 hr)) rfl Z.z_repr bt_repr (sa_cons (sv_var (pv 11)) sa_nil))) (nomark _)) (ss_one (ss_ret (sv_bl pe_bl))) ss_nil)
      (ss_cons (ss_if (st_cmp (op_neA (u64 hr)) og_ne (sv_lc (own := [("team", 19)]) rfl sc_law.nd (si_r1 (pi_range1 rfl Z.z_range (sa_cons (sv_var (pv 4)) sa_nil))) (blkOk_by (N := N_law) (sc := (defScope s_law)) (by decide +kernel)) (fun _ _ _ _ _ => (sgw_name (by decide) (pg_name (i := 19) sc_law.nd rfl (by first | exact .inl rfl | exact .inr rfl)))) (fun _ _ _ _ _ => sts_nil) (fun _ _ _ _ _ => (sv_call (ok__law_asked Z) (hr.mono (by decide)) hgd rfl Z.g__law_asked Z.F__law_asked.kp Z.b__law_asked takes0 (sa_cons (sv_int pe_int) (sa_cons (sv_var (pv 4)) (sa_cons (sv_var (pv 5)) (sa_cons (sv_var (pv 19)) sa_nil))))))) (sv_var (pv 10)) (nomark _)) (ss_one (ss_ret (sv_bl pe_bl))) ss_nil)
      (ss_cons (ss_for (passes_of rfl) rfl (si_anyA (sv_lst (sa_cons (sv_tup (sa_cons (sv_int pe_int) (sa_cons (sv_var (pv 6)) sa_nil))) (sa_cons (sv_tup (sa_cons (sv_int pe_int) (sa_cons (sv_var (pv 7)) sa_nil))) sa_nil)))) (sg_tup rfl (sgs_cons (sg_name (pg_name (i := 12) sc_law.nd rfl (by first | exact .inl rfl | exact .inr rfl))) (sgs_cons (sg_name (pg_name (i := 13) sc_law.nd rfl (by first | exact .inl rfl | exact .inr rfl))) sgs_nil))) (ss_cons (ss_s (ps_set (i := 16) sc_law.nd rfl (by first | exact .inl rfl | exact .inr rfl) (sv_call (ok__law_asked Z) (hr.mono (by decide)) hgd rfl Z.g__law_asked Z.F__law_asked.kp Z.b__law_asked (takes_of rfl rfl rfl rfl) (sa_cons (sv_var (pv 12)) (sa_cons (sv_var (pv 4)) (sa_cons (sv_var (pv 5)) (sa_cons (sv_non pe_non) sa_nil)))))))
      (ss_cons (ss_if (st_w (sw_or (st_cmp (op_neA (u64 hr)) og_ne (sv_cmp op_isN og_isN (sv_var (pv 16)) (sv_non pe_non) (nomark _)) (sv_cmp (op_eqA (u64 hr)) og_eq (sv_var (pv 13)) (sv_lst sa_nil) (nomark _)) (nomark _)) (sw_or1 (st_w (sw_and (st_cmp op_notN og_notN (sv_var (pv 16)) (sv_non pe_non) (nomark _)) (sw_and1 (st_cmp (op_notInB (u65 hr)) og_in (sv_var (pv 16)) (sv_var (pv 13)) rfl))))))) (ss_one (ss_ret (sv_bl pe_bl))) ss_nil)
      (ss_cons (ss_par (ps_par (i := 17) (j := 18) rfl sc_law.nd rfl rfl (by decide) rfl rfl (sa_cons (sv_bin op_modN og_mod (sv_b cg_int (pe_callTy call_intA rfl Z.z_int bt_int (sa_cons (sv_call (ok__law_next Z) (hr.mono (by decide)) hgd rfl Z.g__law_next Z.F__law_next.kp Z.b__law_next (takes_of rfl rfl rfl rfl) (sa_cons (sv_var (pv 1)) sa_nil)) sa_nil))) (sv_var (pv 4))) (sa_cons (sv_bin op_modN og_mod (sv_b cg_int (pe_callTy call_intA rfl Z.z_int bt_int (sa_cons (sv_call (ok__law_next Z) (hr.mono (by decide)) hgd rfl Z.g__law_next Z.F__law_next.kp Z.b__law_next (takes_of rfl rfl rfl rfl) (sa_cons (sv_var (pv 1)) sa_nil)) sa_nil))) (sv_var (pv 4))) sa_nil)) rfl))
      (ss_one (ss_for (passes_of rfl) rfl (si_anyA (sv_bin op_addA og_add (sv_bin op_addA og_add (sv_slice (sv_var (pv 13)) so_none (so_some (sv_int pe_int))) (sv_slice (sv_var (pv 13)) (so_some (sv_un un_neg ug_neg (sv_int pe_int))) so_none)) (sv_lst (sa_cons (sv_tup (sa_cons (sv_str pe_str) (sa_cons (sv_var (pv 17)) (sa_cons (sv_var (pv 18)) sa_nil)))) (sa_cons (sv_tup (sa_cons (sv_str pe_str) (sa_cons (sv_var (pv 17)) (sa_cons (sv_var (pv 18)) sa_nil)))) (sa_cons (sv_tup (sa_cons (sv_str pe_str) (sa_cons (sv_var (pv 18)) (sa_cons (sv_var (pv 17)) sa_nil)))) (sa_cons (sv_tup (sa_cons (sv_str pe_str) (sa_cons (sv_var (pv 17)) (sa_cons (sv_var (pv 4)) sa_nil)))) (sa_cons (sv_tup (sa_cons (sv_str pe_str) (sa_cons (sv_un un_neg ug_neg (sv_int pe_int)) (sa_cons (sv_var (pv 18)) sa_nil)))) (sa_cons (sv_tup (sa_cons (sv_str pe_str) (sa_cons (sv_var (pv 17)) (sa_cons (sv_var (pv 18)) sa_nil)))) (sa_cons (sv_tup (sa_cons (sv_str pe_str) (sa_cons (sv_var (pv 17)) sa_nil))) (sa_cons (sv_tup (sa_cons (sv_str pe_str) (sa_cons (sv_var (pv 17)) (sa_cons (sv_var (pv 18)) (sa_cons (sv_int pe_int) sa_nil))))) (sa_cons (sv_tup sa_nil) sa_nil)))))))))))) (sg_name (pg_name (i := 15) sc_law.nd rfl (by first | exact .inl rfl | exact .inr rfl))) (ss_one (ss_if (st_cmp (op_neA (u64 hr)) og_ne (sv_b cg_repr (pe_callB (call_reprA hgd (u65 hr)) rfl Z.z_repr bt_repr (sa_cons (sv_call (ok__law_asked Z) (hr.mono (by decide)) hgd rfl Z.g__law_asked Z.F__law_asked.kp Z.b__law_asked (takes_of rfl rfl rfl rfl) (sa_cons (sv_bin op_addA og_add (sv_var (pv 12)) (sv_int pe_int)) (sa_cons (sv_var (pv 4)) (sa_cons (sv_var (pv 5)) (sa_cons (sv_var (pv 15)) sa_nil))))) sa_nil))) (sv_b cg_repr (pe_callB (call_reprA hgd (u65 hr)) rfl Z.z_repr bt_repr (sa_cons (sv_cmp (op_inB (u65 hr)) og_in (sv_var (pv 15)) (sv_var (pv 13)) rfl) sa_nil))) (nomark _)) (ss_one (ss_ret (sv_bl pe_bl))) ss_nil))))))))
      (ss_cons (ss_s (ps_set (i := 14) sc_law.nd rfl (by first | exact .inl rfl | exact .inr rfl) (sv_fz (sv_lst (sa_cons (sv_tup (sa_cons (sv_int pe_int) (sa_cons (sv_tup sa_nil) sa_nil))) (sa_cons (sv_tup (sa_cons (sv_int pe_int) (sa_cons (sv_tup sa_nil) sa_nil))) (sa_cons (sv_tup (sa_cons (sv_var (pv 4)) (sa_cons (sv_bin op_mulA og_mulA (sv_tup (sa_cons (sv_tup sa_nil) sa_nil)) (sv_int pe_int)) sa_nil))) (sa_cons (sv_tup (sa_cons (sv_var (pv 4)) (sa_cons (sv_tup (sa_cons (sv_tup (sa_cons (sv_tup (sa_cons (sv_int pe_int) (sa_cons (sv_int pe_int) sa_nil))) sa_nil)) sa_nil)) sa_nil))) (sa_cons (sv_tup (sa_cons (sv_var (pv 4)) (sa_cons (sv_tup (sa_cons (sv_tup (sa_cons (sv_tup (sa_cons (sv_int pe_int) (sa_cons (sv_var (pv 4)) sa_nil))) sa_nil)) sa_nil)) sa_nil))) (sa_cons (sv_tup (sa_cons (sv_var (pv 4)) (sa_cons (sv_tup (sa_cons (sv_tup (sa_cons (sv_tup (sa_cons (sv_int pe_int) (sa_cons (sv_int pe_int) sa_nil))) (sa_cons (sv_tup (sa_cons (sv_int pe_int) (sa_cons (sv_int pe_int) sa_nil))) sa_nil))) sa_nil)) sa_nil))) (sa_cons (sv_tup (sa_cons (sv_var (pv 4)) (sa_cons (sv_tup (sa_cons (sv_tup (sa_cons (sv_tup (sa_cons (sv_int pe_int) (sa_cons (sv_int pe_int) (sa_cons (sv_int pe_int) sa_nil)))) sa_nil)) sa_nil)) sa_nil))) (sa_cons (sv_tup (sa_cons (sv_var (pv 4)) (sa_cons (sv_tup (sa_cons (sv_tup (sa_cons (sv_tup (sa_cons (sv_un un_neg ug_neg (sv_int pe_int)) (sa_cons (sv_int pe_int) sa_nil))) sa_nil)) sa_nil)) sa_nil))) (sa_cons (sv_tup (sa_cons (sv_int pe_int) (sa_cons (sv_tup (sa_cons (sv_tup (sa_cons (sv_tup (sa_cons (sv_int pe_int) (sa_cons (sv_int pe_int) sa_nil))) (sa_cons (sv_tup (sa_cons (sv_int pe_int) (sa_cons (sv_int pe_int) sa_nil))) sa_nil))) sa_nil)) sa_nil))) sa_nil)))))))))))))
      (ss_cons (ss_s (ps_set (i := 15) sc_law.nd rfl (by first | exact .inl rfl | exact .inr rfl) (sv_fz (sv_call (ok__law_flat Z) (hr.mono (by decide)) hgd rfl Z.g__law_flat Z.F__law_flat.kp Z.b__law_flat (takes_of rfl rfl rfl rfl) (sa_cons (sv_fz (sv_lc (own := [("way", 12)]) rfl sc_law.nd (si_r1 (pi_range1 rfl Z.z_range (sa_cons (sv_int pe_int) sa_nil))) (blkOk_by (N := N_law) (sc := (defScope s_law)) (by decide +kernel)) (fun _ _ _ _ _ => (sgw_name (by decide) (pg_name (i := 12) sc_law.nd rfl (by first | exact .inl rfl | exact .inr rfl)))) (fun _ _ _ _ _ => sts_nil) (fun _ _ _ _ _ => (sv_fz (sv_lc (own := [("bad", 13)]) rfl sc_law.nd (si_anyA (sv_var (pv 14))) (blkOk_by (by first | decide +kernel | rfl)) (fun _ _ _ _ _ => (sgw_name (by decide) (pg_name (i := 13) sc_law.nd rfl (by first | exact .inl rfl | exact .inr rfl)))) (fun _ _ _ _ _ => sts_nil) (fun _ _ _ _ _ => (sv_call (ok__law_asked Z) (hr.mono (by decide)) hgd rfl Z.g__law_asked Z.F__law_asked.kp Z.b__law_asked takes0 (sa_cons (sv_var (pv 12)) (sa_cons (sv_ix (u65 hr) (sv_var (pv 13)) (sv_int pe_int) (fun _ _ => rfl)) (sa_cons (sv_ix (u65 hr) (sv_var (pv 13)) (sv_int pe_int) (fun _ _ => rfl)) (sa_cons (sv_if (st_cmp (op_eqA (u64 hr)) og_eq (sv_var (pv 12)) (sv_int pe_int) (nomark _)) (sv_int pe_int) (sv_tup sa_nil)) sa_nil))))))))))) sa_nil)))))
      (ss_cons (ss_if (st_w (sw_or (st_cmp (op_neA (u64 hr)) og_ne (sv_lc (own := [("size", 21), ("bad", 13)]) rfl sc_law.nd (si_anyA (sv_var (pv 14))) (blkOk_by (N := N_law) (sc := (defScope s_law)) (by decide +kernel)) (fun _ _ _ _ _ => (sgw_tup rfl (sgsw_cons (sgw_name (by decide) (pg_name (i := 21) sc_law.nd rfl (by first | exact .inl rfl | exact .inr rfl))) (sgsw_cons (sgw_name (by decide) (pg_name (i := 13) sc_law.nd rfl (by first | exact .inl rfl | exact .inr rfl))) sgsw_nil)))) (fun _ _ _ _ _ => sts_nil) (fun _ _ _ _ _ => (sv_call (ok_is_plan Z) (hr.mono (by decide)) hgd rfl Z.g_is_plan Z.F_is_plan.kp Z.b_is_plan takes0 (sa_cons (sv_var (pv 21)) (sa_cons (sv_var (pv 13)) sa_nil))))) (sv_repL (sv_lst (sa_cons (sv_bl pe_bl) sa_nil)) (sv_int pe_int)) (nomark _)) (sw_or1 (st_cmp op_notBl og_notB (sv_call (ok_is_plan Z) (hr.mono (by decide)) hgd rfl Z.g_is_plan Z.F_is_plan.kp Z.b_is_plan (takes_of rfl rfl rfl rfl) (sa_cons (sv_int pe_int) (sa_cons (sv_bin op_mulA og_mulA (sv_tup (sa_cons (sv_tup sa_nil) sa_nil)) (sv_int pe_int)) sa_nil))) (sv_bl pe_bl) (nomark _))))) (ss_one (ss_ret (sv_bl pe_bl))) ss_nil)
      (ss_one (ss_ret (sv_and (sv_cmp (op_eqA (u64 hr)) og_eq (sv_var (pv 15)) (sv_repL (sv_lst (sa_cons (sv_str pe_str) sa_nil)) (sv_int pe_int)) (nomark _)) (sv_one (sv_cmp (op_eqA (u64 hr)) og_eq (sv_lc (own := [("team", 19)]) rfl sc_law.nd (si_anyA (sv_lst (sa_cons (sv_un un_neg ug_neg (sv_int pe_int)) (sa_cons (sv_var (pv 4)) sa_nil)))) (blkOk_by (N := N_law) (sc := (defScope s_law)) (by decide +kernel)) (fun _ _ _ _ _ => (sgw_name (by decide) (pg_name (i := 19) sc_law.nd rfl (by first | exact .inl rfl | exact .inr rfl)))) (fun _ _ _ _ _ => sts_nil) (fun _ _ _ _ _ => (sv_call (ok__law_asked Z) (hr.mono (by decide)) hgd rfl Z.g__law_asked Z.F__law_asked.kp Z.b__law_asked takes0 (sa_cons (sv_int pe_int) (sa_cons (sv_var (pv 4)) (sa_cons (sv_var (pv 5)) (sa_cons (sv_var (pv 19)) sa_nil))))))) (sv_repL (sv_lst (sa_cons (sv_str pe_str) sa_nil)) (sv_int pe_int)) (nomark _))))))))))))))))))))))))
end
end G00

namespace G00
open PySem PySem.Spec PyProof.Rows L2 M PR
/-! ### typed plans -/
def rdD (gs : List (Int × Int)) : D := .tup (gs.map gmP)
def plD (p : List (List (Int × Int))) : D := .tup (p.map rdD)
def teams (gs : List (Int × Int)) : List Int := gs.flatMap fun g => [g.1, g.2]
structure RoundOk (n : Int) (gs : List (Int × Int)) : Prop where
  inr : ∀ t ∈ teams gs, 0 ≤ t ∧ t < n
  nd : (teams gs).Nodup
  srt : gs.Pairwise fun x y => leP x y = true
  len : gs.length ≤ 100
theorem teams_len {gs : List (Int × Int)} : (teams gs).length = 2 * gs.length := by
  induction gs with
  | nil => rfl
  | cons g gs ih =>
    simp only [teams, List.flatMap_cons, List.length_append, List.length_cons, List.length_nil] at *
    omega
theorem lim1 {k : Nat} (h : k ≤ 100000) : k ≤ lim := le_lim (by omega)
theorem mem_teams {gs : List (Int × Int)} {g : Int × Int} (h : g ∈ gs) : g.1 ∈ teams gs ∧ g.2 ∈ teams gs := by
  unfold teams
  simp only [List.mem_flatMap]
  exact ⟨⟨g, h, by simp⟩, ⟨g, h, by simp⟩⟩
theorem RoundOk.gm {n : Int} {gs : List (Int × Int)} (h : RoundOk n gs) {g : Int × Int} (hg : g ∈ gs) : 0 ≤ g.1 ∧ g.1 < n ∧ 0 ≤ g.2 ∧ g.2 < n :=
  ⟨(h.inr _ (mem_teams hg).1).1, (h.inr _ (mem_teams hg).1).2, (h.inr _ (mem_teams hg).2).1, (h.inr _ (mem_teams hg).2).2⟩
theorem pd_gm {n : Int} {g : Int × Int} (h : 0 ≤ g.1 ∧ g.1 < n ∧ 0 ≤ g.2 ∧ g.2 < n) (hn : n ≤ 1000) : Pd 1 (gmP g) := pd_tup fun d hd => by
  simp only [List.mem_cons, List.not_mem_nil, or_false] at hd
  rcases hd with rfl | rfl
  · exact pd_int (by omega)
  · exact pd_int (by omega)
theorem is_round_ok {n : Int} {gs : List (Int × Int)} {S : Sto} (h : RoundOk n gs) (hn : n ≤ 1000) : f_is_round [.v (.int n), .v (rdD gs)] S = .ok (.v (.bl true)) S := by
  have hl := h.len
  unfold f_is_round
  rw [mkFn_ap (np := 2) rfl]
  refine leave_wx ?_
  unfold body_is_round
  have h1 : sSet 2 (mFz (mLC (mItA (mV 1)) (pN 4) mYes (mB (g1 tupleD) (mCons (mV 4) mNil)) [4])) [some (.v (.int n)), some (.v (rdD gs)), none, none, none, none] S = .nx [some (.v (.int n)), some (.v (rdD gs)), some (.v (.lst (gs.map gmP))), none, none, none] S := by
    rw [sSet_ap, mFz_ap, lcm (f := gmP) (F := gmP) (xs := gs) (itA_tup rfl) (lim1 (by omega)) fun x hx => ⟨_, rfl, by simp [gmP]; rfl⟩]
    rfl
  refine wx_to h1 ?_
  have h2 : sSet 3 (mFz (mLC2 (mItA (mV 2)) (pN 4) mYes (mItA (mV 4)) (pN 5) mYes (mV 5) [4, 5] [5])) [some (.v (.int n)), some (.v (rdD gs)), some (.v (.lst (gs.map gmP))), none, none, none] S = .nx [some (.v (.int n)), some (.v (rdD gs)), some (.v (.lst (gs.map gmP))), some (.v (.lst ((teams gs).map D.int))), none, none] S := by
    have e := lc2m (ρ := [some (.v (.int n)), some (.v (rdD gs)), some (.v (.lst (gs.map gmP))), none, none, none]) (S := S) (it := mItA (mV 2)) (g := pN 4) (it1 := mItA (mV 4)) (g1 := pN 5) (te := mV 5) (vs := [4, 5]) (vs1 := [5]) (f := gmP) (ys := fun g : Int × Int => [g.1, g.2]) (f1 := fun _ => D.int) (F := fun _ => D.int) (xs := gs) (itA_lst rfl) (lim1 (by
      have : (gs.map fun g : Int × Int => [g.1, g.2].length) = gs.map fun _ => 2 := rfl
      rw [this]
      have : ∀ l : List (Int × Int), (l.map fun _ => 2).sum = 2 * l.length := fun l => by
        induction l with
        | nil => rfl
        | cons a l ih => simp [ih]; omega
      rw [this]
      omega)) (fun x hx => ⟨_, rfl, itA_tup rfl, fun y hy => ⟨_, rfl, rfl⟩⟩)
    rw [sSet_ap, mFz_ap, e]
    have e2 : (gs.flatMap fun x => [x.1, x.2].map D.int) = (teams gs).map D.int := by
      unfold teams
      rw [List.map_flatMap]
    rw [e2]
    rfl
  refine wx_to h2 ?_
  have h3 : mB (g1 allD) (mCons (mFz (mLC (mItA (mV 2)) (pN 4) mYes (mOp gEq (mB (g1 lenD) (mCons (mV 4) mNil)) (mC (.int 2))) [4])) mNil) [some (.v (.int n)), some (.v (rdD gs)), some (.v (.lst (gs.map gmP))), some (.v (.lst ((teams gs).map D.int))), none, none] S = .ok (.v (.bl true)) S := by
    rw [lcAll (f := gmP) (p := fun _ => true) (xs := gs) (itA_lst rfl) (lim1 (by omega)) fun x hx => ⟨_, rfl, by simp [wipeM, gmP]⟩]
    simp
  have h4 : mB (g1 allD) (mCons (mFz (mLC (mItA (mV 3)) (pN 5) mYes (mChain gLe gLt (mC (.int 0)) (mV 5) (mV 0)) [5])) mNil) [some (.v (.int n)), some (.v (rdD gs)), some (.v (.lst (gs.map gmP))), some (.v (.lst ((teams gs).map D.int))), none, none] S = .ok (.v (.bl true)) S := by
    rw [lcAll (f := D.int) (p := fun _ => true) (xs := teams gs) (itA_lst rfl) (lim1 (by rw [teams_len]; omega)) fun x hx => ⟨_, rfl, by have := h.inr x hx; simp [wipeM, this.1, this.2]⟩]
    simp
  refine wx_to (ρ' := [some (.v (.int n)), some (.v (rdD gs)), some (.v (.lst (gs.map gmP))), some (.v (.lst ((teams gs).map D.int))), none, none]) (S' := S) ?_ ?_
  · rw [sIf_ap, mOr_ap, mNot_ap, mTru_ap, h3]
    simp only [bind_ok, pk_v, truB, Bool.not_true, if_neg Bool.false_ne_true, mNot_ap, mTru_ap, h4, ofR_ok, sSkip_ap]
  have h5 : mDC (mItA (mV 3)) (pN 5) mYes (mV 5) (mC (.bl true)) [5] [some (.v (.int n)), some (.v (rdD gs)), some (.v (.lst (gs.map gmP))), some (.v (.lst ((teams gs).map D.int))), none, none] S = .ok (.n (.dk (putsK [] [] ((teams gs).map fun x => (Sum.inl x, D.bl true))).1 (putsK [] [] ((teams gs).map fun x => (Sum.inl x, D.bl true))).2)) S :=
    dcv (f := D.int) (key := Sum.inl) (kd := D.int) (F := fun _ => .bl true) (xs := teams gs) (itA_lst rfl) (lim1 (by rw [teams_len]; omega)) fun x hx => ⟨_, rfl, rfl, rfl, rfl⟩
  have h6 : (putsK [] [] ((teams gs).map fun x => ((Sum.inl x : DKey), D.bl true))).1.length = (teams gs).length := by
    have := (putsK_all (r := (teams gs).map fun x => ((Sum.inl x : DKey), D.bl true))).mpr (by
      rw [List.map_map]
      refine List.Pairwise.map _ (fun a b hab e => hab ?_) h.nd
      exact Sum.inl.inj e)
    rw [this, List.length_map]
  have p1 : Pl (.lst (gs.map gmP)) := (pd_lst (n := 1) fun d hd => by
    obtain ⟨g, hg, rfl⟩ := List.mem_map.mp hd
    exact pd_gm (h.gm hg) hn).pl (by omega)
  rw [sRet_ap]
  simp [h5, h6, sortA_lst, isort_id h.srt, gEq_pl p1 p1]
end G00

namespace G00
open PySem PySem.Spec PyProof.Rows L2 M PR
structure PlanOk (n : Int) (p : List (List (Int × Int))) : Prop where
  rounds : ∀ gs ∈ p, RoundOk n gs
  n2 : 2 ≤ n
  n60 : n ≤ 60
  len : p.length ≤ 200
theorem is_plan_ok {n : Int} {p : List (List (Int × Int))} {S : Sto} (h : PlanOk n p) : f_is_plan [.v (.int n), .v (plD p)] S = .ok (.v (.bl true)) S := by
  have hl := h.len
  have h2 := h.n2
  have h60 := h.n60
  unfold f_is_plan
  rw [mkFn_ap (np := 2) rfl]
  refine leave_wx ?_
  unfold body_is_plan
  refine wx_to (ρ' := [some (.v (.int n)), some (.v (plD p)), none]) (S' := S) ?_ ?_
  · have : ¬ (200 < (p.length : Int)) := by omega
    simp [plD, h2, h60, this]
  · have e : mB (g1 allD) (mCons (mFz (mLC (mItA (mV 1)) (pN 2) mYes (mCall f_is_round (mCons (mV 0) (mCons (mV 2) mNil))) [2])) mNil) [some (.v (.int n)), some (.v (plD p)), none] S = .ok (.v (.bl true)) S := by
      rw [lcAll (f := rdD) (p := fun _ => true) (xs := p) (itA_tup rfl) (lim1 (by omega)) fun gs hg => ⟨_, rfl, by
        simp [wipeM, is_round_ok (S := S) (h.rounds gs hg) (by omega)]⟩]
      simp
    rw [sRet_ap, e]
    simp
theorem check_plan_ok {n : Int} {p : List (List (Int × Int))} {S : Sto} (h : PlanOk n p) : f_check_plan [.v (.int n), .v (plD p)] S = .ok (.v .non) S := by
  unfold f_check_plan
  rw [mkFn_ap (np := 2) rfl]
  refine leave_wx ?_
  unfold body_check_plan
  simp [is_plan_ok h, truB]
theorem check_team_ok {n t : Int} {S : Sto} (h : 0 ≤ t) (h2 : t < n) : f_check_team [.v (.int n), .v (.int t)] S = .ok (.v .non) S := by
  unfold f_check_team
  rw [mkFn_ap (np := 2) rfl]
  refine leave_wx ?_
  unfold body_check_team
  simp [h, h2]
theorem check_team_no {n t : Int} {S : Sto} (h : ¬(0 ≤ t ∧ t < n)) : f_check_team [.v (.int n), .v (.int t)] S = .er ⟨"BadNumber", none⟩ S := by
  unfold f_check_team
  rw [mkFn_ap (np := 2) rfl]
  refine leave_er' ?_
  unfold body_check_team
  by_cases h1 : 0 ≤ t
  · have h2 : ¬ t < n := fun z => h ⟨h1, z⟩
    simp [h1, h2]
  · simp [h1]
/-! ### the games, counted -/
abbrev Kg := List DKey
def kk (g : Int × Int) : Kg := [.inl g.1, .inl g.2]
structure Counts (ks : List Kg) (vs : List D) (l : List (Int × Int)) : Prop where
  at_ : ∀ g, (lookK ks vs (kk g)).getD (.int 0) = .int (l.count g : Nat)
  len : ks.length ≤ l.length
  eq : ks.length = vs.length
theorem kk_inj {g g' : Int × Int} : kk g = kk g' ↔ g = g' := by
  unfold kk
  constructor
  · intro h
    simp only [List.cons.injEq, Sum.inl.injEq, and_true] at h
    exact Prod.ext h.1 h.2
  · rintro rfl
    rfl
theorem Counts.nil : Counts [] [] [] := ⟨fun g => by simp [lookK], Nat.le_refl _, rfl⟩
theorem Counts.add {ks : List Kg} {vs : List D} {l : List (Int × Int)} (h : Counts ks vs l) (g : Int × Int) : Counts (putKs ks (kk g)) (putVs ks vs (kk g) (.int ((l.count g : Nat) + 1))) (l ++ [g]) := by
  refine ⟨fun g' => ?_, ?_, put_len h.eq⟩
  · rw [lookK_put h.eq]
    by_cases e : g' = g
    · subst e
      rw [if_pos rfl]
      simp
    · rw [if_neg (fun z => e (kk_inj.mp z)), h.at_]
      have : ¬ g = g' := fun z => e z.symm
      simp [List.count_append, List.count_cons, this]
  · have := putKs_le (ks := ks) (k := kk g)
    have := h.len
    simp
    omega
theorem counts_ok {p : List (List (Int × Int))} {S : Sto} (hl : p.flatten.length ≤ 100000) : ∃ ks vs, f_counts_of [.v (plD p)] S = .ok (.n (.dt ks vs)) S ∧ Counts ks vs p.flatten := by
  have main : WX (body_counts_of ([some (.v (plD p))] ++ [none, none, none, none]) S) (fun _ _ => False) (fun x S' => ∃ o, x = .l S.length ∧ S' = S ++ [some o] ∧ ∃ ks vs, o = .dt ks vs ∧ Counts ks vs p.flatten) (fun _ _ => False) := by
    unfold body_counts_of
    refine wx_to (ρ' := [some (.v (plD p)), some (.l S.length), none, none, none]) (S' := S ++ [some (.dt [] [])]) (by simp) ?_
    refine wx_via (fun ρ S' => ∃ ks vs a b c, ρ = [some (.v (plD p)), some (.l S.length), a, b, c] ∧ S' = S ++ [some (.dt ks vs)] ∧ Counts ks vs p.flatten) ?_ ?_
    · refine wx_for (f := rdD) (xs := p) (fun pre ρ S' => ∃ ks vs a b c, ρ = [some (.v (plD p)), some (.l S.length), a, b, c] ∧ S' = S ++ [some (.dt ks vs)] ∧ Counts ks vs pre.flatten) (itA_tup rfl) ⟨[], [], none, none, none, rfl, rfl, .nil⟩ ?_ fun ρ S h => h
      rintro pre gs post ρ S' ep ⟨ks, vs, a, b, c, rfl, rfl, hc⟩
      rw [turn_name]
      refine wt_of ?_
      have hlen : pre.flatten.length + gs.length ≤ 100000 := by
        rw [ep] at hl
        simp at hl ⊢
        omega
      refine wx_for (f := gmP) (xs := gs) (fun pre2 ρ S' => ∃ ks vs b c, ρ = [some (.v (plD p)), some (.l S.length), some (.v (rdD gs)), b, c] ∧ S' = S ++ [some (.dt ks vs)] ∧ Counts ks vs (pre.flatten ++ pre2)) (itA_tup rfl) ⟨ks, vs, b, c, rfl, rfl, by simpa using hc⟩ ?_ ?_
      · rintro pre2 g post2 ρ S' ep2 ⟨ks, vs, b, c, rfl, rfl, hc⟩
        have hlt : ks.length < lim := by
          have h1 := hc.len
          have h2 : pre2.length < gs.length := by rw [ep2]; simp
          rw [List.length_append] at h1
          exact lt_lim (by omega)
        have hd : onDk (S ++ [some (Ob.dt ks vs)]) (.l S.length) = true := onDk_lt (ks := ks) (vs := vs) (by simp)
        have hg := getDo_lt (S := S ++ [some (Ob.dt ks vs)]) (n := S.length) (es := [.int g.1, .int g.2]) (ks := ks) (vs := vs) (k := kk g) (by simp) rfl
        have ha := hc.at_ g
        have hadd := hc.add g
        generalize (pre.flatten ++ pre2).count g = m at ha hadd
        have e : turn (gT 2 (gsC (gN 3) (gsC (gN 4) gsN))) (sAsg (mOp gAdd (mGet2 (mV 1) (mTup (mCons (mV 3) (mCons (mV 4) mNil))) (mC (.int 0))) (mC (.int 1))) (gIxS (mV 1) (mTup (mCons (mV 3) (mCons (mV 4) mNil))))) (gmP g) [some (.v (plD p)), some (.l S.length), some (.v (rdD gs)), b, c] (S ++ [some (Ob.dt ks vs)]) =
            .nx [some (.v (plD p)), some (.l S.length), some (.v (rdD gs)), some (.v (.int g.1)), some (.v (.int g.2))] (S ++ [some (Ob.dt (putKs ks (kk g)) (putVs ks vs (kk g) (.int ((m : Nat) + 1))))]) := by
          simp only [turn, gmP, gT_ap, gsC_ap, gN_ap, gsN_ap, List.length_cons, List.length_nil, bind_ok, List.set_cons_succ, List.set_cons_zero]
          simp [hd, hg, ha, hlt]
          exact ⟨rfl, rfl⟩
        rw [e]
        exact ⟨_, _, _, _, rfl, rfl, by rw [← List.append_assoc]; exact hadd⟩
      · rintro ρ S' ⟨ks, vs, b, c, rfl, rfl, hc⟩
        exact ⟨ks, vs, _, b, c, rfl, rfl, by simpa using hc⟩
    · rintro ρ S' ⟨ks, vs, a, b, c, rfl, rfl, hc⟩
      exact ⟨_, rfl, rfl, ks, vs, rfl, hc⟩
  unfold f_counts_of
  rw [mkFn_ap (np := 1) rfl]
  obtain ⟨o, e, ks, vs, rfl, hc⟩ := leave_n (n := S.length) main rfl
  exact ⟨ks, vs, e, hc⟩
end G00

namespace G00
open PySem PySem.Spec PyProof.Rows L2 M PR
/-! ### troubles -/
def many (l : List (Int × Int)) (dbl : Bool) (i j : Int) : Nat := if dbl then l.count (i, j) else l.count (i, j) + l.count (j, i)
def asks (dbl : Bool) (i j : Int) : Bool := decide (i < j) || (dbl && !decide (i = j))
def bad (l : List (Int × Int)) (dbl : Bool) (i j : Int) : Bool := asks dbl i j && !decide (many l dbl i j = 1)
def trD (w : PySem.Str) (i j : Int) : D := .tup [.str w, .int i, .int j]
def word (m : Nat) : PySem.Str := if m = 0 then "lacks" else "more"
/-- all troubles, in order -/
def trs (n : Nat) (l : List (Int × Int)) (dbl : Bool) : List D := (ups n).flatMap fun i => ((ups n).filter (bad l dbl i)).map fun j => trD (word (many l dbl i j)) i j
theorem meetings_ok {ks : List Kg} {vs : List D} {l : List (Int × Int)} {i j : Int} {S : Sto} (h : Counts ks vs l) : f_meetings [.v (.fdt ks vs), .v (.int i), .v (.int j)] S = .ok (.v (.int (many l false i j : Nat))) S := by
  unfold f_meetings
  rw [mkFn_ap (np := 3) rfl]
  refine leave_wx ?_
  unfold body_meetings
  have h1 := h.at_ (i, j)
  have h2 := h.at_ (j, i)
  have g1 := getDo_ft (S := S) (ks := ks) (vs := vs) (es := [.int i, .int j]) (k := kk (i, j)) rfl
  have g2 := getDo_ft (S := S) (ks := ks) (vs := vs) (es := [.int j, .int i]) (k := kk (j, i)) rfl
  simp [g1, g2, h1, h2, many]
theorem gNe_int' {i j : Int} : gNe (.int i) (.int j) = some (.v (.bl (!decide (i = j)))) := by simp
theorem trouble_ok {n : Nat} {p : List (List (Int × Int))} {dbl : Bool} {S : Sto} (hn : n ≤ 1000) (hl : p.flatten.length ≤ 100000) : f_trouble_of [.v (.int n), .v (plD p), .v (.bl dbl)] S = .ok (.v ((trs n p.flatten dbl).headD .non)) S := by
  obtain ⟨ks, vs, ec, hc⟩ := counts_ok (S := S) hl
  unfold f_trouble_of
  rw [mkFn_ap (np := 3) rfl]
  refine leave_wx ?_
  unfold body_trouble_of
  refine wx_to (ρ' := [some (.v (.int n)), some (.v (plD p)), some (.v (.bl dbl)), some (.v (.fdt ks vs)), none, none, none]) (S' := S) (by simp [ec]) ?_
  refine wx_via (fun ρ S' => S' = S ∧ trs n p.flatten dbl = []) ?_ ?_
  · refine wx_for (f := D.int) (xs := ups n) (fun pre ρ S' => ∃ a b c, ρ = [some (.v (.int n)), some (.v (plD p)), some (.v (.bl dbl)), some (.v (.fdt ks vs)), a, b, c] ∧ S' = S ∧ ∀ i ∈ pre, (ups n).filter (bad p.flatten dbl i) = []) (by simp [rng1_ups (by omega : n ≤ 1000000000)]) ⟨none, none, none, rfl, rfl, by simp⟩ ?_ ?_
    · rintro pre i post ρ S' ep ⟨a, b, c, rfl, rfl, hp⟩
      rw [turn_name]
      refine wt_of ?_
      refine wx_for (f := D.int) (xs := ups n) (fun pre2 ρ S'' => ∃ b c, ρ = [some (.v (.int n)), some (.v (plD p)), some (.v (.bl dbl)), some (.v (.fdt ks vs)), some (.v (.int i)), b, c] ∧ S'' = S' ∧ pre2.filter (bad p.flatten dbl i) = []) (by simp [rng1_ups (by omega : n ≤ 1000000000)]) ⟨b, c, rfl, rfl, by simp⟩ ?_ ?_
      · rintro pre2 j post2 ρ S'' ep2 ⟨b, c, rfl, rfl, hp2⟩
        rw [turn_name]
        have g1 := getDo_ft (S := S'') (ks := ks) (vs := vs) (es := [.int i, .int j]) (k := kk (i, j)) rfl
        have hm := meetings_ok (S := S'') (i := i) (j := j) hc
        have h1 := hc.at_ (i, j)
        have ht : mOr (mTB (mOp gLt (mV 4) (mV 5))) (mAnd (mTru (mV 2)) (mTB (mOp gNe (mV 4) (mV 5)))) [some (.v (.int n)), some (.v (plD p)), some (.v (.bl dbl)), some (.v (.fdt ks vs)), some (.v (.int i)), some (.v (.int j)), c] S'' = .ok (asks dbl i j) S'' := by
          unfold asks
          by_cases h : i < j <;> cases dbl <;> simp [h, truB]
        by_cases ha : asks dbl i j = true
        · have hm2 : (mIfE (mTru (mV 2)) (mGet2 (mV 3) (mTup (mCons (mV 4) (mCons (mV 5) mNil))) (mC (.int 0))) (mCall f_meetings (mCons (mV 3) (mCons (mV 4) (mCons (mV 5) mNil))))) [some (.v (.int n)), some (.v (plD p)), some (.v (.bl dbl)), some (.v (.fdt ks vs)), some (.v (.int i)), some (.v (.int j)), c] S'' = .ok (.v (.int (many p.flatten dbl i j : Nat))) S'' := by
            cases dbl <;> simp [truB, g1, h1, hm, many]
          show WT (sIf _ _ _ [some (.v (.int n)), some (.v (plD p)), some (.v (.bl dbl)), some (.v (.fdt ks vs)), some (.v (.int i)), some (.v (.int j)), c] S'') _ _ _ _
          rw [sIf_ap, ht, ofR_ok, if_pos ha]
          refine wt_to (ρ' := [some (.v (.int n)), some (.v (plD p)), some (.v (.bl dbl)), some (.v (.fdt ks vs)), some (.v (.int i)), some (.v (.int j)), some (.v (.int (many p.flatten dbl i j : Nat)))]) (S' := S'') (by rw [sSet_ap, mFz_ap, hm2]; rfl) ?_
          by_cases h1 : many p.flatten dbl i j = 1
          · have hb : bad p.flatten dbl i j = false := by simp [bad, ha, h1]
            simp [h1]
            exact ⟨by simpa using hp2, hb⟩
          · have hb : bad p.flatten dbl i j = true := by simp [bad, ha, h1]
            have h1' : ¬ ((many p.flatten dbl i j : Nat) : Int) = 1 := by omega
            have et : trs n p.flatten dbl = trD (word (many p.flatten dbl i j)) i j :: (((post2.filter (bad p.flatten dbl i)).map fun j => trD (word (many p.flatten dbl i j)) i j) ++ post.flatMap fun i => ((ups n).filter (bad p.flatten dbl i)).map fun j => trD (word (many p.flatten dbl i j)) i j) := by
              unfold trs
              rw [flat_first ep fun k hk => by rw [hp k hk]; rfl, filter_first ep2 hp2 hb]
              rfl
            rw [et]
            by_cases h0 : many p.flatten dbl i j = 0
            · simp [h1', h0, word, trD]
            · simp [h1', h0, word, trD]
        · have hb : bad p.flatten dbl i j = false := by simp [bad, ha]
          show WT (sIf _ _ _ [some (.v (.int n)), some (.v (plD p)), some (.v (.bl dbl)), some (.v (.fdt ks vs)), some (.v (.int i)), some (.v (.int j)), c] S'') _ _ _ _
          rw [sIf_ap, ht, ofR_ok, if_neg ha]
          simp [hb, hp2]
      · rintro ρ S'' ⟨b, c, rfl, rfl, hp2⟩
        refine ⟨_, b, c, rfl, rfl, fun k hk => ?_⟩
        rcases List.mem_append.mp hk with h | h
        · exact hp k h
        · rw [List.mem_singleton] at h
          subst h
          exact hp2
    · rintro ρ S' ⟨a, b, c, rfl, rfl, hp⟩
      refine ⟨rfl, ?_⟩
      unfold trs
      rw [List.flatMap_eq_nil_iff]
      intro i hi
      rw [hp i hi]
      rfl
  · rintro ρ S' ⟨rfl, he⟩
    rw [he]
    simp
end G00

namespace G00
open PySem PySem.Spec PyProof.Rows L2 M PR
theorem PlanOk.few {n : Int} {p : List (List (Int × Int))} (h : PlanOk n p) : p.flatten.length ≤ 100000 := by
  have : ∀ q : List (List (Int × Int)), (∀ gs ∈ q, gs.length ≤ 100) → q.flatten.length ≤ 100 * q.length := fun q => by
    induction q with
    | nil => simp
    | cons a q ih =>
      intro hq
      have h1 := hq a List.mem_cons_self
      have h2 := ih fun gs hg => hq gs (List.mem_cons_of_mem _ hg)
      simp only [List.flatten_cons, List.length_append, List.length_cons]
      omega
  have := this p fun gs hg => (h.rounds gs hg).len
  have := h.len
  omega
section
variable {n : Nat} {p : List (List (Int × Int))} {S : Sto}
theorem trs_head {l : List (Int × Int)} {dbl : Bool} : gIsN false ((trs n l dbl).headD .non) .non = some (.v (.bl (trs n l dbl).isEmpty)) := by
  cases h : trs n l dbl with
  | nil => rfl
  | cons d r =>
    have hm : d ∈ trs n l dbl := by rw [h]; exact List.mem_cons_self
    unfold trs at hm
    simp only [List.mem_flatMap, List.mem_map] at hm
    obtain ⟨i, _, j, _, rfl⟩ := hm
    rfl
theorem single_trouble_ok (h : PlanOk n p) : f_single_trouble [.v (.int n), .v (plD p)] S = .ok (.v ((trs n p.flatten false).headD .non)) S := by
  unfold f_single_trouble
  rw [mkFn_ap (np := 2) rfl]
  refine leave_wx ?_
  unfold body_single_trouble
  simp [check_plan_ok h, trouble_ok (S := S) (dbl := false) (by have := h.n60; omega : n ≤ 1000) h.few]
theorem double_trouble_ok (h : PlanOk n p) : f_double_trouble [.v (.int n), .v (plD p)] S = .ok (.v ((trs n p.flatten true).headD .non)) S := by
  unfold f_double_trouble
  rw [mkFn_ap (np := 2) rfl]
  refine leave_wx ?_
  unfold body_double_trouble
  simp [check_plan_ok h, trouble_ok (S := S) (dbl := true) (by have := h.n60; omega : n ≤ 1000) h.few]
theorem is_single_ok (h : PlanOk n p) : f_is_single [.v (.int n), .v (plD p)] S = .ok (.v (.bl (trs n p.flatten false).isEmpty)) S := by
  unfold f_is_single
  rw [mkFn_ap (np := 2) rfl]
  refine leave_wx ?_
  unfold body_is_single
  have := trs_head (n := n) (l := p.flatten) (dbl := false)
  simp only [List.headD_eq_head?_getD] at this
  simp [check_plan_ok h, trouble_ok (S := S) (dbl := false) (by have := h.n60; omega : n ≤ 1000) h.few, this]
theorem is_double_ok (h : PlanOk n p) : f_is_double [.v (.int n), .v (plD p)] S = .ok (.v (.bl (trs n p.flatten true).isEmpty)) S := by
  unfold f_is_double
  rw [mkFn_ap (np := 2) rfl]
  refine leave_wx ?_
  unfold body_is_double
  have := trs_head (n := n) (l := p.flatten) (dbl := true)
  simp only [List.headD_eq_head?_getD] at this
  simp [check_plan_ok h, trouble_ok (S := S) (dbl := true) (by have := h.n60; omega : n ≤ 1000) h.few, this]
def least (n : Nat) : Nat := if n % 2 = 0 then n - 1 else n
def full (n : Nat) (p : List (List (Int × Int))) : Bool := if (trs n p.flatten false).isEmpty then decide (p.length = least n) else (trs n p.flatten true).isEmpty && decide (p.length = 2 * least n)
theorem is_full_ok (h : PlanOk n p) : f_is_full [.v (.int n), .v (plD p)] S = .ok (.v (.bl (full n p))) S := by
  unfold f_is_full
  rw [mkFn_ap (np := 2) rfl]
  refine leave_wx ?_
  unfold body_is_full
  have hn : n ≤ 1000 := by have := h.n60; omega
  have h2 := h.n2
  refine wx_to (ρ' := [some (.v (.int n)), some (.v (plD p)), none]) (S' := S) (by simp [check_plan_ok h]) ?_
  refine wx_to (ρ' := [some (.v (.int n)), some (.v (plD p)), some (.v (.int (least n)))]) (S' := S) ?_ ?_
  · by_cases e : n % 2 = 0
    · have e' : (n : Int) % 2 = 0 := by omega
      have e2 : (n : Int) - 1 = ((n - 1 : Nat) : Int) := by omega
      simp [gMod2, e', least, e, e2]
    · have e' : ¬ (n : Int) % 2 = 0 := by omega
      simp [gMod2, e', least, e]
  · have t1 := trs_head (n := n) (l := p.flatten) (dbl := false)
    have t2 := trs_head (n := n) (l := p.flatten) (dbl := true)
    simp only [List.headD_eq_head?_getD] at t1 t2
    have m1 := trouble_ok (S := S) (dbl := false) hn h.few
    have m2 := trouble_ok (S := S) (dbl := true) hn h.few
    have hm : gMulA (.int 2) (.int (least n)) = some (.v (.int ((2 * least n : Nat) : Int))) := by
      show gMulI _ _ = _
      rw [gMulI_l (by decide)]
      congr 3
    have q1 : ((p.length : Int) = (least n : Int)) ↔ p.length = least n := by omega
    have q2 : ((p.length : Int) = 2 * (least n : Int)) ↔ p.length = 2 * least n := by omega
    have hpl : g1 lenD [plD p] = some (.v (.int p.length)) := by simp [plD]
    cases e1 : (trs n p.flatten false).isEmpty with
    | true =>
      rw [e1] at t1
      simp [m1, t1, full, e1, hpl, q1]
    | false =>
      rw [e1] at t1
      cases e3 : (trs n p.flatten true).isEmpty with
      | true =>
        rw [e3] at t2
        simp [m1, t1, m2, t2, full, e1, e3, hpl, hm, q2]
      | false =>
        rw [e3] at t2
        simp [m1, t1, m2, t2, full, e1, e3, hpl, hm]
theorem mem_trs {l : List (Int × Int)} {dbl : Bool} {w : PySem.Str} {i j : Int} : trD w i j ∈ trs n l dbl ↔ (0 ≤ i ∧ i < n) ∧ (0 ≤ j ∧ j < n) ∧ bad l dbl i j = true ∧ w = word (many l dbl i j) := by
  unfold trs
  simp only [List.mem_flatMap, List.mem_map, List.mem_filter, mem_ups]
  constructor
  · rintro ⟨i', hi, j', ⟨hj, hb⟩, e⟩
    unfold trD at e
    simp only [D.tup.injEq, List.cons.injEq, D.str.injEq, D.int.injEq, and_true] at e
    obtain ⟨e1, rfl, rfl⟩ := e
    exact ⟨hi, hj, hb, e1.symm⟩
  · rintro ⟨hi, hj, hb, rfl⟩
    exact ⟨i, hi, j, ⟨hj, hb⟩, rfl⟩
theorem not_mem_trs {l : List (Int × Int)} {dbl : Bool} {ds : List D} (h : ds.length ≠ 3) : D.tup ds ∉ trs n l dbl := by
  intro hm
  unfold trs at hm
  simp only [List.mem_flatMap, List.mem_map] at hm
  obtain ⟨i, _, j, _, e⟩ := hm
  unfold trD at e
  injection e with e
  rw [← e] at h
  simp at h
theorem tells_len {dbl : Bool} {ds : List D} (h : ds.length ≠ 3) : f_tells_trouble [.v (.int n), .v (plD p), .v (.tup ds), .v (.bl dbl)] S = .ok (.v (.bl (decide (D.tup ds ∈ trs n p.flatten dbl)))) S := by
  unfold f_tells_trouble
  rw [mkFn_ap (np := 4) rfl]
  refine leave_wx ?_
  unfold body_tells_trouble
  have h' : ¬ ((ds.length : Int) = 3) := by omega
  simp [h', not_mem_trs h]
end
end G00

namespace G00
open PySem PySem.Spec PyProof.Rows L2 M PR
section
variable {n : Nat} {p : List (List (Int × Int))} {S : Sto}
theorem lm1 : (("lacks" : PySem.Str) = "more") = False := eq_false (by decide +kernel)
theorem lm2 : (("more" : PySem.Str) = "lacks") = False := eq_false (by decide +kernel)
theorem word_in (m : Nat) : word m = "lacks" ∨ word m = "more" := by
  unfold word
  split
  · exact .inl rfl
  · exact .inr rfl
theorem in_words {w : PySem.Str} (h : PyData.strOk w = true) : gIn true (.str w) (.tup [.str "lacks", .str "more"]) = some (.v (.bl (!(decide (w = "lacks") || decide (w = "more"))))) := by
  rw [gIn_tup (pl_str h) ((pd_tup (n := 0) fun d hd => by
    simp only [List.mem_cons, List.not_mem_nil, or_false] at hd
    rcases hd with rfl | rfl
    · exact pd_str (by decide +kernel)
    · exact pd_str (by decide +kernel)).pl (by omega)), if_pos rfl]
  congr 4
  rw [Bool.eq_iff_iff]
  simp
theorem tells_tr {dbl : Bool} {w : PySem.Str} {i j : Int} (hw : PyData.strOk w = true) (hl : p.flatten.length ≤ 100000) : f_tells_trouble [.v (.int n), .v (plD p), .v (trD w i j), .v (.bl dbl)] S = .ok (.v (.bl (decide (trD w i j ∈ trs n p.flatten dbl)))) S := by
  obtain ⟨ks, vs, ec, hc⟩ := counts_ok (S := S) hl
  unfold f_tells_trouble
  rw [mkFn_ap (np := 4) rfl]
  refine leave_wx ?_
  unfold body_tells_trouble
  have hix : gIx (trD w i j) (.int 0) = some (.v (.str w)) := rfl
  by_cases hww : w = "lacks" ∨ w = "more"
  · have hb : (decide (w = "lacks") || decide (w = "more")) = true := by simpa using hww
    refine wx_to (ρ' := [some (.v (.int n)), some (.v (plD p)), some (.v (trD w i j)), some (.v (.bl dbl)), none, none, none, none, none]) (S' := S) (by
      simp [hix, in_words hw, hb]
      simp [trD]) ?_
    refine wx_to (ρ' := [some (.v (.int n)), some (.v (plD p)), some (.v (trD w i j)), some (.v (.bl dbl)), some (.v (.str w)), some (.v (.int i)), some (.v (.int j)), none, none]) (S' := S) (by simp [trD]) ?_
    have ht : mOr (mNot (mTB (mChain gLe gLt (mC (.int 0)) (mV 5) (mV 0)))) (mOr (mNot (mTB (mChain gLe gLt (mC (.int 0)) (mV 6) (mV 0)))) (mOr (mTB (mOp gEq (mV 5) (mV 6))) (mAnd (mTB (mOp gGt (mV 5) (mV 6))) (mNot (mTru (mV 3)))))) [some (.v (.int n)), some (.v (plD p)), some (.v (trD w i j)), some (.v (.bl dbl)), some (.v (.str w)), some (.v (.int i)), some (.v (.int j)), none, none] S =
        .ok (!decide ((0 ≤ i ∧ i < n) ∧ (0 ≤ j ∧ j < n) ∧ asks dbl i j = true)) S := by
      unfold asks
      by_cases h1 : 0 ≤ i <;> by_cases h2 : i < n <;> by_cases h3 : 0 ≤ j <;> by_cases h4 : j < n <;> simp [h1, h2, h3, h4, truB]
      by_cases h5 : i = j
      · subst h5
        simp
      · by_cases h6 : j < i
        · have h7 : ¬ i < j := by omega
          cases dbl <;> simp [h5, h6, h7]
        · have h7 : i < j := by omega
          simp [h5, h6, h7]
    by_cases hr : (0 ≤ i ∧ i < n) ∧ (0 ≤ j ∧ j < n) ∧ asks dbl i j = true
    · refine wx_to (ρ' := [some (.v (.int n)), some (.v (plD p)), some (.v (trD w i j)), some (.v (.bl dbl)), some (.v (.str w)), some (.v (.int i)), some (.v (.int j)), none, none]) (S' := S) (by
        rw [sIf_ap, ht, decide_eq_true hr]
        rfl) ?_
      refine wx_to (ρ' := [some (.v (.int n)), some (.v (plD p)), some (.v (trD w i j)), some (.v (.bl dbl)), some (.v (.str w)), some (.v (.int i)), some (.v (.int j)), some (.v (.fdt ks vs)), none]) (S' := S) (by simp [ec]) ?_
      have g1 := getDo_ft (S := S) (ks := ks) (vs := vs) (es := [.int i, .int j]) (k := kk (i, j)) rfl
      have hm := meetings_ok (S := S) (i := i) (j := j) hc
      have h1 := hc.at_ (i, j)
      have hm2 : (mIfE (mTru (mV 3)) (mGet2 (mV 7) (mTup (mCons (mV 5) (mCons (mV 6) mNil))) (mC (.int 0))) (mCall f_meetings (mCons (mV 7) (mCons (mV 5) (mCons (mV 6) mNil))))) [some (.v (.int n)), some (.v (plD p)), some (.v (trD w i j)), some (.v (.bl dbl)), some (.v (.str w)), some (.v (.int i)), some (.v (.int j)), some (.v (.fdt ks vs)), none] S = .ok (.v (.int (many p.flatten dbl i j : Nat))) S := by
        cases dbl <;> simp [truB, g1, h1, hm, many]
      refine wx_to (ρ' := [some (.v (.int n)), some (.v (plD p)), some (.v (trD w i j)), some (.v (.bl dbl)), some (.v (.str w)), some (.v (.int i)), some (.v (.int j)), some (.v (.fdt ks vs)), some (.v (.int (many p.flatten dbl i j : Nat)))]) (S' := S) (by rw [sSet_ap, mFz_ap, hm2]; rfl) ?_
      have hmem : trD w i j ∈ trs n p.flatten dbl ↔ (many p.flatten dbl i j ≠ 1 ∧ w = word (many p.flatten dbl i j)) := by
        rw [mem_trs]
        unfold bad
        simp [hr]
      rcases hww with rfl | rfl
      · have : trD "lacks" i j ∈ trs n p.flatten dbl ↔ (many p.flatten dbl i j : Int) = 0 := by
          rw [hmem]
          unfold word
          by_cases h0 : many p.flatten dbl i j = 0
          · simp [h0]
          · simp [h0, lm1]
        simp [this]
      · have : trD "more" i j ∈ trs n p.flatten dbl ↔ 1 < (many p.flatten dbl i j : Int) := by
          rw [hmem]
          unfold word
          by_cases h0 : many p.flatten dbl i j = 0
          · simp [h0, lm2]
          · simp [h0]
            omega
        simp [this, lm2]
    · have hno : trD w i j ∉ trs n p.flatten dbl := by
        rw [mem_trs]
        rintro ⟨a, b, c, _⟩
        refine hr ⟨a, b, ?_⟩
        unfold bad at c
        rw [Bool.and_eq_true] at c
        exact c.1
      refine wx_seq ?_
      rw [sIf_ap, ht, decide_eq_false hr]
      simp [hno]
  · have hb : (decide (w = "lacks") || decide (w = "more")) = false := by
      rw [Bool.eq_false_iff]
      intro h
      exact hww (by simpa using h)
    have hno : trD w i j ∉ trs n p.flatten dbl := by
      rw [mem_trs]
      rintro ⟨_, _, _, e⟩
      exact hww (e ▸ word_in _)
    refine wx_seq ?_
    simp [hix, in_words hw, hb, hno]
    simp [trD]
end
end G00

namespace G00
open PySem PySem.Spec PyProof.Rows L2 M PR
@[simp] theorem arK_ap {S : Sto} {xs : List Val} : arK S xs = dats xs := rfl
@[simp] theorem hApp_ap {ds : List D} {d : D} : hApp ds [d] = if ds.length < lim then some (ds ++ [d], .non) else none := rfl
/-! ### patterns -/
def ent (t : Int) (gs : List (Int × Int)) : Int := if t ∈ gs.map (·.1) then 0 else if t ∈ gs.map (·.2) then 1 else 2
def pat (p : List (List (Int × Int))) (t : Int) : List Int := p.map (ent t)
theorem ent_add {t : Int} {gs : List (Int × Int)} {g : Int × Int} (h : (teams (gs ++ [g])).Nodup) : ent t (gs ++ [g]) = if t = g.1 ∨ t = g.2 then (if t = g.1 then 0 else 1) else ent t gs := by
  unfold teams at h
  rw [List.flatMap_append, List.nodup_append] at h
  obtain ⟨_, h2, h3⟩ := h
  simp only [List.flatMap_cons, List.flatMap_nil, List.append_nil] at h2 h3
  have hout : ∀ x, x = g.1 ∨ x = g.2 → x ∉ gs.map (·.1) ∧ x ∉ gs.map (·.2) := fun x hx => by
    constructor
    · intro hm
      obtain ⟨g', hg', rfl⟩ := List.mem_map.mp hm
      exact h3 g'.1 (List.mem_flatMap.mpr ⟨g', hg', by simp⟩) g'.1 (by simpa using hx) rfl
    · intro hm
      obtain ⟨g', hg', rfl⟩ := List.mem_map.mp hm
      exact h3 g'.2 (List.mem_flatMap.mpr ⟨g', hg', by simp⟩) g'.2 (by simpa using hx) rfl
  have m1 : t ∈ (gs ++ [g]).map (·.1) ↔ t ∈ gs.map (·.1) ∨ t = g.1 := by
    rw [List.map_append, List.mem_append]
    simp only [List.map_cons, List.map_nil, List.mem_singleton]
  have m2 : t ∈ (gs ++ [g]).map (·.2) ↔ t ∈ gs.map (·.2) ∨ t = g.2 := by
    rw [List.map_append, List.mem_append]
    simp only [List.map_cons, List.map_nil, List.mem_singleton]
  unfold ent
  simp only [m1, m2]
  by_cases h1 : t = g.1
  · simp only [eq_true h1, or_true, true_or, if_true]
  · by_cases h4 : t = g.2
    · obtain ⟨a, b⟩ := hout t (.inr h4)
      simp only [eq_false h1, eq_true h4, eq_false a, or_true, or_false, if_true, if_false]
    · simp only [eq_false h1, eq_false h4, or_false, if_false]
theorem in_pair {t a b : Int} (ht : 0 ≤ t ∧ t ≤ 1000) (ha : 0 ≤ a ∧ a ≤ 1000) (hb : 0 ≤ b ∧ b ≤ 1000) : gIn false (.int t) (.tup [.int a, .int b]) = some (.v (.bl (decide (t = a ∨ t = b)))) := by
  rw [gIn_tup (pl_int (by omega)) ((pd_tup (n := 0) fun d hd => by
    simp only [List.mem_cons, List.not_mem_nil, or_false] at hd
    rcases hd with rfl | rfl
    · exact pd_int (by omega)
    · exact pd_int (by omega)).pl (by omega)), if_neg Bool.false_ne_true]
  congr 3
  rw [decide_eq_decide]
  simp
theorem pattern_of_ok {n t : Int} {p : List (List (Int × Int))} {S : Sto} (h : ∀ gs ∈ p, RoundOk n gs) (hn : n ≤ 1000) (ht : 0 ≤ t ∧ t ≤ 1000) (hl : p.length ≤ 1000) : f_pattern_of [.v (plD p), .v (.int t)] S = .ok (.v (.tup ((pat p t).map D.int))) S := by
  unfold f_pattern_of
  rw [mkFn_ap (np := 2) rfl]
  refine leave_wx ?_
  unfold body_pattern_of
  refine wx_to (ρ' := [some (.v (plD p)), some (.v (.int t)), some (.l S.length), none, none, none, none]) (S' := S ++ [some (.li [])]) (by simp) ?_
  refine wx_via (fun ρ S' => ∃ a b c d, ρ = [some (.v (plD p)), some (.v (.int t)), some (.l S.length), a, b, c, d] ∧ S' = S ++ [some (.li ((pat p t).map D.int))]) ?_ ?_
  · refine wx_for (f := rdD) (xs := p) (fun pre ρ S' => ∃ a b c d, ρ = [some (.v (plD p)), some (.v (.int t)), some (.l S.length), a, b, c, d] ∧ S' = S ++ [some (.li ((pat pre t).map D.int))]) (itA_tup rfl) ⟨none, none, none, none, rfl, rfl⟩ ?_ fun ρ S h => h
    rintro pre gs post ρ S' ep ⟨a, b, c, d, rfl, rfl⟩
    rw [turn_name]
    have hgs : RoundOk n gs := h gs (by rw [ep]; simp)
    refine wt_to (ρ' := [some (.v (plD p)), some (.v (.int t)), some (.l S.length), some (.v (rdD gs)), some (.v (.int 2)), c, d]) rfl ?_
    refine wt_via (fun ρ S' => ∃ c d, ρ = [some (.v (plD p)), some (.v (.int t)), some (.l S.length), some (.v (rdD gs)), some (.v (.int (ent t gs))), c, d] ∧ S' = S ++ [some (.li ((pat pre t).map D.int))]) ?_ ?_
    · refine wx_for (f := gmP) (xs := gs) (fun pre2 ρ S' => ∃ c d, ρ = [some (.v (plD p)), some (.v (.int t)), some (.l S.length), some (.v (rdD gs)), some (.v (.int (ent t pre2))), c, d] ∧ S' = S ++ [some (.li ((pat pre t).map D.int))]) (itA_tup rfl) ⟨c, d, rfl, rfl⟩ ?_ fun ρ S h => h
      rintro pre2 g post2 ρ S' ep2 ⟨c, d, rfl, rfl⟩
      have hg := hgs.gm (g := g) (by rw [ep2]; simp)
      have hi := in_pair (a := g.1) (b := g.2) ht ⟨hg.1, by omega⟩ ⟨hg.2.2.1, by omega⟩
      have hnd : (teams (pre2 ++ [g])).Nodup := by
        have := hgs.nd
        rw [ep2] at this
        refine this.sublist ?_
        unfold teams
        rw [List.flatMap_append, List.flatMap_append]
        refine List.Sublist.append (List.Sublist.refl _) ?_
        simp only [List.flatMap_cons, List.flatMap_nil, List.append_nil]
        exact List.sublist_append_left _ _
      have e := ent_add (t := t) hnd
      simp only [turn, gmP, gT_ap, gsC_ap, gN_ap, gsN_ap, List.length_cons, List.length_nil, bind_ok, List.set_cons_succ, List.set_cons_zero]
      by_cases h1 : t = g.1
      · have hi2 : gIn false (.int t) (.tup [.int g.1, .int g.2]) = some (.v (.bl true)) := by
          rw [hi, decide_eq_true (.inl h1)]
        rw [if_pos (.inl h1), if_pos h1] at e
        simp [hi2, eq_true h1, e]
      · by_cases h2 : t = g.2
        · have hi2 : gIn false (.int t) (.tup [.int g.1, .int g.2]) = some (.v (.bl true)) := by
            rw [hi, decide_eq_true (.inr h2)]
          rw [if_pos (.inr h2), if_neg h1] at e
          simp [hi2, eq_false h1, e]
        · have hi2 : gIn false (.int t) (.tup [.int g.1, .int g.2]) = some (.v (.bl false)) := by
            rw [hi, decide_eq_false (fun z => z.elim h1 h2)]
          rw [if_neg (fun z => z.elim h1 h2)] at e
          simp [hi2, e]
    · rintro ρ S' ⟨c, d, rfl, rfl⟩
      have hlt : pre.length < lim := lt_lim (by rw [ep] at hl; simp at hl; omega)
      simp [pat, hlt]
  · rintro ρ S' ⟨a, b, c, d, rfl, rfl⟩
    simp
end G00

namespace G00
open PySem PySem.Spec PyProof.Rows L2 M PR
/-! ### breaks -/
theorem idx_split {es : List Int} {pre post : List (Int × Nat)} {x : Int × Nat} (h : es.zipIdx = pre ++ x :: post) : x.2 = pre.length ∧ es = pre.map (·.1) ++ x.1 :: post.map (·.1) ∧ es.take pre.length = pre.map (·.1) := by
  have h1 : es = pre.map (·.1) ++ x.1 :: post.map (·.1) := by
    have := congrArg (List.map Prod.fst) h
    rw [List.zipIdx_map_fst] at this
    simpa using this
  refine ⟨?_, h1, ?_⟩
  · have h2 : (es.zipIdx)[pre.length]? = some x := by rw [h]; simp
    rw [List.getElem?_zipIdx] at h2
    cases h3 : es[pre.length]? with
    | none => rw [h3] at h2; cases h2
    | some y =>
      rw [h3] at h2
      cases h2
      simp
  · conv => lhs; rw [h1]
    have : pre.length = (pre.map (·.1)).length := by simp
    rw [this, List.take_left']
    rfl
def lastOf (l : List Int) : Int := (l.filter fun e => !decide (e = 2)).getLast?.getD 2
theorem lastOf_add {l : List Int} {e : Int} : lastOf (l ++ [e]) = if e = 2 then lastOf l else e := by
  unfold lastOf
  rw [List.filter_append]
  by_cases h : e = 2 <;> simp [h]
def isBrk (es : List Int) (q : Int × Nat) : Bool := !decide (q.1 = 2) && decide (lastOf (es.take q.2) = q.1)
def brk (es : List Int) : List Int := (es.zipIdx.filter (isBrk es)).map fun q => (q.2 : Int)
theorem numD_ints {es : List Int} : numD' (es.map D.int) = es.zipIdx.map fun q => .tup [.int (q.2 : Nat), .int q.1] := by
  unfold numD'
  apply List.ext_getElem?
  intro i
  rw [List.getElem?_zipWith, List.getElem?_map, List.getElem?_map, List.getElem?_zipIdx]
  cases h : es[i]? with
  | none => cases (List.range (es.map D.int).length)[i]? <;> simp
  | some e =>
    have hi : i < es.length := (List.getElem?_eq_some_iff.mp h).1
    rw [List.getElem?_range (by simpa using hi)]
    simp
theorem breaks_in_ok {es : List Int} {S : Sto} (hl : es.length ≤ 1000) : f_breaks_in [.v (.tup (es.map D.int))] S = .ok (.v (.tup ((brk es).map D.int))) S := by
  unfold f_breaks_in
  rw [mkFn_ap (np := 1) rfl]
  refine leave_wx ?_
  unfold body_breaks_in
  refine wx_to (ρ' := [some (.v (.tup (es.map D.int))), some (.l S.length), none, none, none]) (S' := S ++ [some (.li [])]) (by simp) ?_
  refine wx_to (ρ' := [some (.v (.tup (es.map D.int))), some (.l S.length), some (.v (.int 2)), none, none]) (S' := S ++ [some (.li [])]) (by simp) ?_
  refine wx_via (fun ρ S' => ∃ b c d, ρ = [some (.v (.tup (es.map D.int))), some (.l S.length), b, c, d] ∧ S' = S ++ [some (.li ((brk es).map D.int))]) ?_ ?_
  · refine wx_for (f := fun q : Int × Nat => .tup [.int (q.2 : Nat), .int q.1]) (xs := es.zipIdx) (fun pre ρ S' => ∃ c d, ρ = [some (.v (.tup (es.map D.int))), some (.l S.length), some (.v (.int (lastOf (pre.map (·.1))))), c, d] ∧ S' = S ++ [some (.li ((pre.filter (isBrk es)).map fun q => .int (q.2 : Nat)))])
      (by simp [← numD_ints]) ⟨none, none, rfl, rfl⟩ ?_ ?_
    · rintro pre q post ρ S' ep ⟨c, d, rfl, rfl⟩
      obtain ⟨e1, e2, e3⟩ := idx_split ep
      have hlt : (pre.filter (isBrk es)).length < lim := by
        have h1 := List.length_filter_le (isBrk es) pre
        have h2 : pre.length < es.length := by rw [e2]; simp
        exact lt_lim (by omega)
      have eb : isBrk es q = (!decide (q.1 = 2) && decide (lastOf (pre.map (·.1)) = q.1)) := by
        unfold isBrk
        rw [e1, e3]
      have ea := lastOf_add (l := pre.map (·.1)) (e := q.1)
      simp only [turn, gT_ap, gsC_ap, gN_ap, gsN_ap, List.length_cons, List.length_nil, bind_ok, List.set_cons_succ, List.set_cons_zero]
      by_cases h2 : q.1 = 2
      · rw [if_pos h2] at ea
        simp [h2, ea, eb]
        rw [h2] at ea
        exact ea.symm
      · rw [if_neg h2] at ea
        by_cases h3 : lastOf (pre.map (·.1)) = q.1
        · have h3' : q.1 = lastOf (pre.map (·.1)) := h3.symm
          simp [h2, eb, ea, hlt, eq_true h3', eq_true h3]
        · have h3' : ¬ q.1 = lastOf (pre.map (·.1)) := fun z => h3 z.symm
          simp [h2, h3, h3', ea, eb]
    · rintro ρ S' ⟨c, d, rfl, rfl⟩
      refine ⟨_, c, d, rfl, ?_⟩
      unfold brk
      rw [List.map_map]
      rfl
  · rintro ρ S' ⟨b, c, d, rfl, rfl⟩
    simp
end G00

namespace G00
open PySem PySem.Spec PyProof.Rows L2 M PR
theorem gIx_tupA {ds : List D} {i : Nat} {d : D} (h : ds[i]? = some d) : gIx (.tup ds) (.int (i : Nat)) = some (.v d) := by
  show (L2.atI ds (i : Int)).map _ = _
  rw [L2.atI_nat h]
  rfl
theorem gIx_lstA {ds : List D} {i : Nat} {d : D} (h : ds[i]? = some d) : gIx (.lst ds) (.int (i : Nat)) = some (.v d) := by
  show (L2.atI ds (i : Int)).map _ = _
  rw [L2.atI_nat h]
  rfl
theorem gIx_lastA {ds : List D} {d : D} (h : ds.getLast? = some d) : gIx (.lst ds) (.int (-1)) = some (.v d) := by
  obtain ⟨xs, rfl⟩ := List.getLast?_eq_some_iff.mp h
  show (L2.atI (xs ++ [d]) (-1)).map _ = _
  rw [L2.atI_last]
  rfl
theorem idx_ups {es : List Int} : (ups es.length) = es.zipIdx.map fun q => (q.2 : Int) := by
  unfold ups
  apply List.ext_getElem?
  intro i
  rw [List.getElem?_map, List.getElem?_map, List.getElem?_zipIdx]
  cases h : es[i]? with
  | none =>
    have : es.length ≤ i := List.getElem?_eq_none_iff.mp h
    rw [List.getElem?_eq_none (by simpa using this)]
    rfl
  | some e =>
    have hi : i < es.length := (List.getElem?_eq_some_iff.mp h).1
    rw [List.getElem?_range hi]
    simp
theorem law_breaks_ok {es : List Int} {S : Sto} (hl : es.length ≤ 1000) : f__law_breaks [.v (.tup (es.map D.int))] S = .ok (.v (.tup ((brk es).map D.int))) S := by
  unfold f__law_breaks
  rw [mkFn_ap (np := 1) rfl]
  refine leave_wx ?_
  unfold body__law_breaks
  refine wx_to (ρ' := [some (.v (.tup (es.map D.int))), some (.l S.length), none, none, none]) (S' := S ++ [some (.li [])]) (by simp) ?_
  refine wx_via (fun ρ S' => ∃ b c d, ρ = [some (.v (.tup (es.map D.int))), some (.l S.length), b, c, d] ∧ S' = S ++ [some (.li ((brk es).map D.int))]) ?_ ?_
  · refine wx_for (f := fun q : Int × Nat => .int (q.2 : Nat)) (xs := es.zipIdx) (fun pre ρ S' => ∃ b c, ρ = [some (.v (.tup (es.map D.int))), some (.l S.length), b, c, none] ∧ S' = S ++ [some (.li ((pre.filter (isBrk es)).map fun q => .int (q.2 : Nat)))])
      (by
        have := rng1_ups (n := es.length) (S := S ++ [some (.li [])]) (by omega)
        rw [idx_ups, List.map_map] at this
        have e : mCons (mB (g1 lenD) (mCons (mV 0) mNil)) mNil [some (.v (.tup (es.map D.int))), some (.l S.length), none, none, none] (S ++ [some (.li [])]) = .ok [.v (.int es.length)] (S ++ [some (.li [])]) := by simp
        rw [mRng_ap, e]
        exact this) ⟨none, none, rfl, rfl⟩ ?_ ?_
    · rintro pre q post ρ S' ep ⟨b, c, rfl, rfl⟩
      obtain ⟨e1, e2, e3⟩ := idx_split ep
      have hlen : pre.length < es.length := by rw [e2]; simp
      have hlt : (pre.filter (isBrk es)).length < lim := by
        have h1 := List.length_filter_le (isBrk es) pre
        exact lt_lim (by omega)
      have eb : isBrk es q = (!decide (q.1 = 2) && decide (lastOf (pre.map (·.1)) = q.1)) := by
        unfold isBrk
        rw [e1, e3]
      have hat : (es.map D.int)[q.2]? = some (.int q.1) := by
        rw [e1, List.getElem?_map]
        have : es[pre.length]? = some q.1 := by
          conv => lhs; rw [e2]
          simp
        rw [this]
        rfl
      have hix := gIx_tupA hat
      rw [turn_name]
      let ah := (pre.map (·.1)).filter fun e => !decide (e = 2)
      have hcut : gSl none (some (q.2 : Int)) (.tup (es.map D.int)) = some (.v (.tup ((pre.map (·.1)).map D.int))) := by
        show some (Val.v (.tup (cutD (es.map D.int) none (some (q.2 : Int))))) = _
        rw [cut_to (by simp; omega), ← List.map_take, e1, e3]
      refine wt_to (ρ' := [some (.v (.tup (es.map D.int))), some (.l S.length), some (.v (.int (q.2 : Nat))), some (.v (.lst (ah.map D.int))), none]) (S' := S ++ [some (.li ((pre.filter (isBrk es)).map fun q => .int (q.2 : Nat)))]) ?_ ?_
      · rw [sSet_ap, mFz_ap, lcv (S := S ++ [some (.li ((pre.filter (isBrk es)).map fun q => .int (q.2 : Nat)))]) (f := D.int) (F := D.int) (p := fun e => !decide (e = 2)) (xs := pre.map (·.1)) (itA_ofT (by simp [hcut])) (lim1 (by simp; omega)) fun x hx => ⟨_, rfl, by simp [wipeM], fun _ => by simp [wipeM]⟩]
        rfl
      · have hla : lastOf (pre.map (·.1)) = ah.getLast?.getD 2 := rfl
        cases hc : ah.getLast? with
        | none =>
          have hn : ah = [] := List.getLast?_eq_none_iff.mp hc
          rw [hc] at hla
          have hbr : isBrk es q = false := by
            rw [eb, hla]
            by_cases h2 : q.1 = 2
            · simp [h2]
            · have : ¬ (2 : Int) = q.1 := fun z => h2 z.symm
              simp [this]
          rw [hn]
          by_cases h2 : q.1 = 2
          · simp [hix, h2, hbr]
          · simp [hix, h2, hbr, truB]
        | some e =>
          rw [hc] at hla
          have hne : (ah.map D.int).isEmpty = false := by
            cases ha : ah with
            | nil => rw [ha] at hc; cases hc
            | cons a r => rfl
          have hgl : gIx (.lst (ah.map D.int)) (.int (-1)) = some (.v (.int e)) := gIx_lastA (by rw [List.getLast?_map, hc]; rfl)
          have hla2 : lastOf (pre.map (·.1)) = e := hla
          rw [hla2] at eb
          by_cases h2 : q.1 = 2
          · simp [h2] at eb
            simp [hix, h2, eb]
          · by_cases h3 : e = q.1
            · have hbr : isBrk es q = true := by rw [eb]; simp [h2, h3]
              simp [hix, h2, hbr, truB, hne, hgl, h3, hlt]
            · have hbr : isBrk es q = false := by rw [eb]; simp [h3]
              simp [hix, h2, hbr, truB, hne, hgl, h3]
    · rintro ρ S' ⟨b, c, rfl, rfl⟩
      refine ⟨b, c, none, rfl, ?_⟩
      unfold brk
      rw [List.map_map]
      rfl
  · rintro ρ S' ⟨b, c, d, rfl, rfl⟩
    simp
end G00

namespace G00
open PySem PySem.Spec PyProof.Rows L2 M PR
theorem in_ints {t : Int} {ns : List Int} (ht : 0 ≤ t ∧ t ≤ 1000) (h : ∀ x ∈ ns, 0 ≤ x ∧ x ≤ 1000) : gIn false (.int t) (.lst (ns.map D.int)) = some (.v (.bl (decide (t ∈ ns)))) := by
  rw [gIn_lst (pl_int (by omega)) ((pd_lst (n := 0) fun d hd => by
    obtain ⟨x, hx, rfl⟩ := List.mem_map.mp hd
    have := h x hx
    exact pd_int (by omega)).pl (by omega)), if_neg Bool.false_ne_true]
  congr 3
  rw [decide_eq_decide]
  constructor
  · intro hm
    obtain ⟨x, hx, e⟩ := List.mem_map.mp hm
    cases e
    exact hx
  · exact fun hm => List.mem_map.mpr ⟨t, hm, rfl⟩
theorem law_pattern_ok {n t : Int} {p : List (List (Int × Int))} {S : Sto} (h : ∀ gs ∈ p, RoundOk n gs) (hn : n ≤ 1000) (ht : 0 ≤ t ∧ t ≤ 1000) (hl : p.length ≤ 1000) : f__law_pattern [.v (plD p), .v (.int t)] S = .ok (.v (.tup ((pat p t).map D.int))) S := by
  unfold f__law_pattern
  rw [mkFn_ap (np := 2) rfl]
  refine leave_wx ?_
  unfold body__law_pattern
  rw [sRet_ap, lcTup (S := S) (f := rdD) (F := fun gs => .int (ent t gs)) (xs := p) (itA_tup rfl) (lim1 (by omega)) fun gs hg => ⟨_, rfl, ?_⟩]
  · simp [pat]
  · have hr := h gs hg
    have hlen := hr.len
    have a1 : mLC (mItA (mV 2)) (pT 2 (psC (pN 3) (psC (pN 4) psN))) mYes (mV 3) [3, 4] [some (.v (plD p)), some (.v (.int t)), some (.v (rdD gs)), none, none] S = .ok (.n (.li ((gs.map (·.1)).map D.int))) S := by
      rw [lcm (f := gmP) (F := fun g => .int g.1) (xs := gs) (itA_tup rfl) (lim1 (by omega)) fun g hg => ⟨_, rfl, rfl⟩, List.map_map]
      rfl
    have a2 : mLC (mItA (mV 2)) (pT 2 (psC (pN 3) (psC (pN 4) psN))) mYes (mV 4) [3, 4] [some (.v (plD p)), some (.v (.int t)), some (.v (rdD gs)), none, none] S = .ok (.n (.li ((gs.map (·.2)).map D.int))) S := by
      rw [lcm (f := gmP) (F := fun g => .int g.2) (xs := gs) (itA_tup rfl) (lim1 (by omega)) fun g hg => ⟨_, rfl, rfl⟩, List.map_map]
      rfl
    have i1 := in_ints (ns := gs.map (·.1)) ht fun x hx => by
      obtain ⟨g, hg, rfl⟩ := List.mem_map.mp hx
      have := hr.gm hg
      omega
    have i2 := in_ints (ns := gs.map (·.2)) ht fun x hx => by
      obtain ⟨g, hg, rfl⟩ := List.mem_map.mp hx
      have := hr.gm hg
      omega
    show mIfE _ _ _ [some (.v (plD p)), some (.v (.int t)), some (.v (rdD gs)), none, none] S = _
    unfold ent
    by_cases h1 : t ∈ gs.map (·.1)
    · rw [decide_eq_true h1] at i1
      rw [if_pos h1]
      simp only [mIfE_ap, mTB_ap, mOp_ap, a1, mV_ap, bind_ok, ap2_ap, pk_v, pk_n, obD_li, i1, asB_ok1, if_true, mC_ap, List.getElem?_cons_succ, List.getElem?_cons_zero]
    · rw [decide_eq_false h1] at i1
      rw [if_neg h1]
      by_cases h2 : t ∈ gs.map (·.2)
      · rw [decide_eq_true h2] at i2
        rw [if_pos h2]
        simp only [mIfE_ap, mTB_ap, mOp_ap, a1, a2, mV_ap, bind_ok, ap2_ap, pk_v, pk_n, obD_li, i1, i2, asB_ok1, if_true, mC_ap, List.getElem?_cons_succ, List.getElem?_cons_zero, if_neg Bool.false_ne_true]
      · rw [decide_eq_false h2] at i2
        rw [if_neg h2]
        simp only [mIfE_ap, mTB_ap, mOp_ap, a1, a2, mV_ap, bind_ok, ap2_ap, pk_v, pk_n, obD_li, i1, i2, asB_ok1, if_true, mC_ap, List.getElem?_cons_succ, List.getElem?_cons_zero, if_neg Bool.false_ne_true]
/-- the games, one after the other -/
def gms (p : List (List (Int × Int))) : List D := p.flatten.map gmP
theorem gms_add {p : List (List (Int × Int))} {gs : List (Int × Int)} : gms (p ++ [gs]) = gms p ++ gs.map gmP := by simp [gms]
theorem gms_len {p : List (List (Int × Int))} : (gms p).length = p.flatten.length := by unfold gms; rw [List.length_map]
theorem law_games_ok {p : List (List (Int × Int))} {S : Sto} (hl : p.flatten.length ≤ 100000) : f__law_games [.v (plD p)] S = .ok (.v (.lst (gms p))) S := by
  unfold f__law_games
  rw [mkFn_ap (np := 1) rfl]
  refine leave_wx ?_
  unfold body__law_games
  refine wx_to (ρ' := [some (.v (plD p)), some (.v (.lst [])), none]) (S' := S) (by simp) ?_
  refine wx_via (fun ρ S' => ∃ b, ρ = [some (.v (plD p)), some (.v (.lst (gms p))), b] ∧ S' = S) ?_ ?_
  · refine wx_for (f := rdD) (xs := p) (fun pre ρ S' => ∃ b, ρ = [some (.v (plD p)), some (.v (.lst (gms pre))), b] ∧ S' = S) (itA_tup rfl) ⟨none, rfl, rfl⟩ ?_ fun ρ S h => h
    rintro pre gs post ρ S' ep ⟨b, rfl, rfl⟩
    rw [turn_name]
    have hle : (gms pre).length + (gs.map gmP).length ≤ lim := by
      rw [gms_len, List.length_map]
      rw [ep, List.flatten_append, List.length_append, List.flatten_cons, List.length_append] at hl
      exact lim1 (by omega)
    have ha := gAdd_lst hle
    have : g1 listD [rdD gs] = some (.n (.li (gs.map gmP))) := rfl
    simp [this, ha, gms_add]
  · rintro ρ S' ⟨b, rfl, rfl⟩
    simp
end G00

namespace G00
open PySem PySem.Spec PyProof.Rows L2 M PR
theorem cnt_gms {p : List (List (Int × Int))} {g : Int × Int} : (gms p).countP (fun z => decide (z = gmP g)) = p.flatten.count g := by
  unfold gms
  rw [List.countP_map]
  unfold List.count
  congr 1
  funext x
  show decide (gmP x = gmP g) = (x == g)
  rw [Bool.eq_iff_iff, decide_eq_true_eq, gmP_inj, beq_iff_eq]
/-- the troubles of i -/
def row (n : Nat) (l : List (Int × Int)) (dbl : Bool) (i : Int) : List D := ((ups n).filter (bad l dbl i)).map fun j => trD (word (many l dbl i j)) i j
theorem law_troubles_ok {n : Nat} {p : List (List (Int × Int))} {dbl : Bool} {S : Sto} (h : ∀ gs ∈ p, RoundOk n gs) (hn : n ≤ 100) (hl : p.flatten.length ≤ 100000) : f__law_troubles [.v (.int n), .v (plD p), .v (.bl dbl)] S = .ok (.v (.lst (trs n p.flatten dbl))) S := by
  have hpd : ∀ d ∈ gms p, Pd 1 d := fun d hd => by
    unfold gms at hd
    obtain ⟨g, hg, rfl⟩ := List.mem_map.mp hd
    obtain ⟨gs, hgs, hg2⟩ := List.mem_flatten.mp hg
    exact pd_gm ((h gs hgs).gm hg2) (by omega)
  have hpl : Pl (.lst (gms p)) := (pd_lst hpd).pl (by omega)
  unfold f__law_troubles
  rw [mkFn_ap (np := 3) rfl]
  refine leave_wx ?_
  unfold body__law_troubles
  refine wx_to (ρ' := [some (.v (.int n)), some (.v (plD p)), some (.v (.bl dbl)), some (.v (.lst (gms p))), none, none, none, none]) (S' := S) (by simp [law_games_ok hl]) ?_
  refine wx_to (ρ' := [some (.v (.int n)), some (.v (plD p)), some (.v (.bl dbl)), some (.v (.lst (gms p))), some (.v (.lst [])), none, none, none]) (S' := S) (by simp) ?_
  refine wx_via (fun ρ S' => ∃ a b c, ρ = [some (.v (.int n)), some (.v (plD p)), some (.v (.bl dbl)), some (.v (.lst (gms p))), some (.v (.lst (trs n p.flatten dbl))), a, b, c] ∧ S' = S) ?_ ?_
  · refine wx_for (f := D.int) (xs := ups n) (fun pre ρ S' => ∃ a b c, ρ = [some (.v (.int n)), some (.v (plD p)), some (.v (.bl dbl)), some (.v (.lst (gms p))), some (.v (.lst (pre.flatMap (row n p.flatten dbl)))), a, b, c] ∧ S' = S ∧ (pre.flatMap (row n p.flatten dbl)).length ≤ pre.length * 100) (by simp [rng1_ups (by omega : n ≤ 1000000000)]) ⟨none, none, none, rfl, rfl, by simp⟩ ?_ ?_
    · rintro pre i post ρ S' ep ⟨a, b, c, rfl, rfl, hb⟩
      have hi : 0 ≤ i ∧ i < n := mem_ups.mp (by rw [ep]; simp)
      have hpre : pre.length ≤ 100 := by
        have := congrArg List.length ep
        rw [ups_len, List.length_append] at this
        omega
      rw [turn_name]
      refine wt_of ?_
      generalize hF : pre.flatMap (row n p.flatten dbl) = F at hb
      refine wx_for (f := D.int) (xs := ups n) (fun pre2 ρ S'' => ∃ b c, ρ = [some (.v (.int n)), some (.v (plD p)), some (.v (.bl dbl)), some (.v (.lst (gms p))), some (.v (.lst (F ++ (pre2.filter (bad p.flatten dbl i)).map fun j => trD (word (many p.flatten dbl i j)) i j))), some (.v (.int i)), b, c] ∧ S'' = S') (by simp [rng1_ups (by omega : n ≤ 1000000000)]) ⟨b, c, by simp, rfl⟩ ?_ ?_
      · rintro pre2 j post2 ρ S'' ep2 ⟨b, c, rfl, rfl⟩
        have hj : 0 ≤ j ∧ j < n := mem_ups.mp (by rw [ep2]; simp)
        have hpre2 : pre2.length ≤ 100 := by
          have := congrArg List.length ep2
          rw [ups_len, List.length_append] at this
          omega
        have hf2 := List.length_filter_le (bad p.flatten dbl i) pre2
        generalize hG : ((pre2.filter (bad p.flatten dbl i)).map fun j => trD (word (many p.flatten dbl i j)) i j) = G
        have hGl : G.length ≤ 100 := by rw [← hG, List.length_map]; omega
        rw [turn_name]
        have g1' := gCnt_pl (d := gmP (i, j)) (es := gms p) ((pd_gm (n := n) (g := (i, j)) ⟨hi.1, hi.2, hj.1, hj.2⟩ (by omega)).pl (by omega)) hpl
        have g2' := gCnt_pl (d := gmP (j, i)) (es := gms p) ((pd_gm (n := n) (g := (j, i)) ⟨hj.1, hj.2, hi.1, hi.2⟩ (by omega)).pl (by omega)) hpl
        rw [cnt_gms] at g1' g2'
        unfold gmP at g1' g2'
        have hm : (mOp gAdd (mLm gCnt (mV 3) (mCons (mTup (mCons (mV 5) (mCons (mV 6) mNil))) mNil)) (mIfE (mTru (mV 2)) (mC (.int 0)) (mLm gCnt (mV 3) (mCons (mTup (mCons (mV 6) (mCons (mV 5) mNil))) mNil)))) [some (.v (.int n)), some (.v (plD p)), some (.v (.bl dbl)), some (.v (.lst (gms p))), some (.v (.lst (F ++ G))), some (.v (.int i)), some (.v (.int j)), c] S'' = .ok (.v (.int (many p.flatten dbl i j : Nat))) S'' := by
          cases dbl <;> simp [truB, g1', g2', many]
        refine wt_to (ρ' := [some (.v (.int n)), some (.v (plD p)), some (.v (.bl dbl)), some (.v (.lst (gms p))), some (.v (.lst (F ++ G))), some (.v (.int i)), some (.v (.int j)), some (.v (.int (many p.flatten dbl i j : Nat)))]) (S' := S'') (by rw [sSet_ap, mFz_ap]; show ofR (R.bind (mOp _ _ _ [some (.v (.int n)), some (.v (plD p)), some (.v (.bl dbl)), some (.v (.lst (gms p))), some (.v (.lst (F ++ G))), some (.v (.int i)), some (.v (.int j)), c] S'') _) _ _ = _; rw [hm]; rfl) ?_
        have ht : mOr (mTB (mOp gLt (mV 5) (mV 6))) (mAnd (mTru (mV 2)) (mTB (mOp gNe (mV 5) (mV 6)))) [some (.v (.int n)), some (.v (plD p)), some (.v (.bl dbl)), some (.v (.lst (gms p))), some (.v (.lst (F ++ G))), some (.v (.int i)), some (.v (.int j)), some (.v (.int (many p.flatten dbl i j : Nat)))] S'' = .ok (asks dbl i j) S'' := by
          unfold asks
          by_cases h : i < j <;> cases dbl <;> simp [h, truB]
        rw [sIf_ap, ht, ofR_ok]
        rw [List.filter_append, List.map_append, hG]
        by_cases ha : asks dbl i j = true
        · rw [if_pos ha]
          have hFG : (F ++ G).length ≤ 20000 := by rw [List.length_append]; omega
          have q0 := gAdd_lst (a := F ++ G) (b := []) (lim1 (by simp only [List.length_nil]; omega))
          have q1 : ∀ d : D, gAdd (.lst (F ++ G)) (.lst [d]) = some (.n (.li (F ++ G ++ [d]))) := fun d => gAdd_lst (lim1 (by simp only [List.length_cons, List.length_nil]; omega))
          have q2 : ∀ d : D, gAdd (.lst (F ++ G ++ [d])) (.lst []) = some (.n (.li (F ++ G ++ [d] ++ []))) := fun d => gAdd_lst (lim1 (by simp only [List.length_append, List.length_cons, List.length_nil] at hFG ⊢; omega))
          simp only [List.append_assoc, List.append_nil] at q0 q1 q2
          by_cases h0 : many p.flatten dbl i j = 0
          · have hbd : bad p.flatten dbl i j = true := by simp [bad, ha, h0]
            simp [h0, hbd, fits62, fitsN, q0, q1, q2, word, trD]
          · by_cases h1 : many p.flatten dbl i j = 1
            · have hbd : bad p.flatten dbl i j = false := by simp [bad, ha, h1]
              simp [h1, hbd, fits62, fitsN, q0, q1, q2]
            · have hbd : bad p.flatten dbl i j = true := by simp [bad, ha, h1]
              have h2 : 1 < (many p.flatten dbl i j : Int) := by omega
              have h3 : 1 < many p.flatten dbl i j := by omega
              simp [h0, h2, h3, hbd, fits62, fitsN, q0, q1, q2, word, trD]
        · rw [if_neg ha]
          have hbd : bad p.flatten dbl i j = false := by simp [bad, ha]
          simp [hbd]
      · rintro ρ S'' ⟨b, c, rfl, rfl⟩
        have er : ((ups n).filter (bad p.flatten dbl i)).map (fun j => trD (word (many p.flatten dbl i j)) i j) = row n p.flatten dbl i := rfl
        have el : (pre ++ [i]).flatMap (row n p.flatten dbl) = F ++ row n p.flatten dbl i := by simp [hF]
        refine ⟨some (.v (.int i)), b, c, by rw [er, el], rfl, ?_⟩
        rw [el, List.length_append, List.length_append]
        have : (row n p.flatten dbl i).length ≤ n := by
          unfold row
          rw [List.length_map]
          have := List.length_filter_le (bad p.flatten dbl i) (ups n)
          rwa [ups_len] at this
        simp only [List.length_cons, List.length_nil]
        omega
    · rintro ρ S' ⟨a, b, c, rfl, rfl, _⟩
      exact ⟨a, b, c, rfl, rfl⟩
  · rintro ρ S' ⟨a, b, c, rfl, rfl⟩
    simp
end G00

namespace G00
open PySem PySem.Spec PyProof.Rows L2 M PR
/-! ### runs -/
def stepR (st : Int × Int × Int) (e : Int) : Int × Int × Int := if e = 2 then st else
  ((if (if e = st.2.2 then st.2.1 + 1 else 1) > st.1 then (if e = st.2.2 then st.2.1 + 1 else 1) else st.1), (if e = st.2.2 then st.2.1 + 1 else 1), e)
def runs (l : List Int) : Int × Int × Int := l.foldl stepR (0, 0, 2)
theorem runs_add {l : List Int} {e : Int} : runs (l ++ [e]) = stepR (runs l) e := by simp [runs]
theorem run_in_ok {es : List Int} {S : Sto} : f_run_in [.v (.tup (es.map D.int))] S = .ok (.v (.int (runs es).1)) S := by
  unfold f_run_in
  rw [mkFn_ap (np := 1) rfl]
  refine leave_wx ?_
  unfold body_run_in
  refine wx_to (ρ' := [some (.v (.tup (es.map D.int))), some (.v (.int 0)), none, none, none]) (S' := S) (by simp) ?_
  refine wx_to (ρ' := [some (.v (.tup (es.map D.int))), some (.v (.int 0)), some (.v (.int 0)), none, none]) (S' := S) (by simp) ?_
  refine wx_to (ρ' := [some (.v (.tup (es.map D.int))), some (.v (.int 0)), some (.v (.int 0)), some (.v (.int 2)), none]) (S' := S) (by simp) ?_
  refine wx_via (fun ρ S' => ∃ c, ρ = [some (.v (.tup (es.map D.int))), some (.v (.int (runs es).1)), some (.v (.int (runs es).2.1)), some (.v (.int (runs es).2.2)), c] ∧ S' = S) ?_ ?_
  · refine wx_for (f := D.int) (xs := es) (fun pre ρ S' => ∃ c, ρ = [some (.v (.tup (es.map D.int))), some (.v (.int (runs pre).1)), some (.v (.int (runs pre).2.1)), some (.v (.int (runs pre).2.2)), c] ∧ S' = S) (itA_tup rfl) ⟨none, rfl, rfl⟩ ?_ fun ρ S h => h
    rintro pre e post ρ S' ep ⟨c, rfl, rfl⟩
    rw [turn_name, runs_add]
    generalize runs pre = st
    obtain ⟨m, h, l⟩ := st
    unfold stepR
    by_cases h2 : e = 2
    · simp [h2]
    · by_cases h3 : e = l
      · subst h3
        simp [h2]
      · simp [h2, h3]
  · rintro ρ S' ⟨c, rfl, rfl⟩
    simp
/-- windows of one sign -/
def Win (t : List Int) (s : Nat) : Prop := ∃ u v c, (c = 0 ∨ c = 1) ∧ t = u ++ List.replicate s c ++ v
end G00

namespace G00
open PySem PySem.Spec PyProof.Rows L2 M PR
/-! ### runs: read backwards -/
def lead (c : Int) : List Int → Nat
  | [] => 0
  | x :: r => if x = c then lead c r + 1 else 0
theorem lead_rep {c : Int} : ∀ {r v : List Int} {s : Nat}, r = List.replicate s c ++ v → s ≤ lead c r
  | _, v, 0, _ => Nat.zero_le _
  | r, v, s + 1, h => by
    rw [List.replicate_succ, List.cons_append] at h
    subst h
    show s + 1 ≤ if c = c then lead c (List.replicate s c ++ v) + 1 else 0
    rw [if_pos rfl]
    exact Nat.succ_le_succ (lead_rep rfl)
theorem rep_lead {c : Int} : ∀ {r : List Int} {s : Nat}, s ≤ lead c r → ∃ v, r = List.replicate s c ++ v
  | r, 0, _ => ⟨r, rfl⟩
  | [], s + 1, h => by simp [lead] at h
  | x :: r, s + 1, h => by
    unfold lead at h
    by_cases e : x = c
    · rw [if_pos e] at h
      obtain ⟨v, hv⟩ := rep_lead (s := s) (Nat.le_of_succ_le_succ h)
      exact ⟨v, by rw [List.replicate_succ, List.cons_append, ← hv, e]⟩
    · rw [if_neg e] at h
      omega
theorem win_cons {e : Int} {r : List Int} {s : Nat} (he : e = 0 ∨ e = 1) : Win (e :: r) s ↔ Win r s ∨ s ≤ lead e (e :: r) := by
  constructor
  · rintro ⟨u, v, c, hc, h⟩
    cases u with
    | nil =>
      cases s with
      | zero => exact .inr (Nat.zero_le _)
      | succ s =>
        have h' : e :: r = List.replicate (s + 1) c ++ v := h
        have hce : e = c := by
          rw [List.replicate_succ, List.cons_append] at h'
          injection h'
        subst hce
        exact .inr (lead_rep h')
    | cons x u =>
      left
      simp only [List.cons_append] at h
      injection h with h1 h2
      exact ⟨u, v, c, hc, h2⟩
  · rintro (⟨u, v, c, hc, rfl⟩ | h)
    · exact ⟨e :: u, v, c, hc, rfl⟩
    · obtain ⟨v, hv⟩ := rep_lead h
      exact ⟨[], v, e, he, hv⟩
theorem win_nil {s : Nat} : Win [] s ↔ s ≤ 0 := by
  constructor
  · rintro ⟨u, v, c, hc, h⟩
    have := congrArg List.length h
    simp at this
    omega
  · intro h
    have : s = 0 := by omega
    subst this
    exact ⟨[], [], 0, .inl rfl, rfl⟩
theorem win_rev {t : List Int} {s : Nat} : Win t.reverse s ↔ Win t s := by
  have key : ∀ t : List Int, Win t s → Win t.reverse s := by
    rintro t ⟨u, v, c, hc, rfl⟩
    exact ⟨v.reverse, u.reverse, c, hc, by simp⟩
  exact ⟨fun h => by simpa using key _ h, key t⟩
/-- the same, backwards -/
def runsR : List Int → Int × Int × Int
  | [] => (0, 0, 2)
  | e :: r => stepR (runsR r) e
theorem runs_rev (l : List Int) : runs l = runsR l.reverse := by
  have : ∀ r : List Int, runs r.reverse = runsR r := fun r => by
    induction r with
    | nil => rfl
    | cons e r ih => rw [List.reverse_cons, runs_add, ih]; rfl
  rw [← this, List.reverse_reverse]
theorem runsR_spec : ∀ r : List Int, (∀ x ∈ r, x = 0 ∨ x = 1 ∨ x = 2) → ∃ m : Nat, (runsR r).1 = m ∧ (runsR r).2.2 = (r.filter fun e => !decide (e = 2)).head?.getD 2 ∧ (runsR r).2.1 = (lead (runsR r).2.2 (r.filter fun e => !decide (e = 2)) : Nat) ∧ ∀ s, Win (r.filter fun e => !decide (e = 2)) s ↔ s ≤ m
  | [], _ => ⟨0, rfl, rfl, rfl, fun s => win_nil⟩
  | e :: r, h => by
    obtain ⟨m, h1, h2, h3, h4⟩ := runsR_spec r fun x hx => h x (List.mem_cons_of_mem _ hx)
    have he := h e List.mem_cons_self
    have go : runsR (e :: r) = stepR (runsR r) e := rfl
    rw [go]
    generalize runsR r = st at h1 h2 h3
    obtain ⟨a, b, c⟩ := st
    simp only at h1 h2 h3
    generalize hf : (r.filter fun e => !decide (e = 2)) = f at h2 h3 h4
    by_cases e2 : e = 2
    · have ef : (e :: r).filter (fun e => !decide (e = 2)) = f := by rw [List.filter_cons_of_neg (by simp [e2]), hf]
      rw [ef]
      unfold stepR
      rw [if_pos e2]
      exact ⟨m, h1, h2, h3, h4⟩
    · have he' : e = 0 ∨ e = 1 := by omega
      have ef : (e :: r).filter (fun e => !decide (e = 2)) = e :: f := by rw [List.filter_cons_of_pos (by simp [e2]), hf]
      rw [ef]
      unfold stepR
      rw [if_neg e2]
      have hl : (if e = c then b + 1 else 1) = ((lead e (e :: f) : Nat) : Int) := by
        have q : lead e (e :: f) = lead e f + 1 := if_pos rfl
        rw [q]
        by_cases ec : e = c
        · rw [if_pos ec, h3, ec]
          omega
        · rw [if_neg ec]
          have : lead e f = 0 := by
            cases f with
            | nil => rfl
            | cons x f =>
              have hx : c = x := h2
              show (if x = e then _ else 0) = 0
              rw [if_neg (fun z => ec (z.symm.trans hx.symm))]
          rw [this]
          rfl
      simp only [hl]
      refine ⟨if lead e (e :: f) > m then lead e (e :: f) else m, ?_, rfl, trivial, fun s => ?_⟩
      · rw [h1]
        by_cases q : lead e (e :: f) > m
        · rw [if_pos q, if_pos (by omega)]
        · rw [if_neg q, if_neg (by omega)]
      · rw [win_cons he', h4]
        split <;> omega
theorem runs_spec {l : List Int} (h : ∀ x ∈ l, x = 0 ∨ x = 1 ∨ x = 2) : ∃ m : Nat, (runs l).1 = m ∧ ∀ s, Win (l.filter fun e => !decide (e = 2)) s ↔ s ≤ m := by
  obtain ⟨m, h1, _, _, h4⟩ := runsR_spec l.reverse fun x hx => h x (List.mem_reverse.mp hx)
  refine ⟨m, by rw [runs_rev]; exact h1, fun s => ?_⟩
  rw [← h4, List.filter_reverse, win_rev]
end G00

namespace G00
open PySem PySem.Spec PyProof.Rows L2 M PR
theorem win_at {t : List Int} {s : Nat} (hs : 1 ≤ s) (hl : s ≤ t.length) : Win t s ↔ ∃ a, a < t.length - s + 1 ∧ ((t.drop a).take s = List.replicate s 0 ∨ (t.drop a).take s = List.replicate s 1) := by
  constructor
  · rintro ⟨u, v, c, hc, rfl⟩
    refine ⟨u.length, ?_, ?_⟩
    · simp
      omega
    · have : ((u ++ List.replicate s c ++ v).drop u.length).take s = List.replicate s c := by
        rw [List.append_assoc, List.drop_left, List.take_left' (by simp)]
      rcases hc with rfl | rfl
      · exact .inl this
      · exact .inr this
  · rintro ⟨a, ha, h⟩
    have key : ∀ c, (t.drop a).take s = List.replicate s c → t = t.take a ++ List.replicate s c ++ (t.drop a).drop s := fun c hc => by
      rw [← hc, List.append_assoc, List.take_append_drop, List.take_append_drop]
    rcases h with h | h
    · exact ⟨_, _, 0, .inl rfl, key 0 h⟩
    · exact ⟨_, _, 1, .inr rfl, key 1 h⟩
theorem max_of {xs : List Int} {m : Int} (h : ∀ x ∈ xs, x ≤ m) (hm : m ∈ xs) : maxI xs = m := by
  induction xs with
  | nil => cases hm
  | cons x r ih =>
    cases r with
    | nil =>
      rw [List.mem_singleton] at hm
      exact hm.symm
    | cons y r =>
      show max x (maxI (y :: r)) = m
      by_cases hr : m ∈ y :: r
      · rw [ih (fun z hz => h z (List.mem_cons_of_mem _ hz)) hr]
        have := h x List.mem_cons_self
        omega
      · have hx : m = x := by
          rcases List.mem_cons.mp hm with z | z
          · exact z
          · exact absurd z hr
        have hle : ∀ (l : List Int), l ≠ [] → (∀ z ∈ l, z ≤ m) → maxI l ≤ m := by
          intro l
          induction l with
          | nil => intro hne; exact absurd rfl hne
          | cons a l il =>
            intro _ hl
            cases l with
            | nil => exact hl a List.mem_cons_self
            | cons b l =>
              show max a (maxI (b :: l)) ≤ m
              have h1 := hl a List.mem_cons_self
              have h2 := il (by simp) fun z hz => hl z (List.mem_cons_of_mem _ hz)
              omega
        have := hle (y :: r) (by simp) fun z hz => h z (List.mem_cons_of_mem _ hz)
        omega
theorem upto1 {n : Nat} : upto 1 n = (List.range n).map fun k : Nat => D.int ((k + 1 : Nat) : Int) := by
  unfold upto
  refine List.map_congr_left fun i _ => ?_
  congr 1
  omega
theorem rng2_1 {n : Nat} {S : Sto} (h : n ≤ 1000000) : rng2 [.v (.int 1), .v (.int ((n : Int) + 1))] S = .ok (.fix ((List.range n).map fun k : Nat => D.int ((k + 1 : Nat) : Int))) S := by
  unfold rng2
  dsimp only
  have f1 : fits62 1 = true := by decide
  have f2 : fits62 ((n : Int) + 1) = true := fits_int (by omega) (by omega)
  rw [f1, f2, if_pos (by rfl), ← upto1]
  congr 3
  omega
theorem pl_rep {s : Nat} {c : Int} (hc : c = 0 ∨ c = 1) : Pd 1 (.lst ((List.replicate s c).map D.int)) := pd_lst fun d hd => by
  obtain ⟨x, hx, rfl⟩ := List.mem_map.mp hd
  have := List.eq_of_mem_replicate hx
  exact pd_int (by omega)
theorem cut_mid {α : Type} {xs : List α} {a s : Nat} (h : a + s ≤ xs.length) : M.cutD xs (some (a : Int)) (some ((a : Int) + s)) = (xs.drop a).take s := by
  unfold M.cutD
  have e : ((a : Int) + s) = ((a + s : Nat) : Int) := by omega
  rw [e, HT.sIx_nat, HT.sIx_nat, Nat.min_eq_left h, Nat.min_eq_left (by omega)]
  congr 1
  omega
end G00

namespace G00
open PySem PySem.Spec PyProof.Rows L2 M PR
theorem map_int_inj {a b : List Int} : a.map D.int = b.map D.int ↔ a = b := by
  constructor
  · intro h
    have := congrArg (List.filterMap fun d : D => match d with | .int i => some i | _ => none) h
    simpa [List.filterMap_map, Function.comp_def] using this
  · rintro rfl
    rfl
theorem law_run_ok {es : List Int} {S : Sto} (h : ∀ x ∈ es, x = 0 ∨ x = 1 ∨ x = 2) (hl : es.length ≤ 1000) : f__law_run [.v (.tup (es.map D.int))] S = .ok (.v (.int (runs es).1)) S := by
  obtain ⟨m, hm, hw⟩ := runs_spec h
  generalize ht : es.filter (fun e => !decide (e = 2)) = t at hw
  have htl : t.length ≤ 1000 := by
    rw [← ht]
    exact Nat.le_trans (List.length_filter_le _ _) hl
  have htm : ∀ x ∈ t, 0 ≤ x ∧ x ≤ 2 := fun x hx => by
    rw [← ht] at hx
    have := h x (List.mem_filter.mp hx).1
    omega
  unfold f__law_run
  rw [mkFn_ap (np := 1) rfl]
  refine leave_wx ?_
  unfold body__law_run
  refine wx_to (ρ' := [some (.v (.tup (es.map D.int))), some (.v (.lst (t.map D.int))), none, none, none]) (S' := S) ?_ ?_
  · rw [sSet_ap, mFz_ap, lcv (S := S) (f := D.int) (F := D.int) (p := fun e => !decide (e = 2)) (xs := es) (itA_tup rfl) (lim1 (by omega)) fun x hx => ⟨_, rfl, by simp [wipeM], fun _ => by simp [wipeM]⟩, ht]
    rfl
  · have e2 : mLC (mRng rng2 (mCons (mC (.int 1)) (mCons (mOp gAdd (mB (g1 lenD) (mCons (mV 1) mNil)) (mC (.int 1))) mNil))) (pN 3) (mTru (mB (g1 anyD) (mCons (mFz (mLC (mRng rng1 (mCons (mOp gAdd (mOp gSub (mB (g1 lenD) (mCons (mV 1) mNil)) (mV 3)) (mC (.int 1))) mNil)) (pN 4) mYes (mOp (gIn false) (mSl (mV 1) (oAt (mV 4)) (oAt (mOp gAdd (mV 4) (mV 3)))) (mLst (mCons (mFz (mRepL (mLst (mCons (mC (.int 0)) mNil)) (mV 3))) (mCons (mFz (mRepL (mLst (mCons (mC (.int 1)) mNil)) (mV 3))) mNil)))) [4])) mNil))) (mV 3) [3] [some (.v (.tup (es.map D.int))), some (.v (.lst (t.map D.int))), none, none, none] S =
        .ok (.n (.li (((List.range t.length).filter fun k => decide (k + 1 ≤ m)).map fun k : Nat => .int ((k + 1 : Nat) : Int)))) S := by
      refine lcv (f := fun k : Nat => .int ((k + 1 : Nat) : Int)) ?_ (lim1 (by simp; omega)) fun k hk => ⟨_, rfl, ?_, fun _ => rfl⟩
      · have e : mCons (mC (.int 1)) (mCons (mOp gAdd (mB (g1 lenD) (mCons (mV 1) mNil)) (mC (.int 1))) mNil) [some (.v (.tup (es.map D.int))), some (.v (.lst (t.map D.int))), none, none, none] S = .ok [.v (.int 1), .v (.int ((t.length : Int) + 1))] S := by simp
        rw [mRng_ap, e]
        exact rng2_1 (by omega)
      · have hk' := List.mem_range.mp hk
        have ea := lcAny (S := S) (ρ := [some (.v (.tup (es.map D.int))), some (.v (.lst (t.map D.int))), none, some (.v (.int ((k + 1 : Nat) : Int))), none]) (S0 := S) (it := mRng rng1 (mCons (mOp gAdd (mOp gSub (mB (g1 lenD) (mCons (mV 1) mNil)) (mV 3)) (mC (.int 1))) mNil)) (g := pN 4) (vs := [4])
          (te := mOp (gIn false) (mSl (mV 1) (oAt (mV 4)) (oAt (mOp gAdd (mV 4) (mV 3)))) (mLst (mCons (mFz (mRepL (mLst (mCons (mC (.int 0)) mNil)) (mV 3))) (mCons (mFz (mRepL (mLst (mCons (mC (.int 1)) mNil)) (mV 3))) mNil))))
          (f := fun a : Nat => .int (a : Int)) (p := fun a => decide ((t.drop a).take (k + 1) = List.replicate (k + 1) 0 ∨ (t.drop a).take (k + 1) = List.replicate (k + 1) 1)) (xs := List.range (t.length - (k + 1) + 1)) (by
            have e : mCons (mOp gAdd (mOp gSub (mB (g1 lenD) (mCons (mV 1) mNil)) (mV 3)) (mC (.int 1))) mNil [some (.v (.tup (es.map D.int))), some (.v (.lst (t.map D.int))), none, some (.v (.int ((k + 1 : Nat) : Int))), none] S = .ok [.v (.int ((t.length - (k + 1) + 1 : Nat) : Int))] S := by
              have : (t.length : Int) - ((k + 1 : Nat) : Int) + 1 = ((t.length - (k + 1) + 1 : Nat) : Int) := by omega
              simp only [mCons_ap, mNil_ap, mOp_ap, mB_ap, mV_ap, mC_ap, bind_ok, List.getElem?_cons_succ, List.getElem?_cons_zero, apN_ap, pks_cons, pks_nil, pk_v, lenD_lst, List.length_map, ap2_ap, gSub_int, gAdd_int, this]
            rw [mRng_ap, e]
            refine (rng1_ups (by omega)).trans ?_
            unfold ups
            rw [List.map_map]
            rfl) (lim1 (by simp; omega)) fun a ha => ⟨_, rfl, by
            have ha' := List.mem_range.mp ha
            have hs : gSl (some (a : Int)) (some ((a : Int) + ((k + 1 : Nat) : Int))) (.lst (t.map D.int)) = some (.n (.li (((t.drop a).take (k + 1)).map D.int))) := by
              show some (Val.n (.li (M.cutD (t.map D.int) (some (a : Int)) (some ((a : Int) + ((k + 1 : Nat) : Int)))))) = _
              rw [cut_mid (by simp; omega), ← List.map_drop, ← List.map_take]
            have hr : ∀ c : Int, mRepL (mLst (mCons (mC (.int c)) mNil)) (mV 3) [some (.v (.tup (es.map D.int))), some (.v (.lst (t.map D.int))), none, some (.v (.int ((k + 1 : Nat) : Int))), some (.v (.int a))] S = .ok (.n (.li ((List.replicate (k + 1) c).map D.int))) S := fun c => by
              have f1 : fits62 ((k + 1 : Nat) : Int) = true := fits_nat (by omega)
              have l1 : k + 1 ≤ lim := lim1 (by omega)
              simp only [mRepL_ap, mLst_ap, mCons_ap, mNil_ap, mC_ap, bind_ok, dats_cons, dats_nil, Option.map_some, List.length_cons, List.length_nil, lim_1, if_true, mV_ap, List.getElem?_cons_succ, List.getElem?_cons_zero, f1, Bool.true_and, Int.toNat_natCast, Nat.zero_add, Nat.one_mul, decide_eq_true l1]
              rw [List.map_replicate, List.flatten_replicate_singleton]
            have hin : gIn false (.lst (((t.drop a).take (k + 1)).map D.int)) (.lst [.lst ((List.replicate (k + 1) (0 : Int)).map D.int), .lst ((List.replicate (k + 1) (1 : Int)).map D.int)]) = some (.v (.bl (decide ((t.drop a).take (k + 1) = List.replicate (k + 1) 0 ∨ (t.drop a).take (k + 1) = List.replicate (k + 1) 1)))) := by
              rw [gIn_lst ((pd_lst (n := 0) fun d hd => by
                obtain ⟨x, hx, rfl⟩ := List.mem_map.mp hd
                have := htm x (List.mem_of_mem_drop (List.mem_of_mem_take hx))
                exact pd_int (by omega)).pl (by omega)) ((pd_lst (n := 1) fun d hd => by
                simp only [List.mem_cons, List.not_mem_nil, or_false] at hd
                rcases hd with rfl | rfl
                · exact pl_rep (.inl rfl)
                · exact pl_rep (.inr rfl)).pl (by omega)), if_neg Bool.false_ne_true]
              congr 3
              rw [decide_eq_decide]
              simp only [List.mem_cons, List.not_mem_nil, or_false, D.lst.injEq, map_int_inj]
            have l2 : 0 + 1 + 1 ≤ lim := le_lim (by omega)
            show mOp _ _ _ [some (.v (.tup (es.map D.int))), some (.v (.lst (t.map D.int))), none, some (.v (.int ((k + 1 : Nat) : Int))), some (.v (.int a))] S = _
            simp only [mOp_ap, mSl_ap, oAt_ap, mV_ap, bind_ok, List.getElem?_cons_succ, List.getElem?_cons_zero, ap2_ap, pk_v, gAdd_int, ap1_ap, hs, mLst_ap, mCons_ap, mNil_ap, mFz_ap, hr, obD_li, dats_cons, dats_nil, Option.map_some, List.length_cons, List.length_nil, eq_true l2, if_true, pk_n, hin]⟩
        have : (List.range (t.length - (k + 1) + 1)).any (fun a => decide ((t.drop a).take (k + 1) = List.replicate (k + 1) 0 ∨ (t.drop a).take (k + 1) = List.replicate (k + 1) 1)) = decide (k + 1 ≤ m) := by
          rw [Bool.eq_iff_iff, decide_eq_true_eq, ← hw, win_at (by omega) (by omega), List.any_eq_true]
          constructor
          · rintro ⟨a, ha, h1⟩
            exact ⟨a, List.mem_range.mp ha, of_decide_eq_true h1⟩
          · rintro ⟨a, ha, h1⟩
            exact ⟨a, List.mem_range.mpr ha, decide_eq_true h1⟩
        rw [this] at ea
        show mTru _ [some (.v (.tup (es.map D.int))), some (.v (.lst (t.map D.int))), none, some (.v (.int ((k + 1 : Nat) : Int))), none] S = _
        rw [mTru_ap, ea]
        rfl
    have hw1 : m ≤ t.length := by
      obtain ⟨u, v, c, _, e⟩ := (hw m).mpr (Nat.le_refl _)
      rw [e]
      simp
      omega
    have hmax : maxI ((0 : Int) :: ((List.range t.length).filter fun k => decide (k + 1 ≤ m)).map fun k : Nat => ((k + 1 : Nat) : Int)) = m := by
      refine max_of (fun x hx => ?_) ?_
      · rcases List.mem_cons.mp hx with rfl | hx
        · omega
        · obtain ⟨k, hk, rfl⟩ := List.mem_map.mp hx
          have := of_decide_eq_true (List.mem_filter.mp hk).2
          omega
      · by_cases h0 : m = 0
        · subst h0
          exact List.mem_cons_self
        · refine List.mem_cons_of_mem _ (List.mem_map.mpr ⟨m - 1, List.mem_filter.mpr ⟨List.mem_range.mpr (by omega), decide_eq_true (by omega)⟩, by omega⟩)
    have hadd : gAdd (.lst [.int 0]) (.lst (((List.range t.length).filter fun k => decide (k + 1 ≤ m)).map fun k : Nat => .int ((k + 1 : Nat) : Int))) = some (.n (.li ((.int 0) :: ((List.range t.length).filter fun k => decide (k + 1 ≤ m)).map fun k : Nat => .int ((k + 1 : Nat) : Int)))) := by
      refine gAdd_lst (lim1 ?_)
      rw [List.length_map]
      have := List.length_filter_le (fun k => decide (k + 1 ≤ m)) (List.range t.length)
      rw [List.length_range] at this
      simp only [List.length_cons, List.length_nil]
      omega
    have hmx : g1 maxD [.lst ((.int 0) :: ((List.range t.length).filter fun k => decide (k + 1 ≤ m)).map fun k : Nat => .int ((k + 1 : Nat) : Int))] = some (.v (.int m)) := by
      have e : (D.int 0) :: ((List.range t.length).filter fun k => decide (k + 1 ≤ m)).map (fun k : Nat => D.int ((k + 1 : Nat) : Int)) = ((0 : Int) :: ((List.range t.length).filter fun k => decide (k + 1 ≤ m)).map fun k : Nat => ((k + 1 : Nat) : Int)).map D.int := by
        rw [List.map_cons, List.map_map]
        rfl
      rw [e]
      show maxD (.lst _) = _
      unfold maxD
      dsimp only
      rw [intsOf_map]
      dsimp only
      rw [hmax]
    have e3 := e2
    generalize (mLC (mRng rng2 _) (pN 3) _ (mV 3) [3]) = LC at e3 ⊢
    generalize ((List.range t.length).filter fun k => decide (k + 1 ≤ m)).map (fun k : Nat => D.int ((k + 1 : Nat) : Int)) = L at e3 hadd hmx
    rw [sRet_ap]
    simp [e3, hadd, hmx, hm]
end G00

namespace G00
open PySem PySem.Spec PyProof.Rows L2 M PR
theorem eq_draws : G00.f__law_draws = PR.f__law_draws := rfl
theorem eq_next : G00.f__law_next = PR.f__law_next := rfl
theorem eq_more : G00.f__law_more = PR.f__law_more := rfl
end G00

namespace G00
open PySem PySem.Spec PyProof.Rows L2 M PR
theorem swap_perm {α : Type} {l : List α} {i j : Nat} (hi : i < l.length) (hj : j < l.length) : ((l.set i l[j]).set j l[i]).Perm l := by
  have h := Array.swap_perm (xs := l.toArray) (i := i) (j := j) (by simpa using hi) (by simpa using hj)
  rw [Array.perm_iff_toList_perm] at h
  simpa [Array.toList_swap] using h
theorem Stp.app {T S' : Sto} {n : Nat} {o : Option Ob} (h : Stp n (T ++ [o]) S') (hn : n < T.length) : ∃ T', S' = T' ++ [o] ∧ Stp n T T' := by
  obtain ⟨ds, rfl, d⟩ := h
  exact ⟨T.set n (some (.li (ds.map D.int))), List.set_append_left _ _ hn, ds, rfl, d⟩
theorem AtD.app {T : Sto} {n : Nat} {o : Option Ob} (h : AtD T n) : AtD (T ++ [o]) n := by
  have hl := h.lt
  obtain ⟨ds, e, d⟩ := h
  exact ⟨ds, by rw [List.getElem?_append_left hl]; exact e, d⟩
theorem fmod_nat {i : Int} {n : Nat} (h : 0 < n) (hi : 0 ≤ i) : ∃ j : Nat, i.fmod n = j ∧ j < n := PR.fmod_len h
theorem mixed_ok {S : Sto} {d n : Nat} (hS : AtD S d) (h1 : 1 ≤ n) (hn : n ≤ 1000) : ∃ (order : List Int) (S' : Sto), f__law_mixed [.l d, .v (.int n)] S = .ok (.v (.tup (order.map D.int))) S' ∧ Stp d S S' ∧ order.Perm (ups n) := by
  have main : WX (body__law_mixed [some (.l d), some (.v (.int n)), none, none, none] S) (fun _ _ => False) (fun x S' => ∃ (order : List Int) (T : Sto), x = .v (.tup (order.map D.int)) ∧ S' = T ++ [some (.li (order.map D.int))] ∧ Stp d S T ∧ order.Perm (ups n)) (fun _ _ => False) := by
    unfold body__law_mixed
    refine wx_to (ρ' := [some (.l d), some (.v (.int n)), some (.l S.length), none, none]) (S' := S ++ [some (.li ((ups n).map D.int))]) ?_ ?_
    · have e : lrng1 [.v (.int n)] S = .ok (.n (.li ((ups n).map D.int))) S := by
        unfold lrng1
        dsimp only
        have : ((n : Int) - 0).toNat = n := by omega
        rw [this, if_pos ⟨fits_nat (by omega), lim1 (by omega)⟩, upto_ups]
      simp [e]
    · refine wx_via (fun ρ S' => ∃ (a b : Option Val) (order : List Int) (T : Sto), ρ = [some (.l d), some (.v (.int n)), some (.l S.length), a, b] ∧ S' = T ++ [some (.li (order.map D.int))] ∧ Stp d S T ∧ order.Perm (ups n)) ?_ ?_
      · refine wx_for (f := D.int) (xs := ups n) (fun pre ρ S' => ∃ (a b : Option Val) (order : List Int) (T : Sto), ρ = [some (.l d), some (.v (.int n)), some (.l S.length), a, b] ∧ S' = T ++ [some (.li (order.map D.int))] ∧ Stp d S T ∧ order.Perm (ups n)) (by simp [rng1_ups (by omega : n ≤ 1000000000)]) ⟨none, none, ups n, S, rfl, rfl, hS.stp, .refl _⟩ ?_ fun ρ S h => h
        rintro pre at' post ρ S' ep ⟨a, b, order, T, rfl, rfl, hT, hp⟩
        have hat : 0 ≤ at' ∧ at' < n := mem_ups.mp (by rw [ep]; simp)
        have hlen : order.length = n := by rw [hp.length_eq, ups_len]
        have hTl : T.length = S.length := hT.length
        obtain ⟨i, S1, e1, s1, i1, i2⟩ := next_ok (AtD.app (o := some (.li (order.map D.int))) (hT.at_ hS))
        obtain ⟨T1, rfl, s2⟩ := Stp.app s1 (by rw [hTl]; exact hS.lt)
        have hT1 : T1.length = S.length := by rw [s2.length, hTl]
        obtain ⟨j, ej, hj⟩ := fmod_nat (i := i) (n := n) (by omega) i1
        have e1' : G00.f__law_next [.l d] (T ++ [some (.li (order.map D.int))]) = .ok (.v (.int i)) (T1 ++ [some (.li (order.map D.int))]) := e1
        obtain ⟨k, rfl⟩ : ∃ k : Nat, at' = k := ⟨at'.toNat, by omega⟩
        have hk : k < order.length := by omega
        have hj2 : j < order.length := by omega
        rw [turn_name]
        refine wt_to (ρ' := [some (.l d), some (.v (.int n)), some (.l S.length), some (.v (.int k)), some (.v (.int j))]) (S' := T1 ++ [some (.li (order.map D.int))]) ?_ ?_
        · have hgm : gMod (.int i) (.int n) = some (.v (.int j)) := by rw [gMod_int (by omega), ej]
          simp [e1', hgm]
        · have x1 : gIx (.lst (order.map D.int)) (.int j) = some (.v (.int order[j])) := gIx_lstA (by rw [List.getElem?_map, List.getElem?_eq_getElem hj2]; rfl)
          have x2 : gIx (.lst (order.map D.int)) (.int k) = some (.v (.int order[k])) := gIx_lstA (by rw [List.getElem?_map, List.getElem?_eq_getElem hk]; rfl)
          have n1 : L2.ixN order.length (k : Int) = some k := by
            unfold L2.ixN
            rw [if_pos (by omega), if_pos (by omega)]
            simp
          have n2 : L2.ixN order.length (j : Int) = some j := by
            unfold L2.ixN
            rw [if_pos (by omega), if_pos (by omega)]
            simp
          have e : (sAsg (mTup (mCons (mOp gIx (mV 2) (mV 4)) (mCons (mOp gIx (mV 2) (mV 3)) mNil))) (gT 2 (gsC (gIxS (mV 2) (mV 3)) (gsC (gIxS (mV 2) (mV 4)) gsN)))) [some (.l d), some (.v (.int n)), some (.l S.length), some (.v (.int k)), some (.v (.int j))] (T1 ++ [some (.li (order.map D.int))]) =
              .nx [some (.l d), some (.v (.int n)), some (.l S.length), some (.v (.int k)), some (.v (.int j))] (T1 ++ [some (.li (((order.set k order[j]).set j order[k]).map D.int))]) := by
            rw [← hT1]
            simp [x1, x2, n1, n2, List.map_set]
          rw [e]
          exact ⟨_, _, _, T1, rfl, rfl, hT.trans s2, (swap_perm hk hj2).trans hp⟩
      · rintro ρ S' ⟨a, b, order, T, rfl, rfl, hT, hp⟩
        have hTl : T.length = S.length := hT.length
        rw [← hTl]
        simp
        exact ⟨order, rfl, T, ⟨rfl, rfl⟩, hT, hp⟩
  unfold f__law_mixed
  rw [mkFn_ap (np := 2) rfl]
  show ∃ order S', leave S.length (body__law_mixed [some (.l d), some (.v (.int n)), none, none, none] S) = _ ∧ _
  cases hr : body__law_mixed [some (.l d), some (.v (.int n)), none, none, none] S with
  | rt x S' =>
    rw [hr] at main
    obtain ⟨order, T, rfl, rfl, hT, hp⟩ := main
    exact ⟨order, T, by simp [← hT.length], hT, hp⟩
  | nx ρ S' => rw [hr] at main; exact main.elim
  | bk ρ S' => rw [hr] at main; exact main.elim
  | ct ρ S' => rw [hr] at main; exact main.elim
  | er e ρ S' => rw [hr] at main; exact main.elim
  | bad => rw [hr] at main; exact main.elim
end G00

namespace G00
open PySem PySem.Spec PyProof.Rows L2 M PR
/-! ### the circle plans, closed -/
def toGm : D → Option (Int × Int)
  | .tup [.int a, .int b] => some (a, b)
  | _ => none
def toRd : D → List (Int × Int)
  | .tup ds => ds.filterMap toGm
  | _ => []
def toPl : R Val → List (List (Int × Int))
  | .ok (.v (.tup ds)) _ => ds.map toRd
  | _ => []
def circP (n : Int) : List (List (Int × Int)) := toPl (f__law_any_circle [.v (.int n)] [none, none])
def nodupB : List Int → Bool
  | [] => true
  | a :: l => !l.contains a && nodupB l
def okR (n : Int) (gs : List (Int × Int)) : Bool := (gs.flatMap fun g => [g.1, g.2]).all (fun t => decide (0 ≤ t) && decide (t < n)) && (nodupB (gs.flatMap fun g => [g.1, g.2]) && Nat.ble gs.length 4)
def okC (n : Int) (p : List (List (Int × Int))) : Bool := p.all (okR n) && Nat.ble p.length 7
theorem circ_2 (a b : Option Ob) : f__law_any_circle [.v (.int 2)] [a, b] = .ok (.v (plD (circP 2))) [a, b] ∧ okC 2 (circP 2) = true := by constructor <;> kernel_rfl
theorem circ_3 (a b : Option Ob) : f__law_any_circle [.v (.int 3)] [a, b] = .ok (.v (plD (circP 3))) [a, b] ∧ okC 3 (circP 3) = true := by constructor <;> kernel_rfl
theorem circ_4 (a b : Option Ob) : f__law_any_circle [.v (.int 4)] [a, b] = .ok (.v (plD (circP 4))) [a, b] ∧ okC 4 (circP 4) = true := by constructor <;> kernel_rfl
theorem circ_5 (a b : Option Ob) : f__law_any_circle [.v (.int 5)] [a, b] = .ok (.v (plD (circP 5))) [a, b] ∧ okC 5 (circP 5) = true := by constructor <;> kernel_rfl
theorem circ_6 (a b : Option Ob) : f__law_any_circle [.v (.int 6)] [a, b] = .ok (.v (plD (circP 6))) [a, b] ∧ okC 6 (circP 6) = true := by constructor <;> kernel_rfl
theorem circ_7 (a b : Option Ob) : f__law_any_circle [.v (.int 7)] [a, b] = .ok (.v (plD (circP 7))) [a, b] ∧ okC 7 (circP 7) = true := by constructor <;> kernel_rfl
theorem circ_8 (a b : Option Ob) : f__law_any_circle [.v (.int 8)] [a, b] = .ok (.v (plD (circP 8))) [a, b] ∧ okC 8 (circP 8) = true := by constructor <;> kernel_rfl
theorem circ_ok {n : Nat} (h : 2 ≤ n ∧ n ≤ 8) (a b : Option Ob) : f__law_any_circle [.v (.int n)] [a, b] = .ok (.v (plD (circP n))) [a, b] ∧ okC n (circP n) = true := by
  obtain ⟨h1, h2⟩ := h
  match n, h1, h2 with
  | 2, _, _ => exact circ_2 a b
  | 3, _, _ => exact circ_3 a b
  | 4, _, _ => exact circ_4 a b
  | 5, _, _ => exact circ_5 a b
  | 6, _, _ => exact circ_6 a b
  | 7, _, _ => exact circ_7 a b
  | 8, _, _ => exact circ_8 a b
/-- a round, not yet in order -/
structure Rd (n : Int) (gs : List (Int × Int)) : Prop where
  inr : ∀ t ∈ teams gs, 0 ≤ t ∧ t < n
  nd : (teams gs).Nodup
  len : gs.length ≤ 4
theorem nodup_of : ∀ {l : List Int}, nodupB l = true → l.Nodup
  | [], _ => List.nodup_nil
  | a :: l, h => by
    unfold nodupB at h
    rw [Bool.and_eq_true] at h
    rw [List.nodup_cons]
    refine ⟨?_, nodup_of h.2⟩
    have := h.1
    simp at this
    exact this
theorem okR_rd {n : Int} {gs : List (Int × Int)} (h : okR n gs = true) : Rd n gs := by
  unfold okR at h
  rw [Bool.and_eq_true, Bool.and_eq_true] at h
  obtain ⟨h1, h2, h3⟩ := h
  refine ⟨fun t ht => ?_, nodup_of h2, Nat.le_of_ble_eq_true h3⟩
  have := List.all_eq_true.mp h1 t ht
  simpa using this
theorem okC_rd {n : Int} {p : List (List (Int × Int))} (h : okC n p = true) : (∀ gs ∈ p, Rd n gs) ∧ p.length ≤ 7 := by
  unfold okC at h
  rw [Bool.and_eq_true] at h
  exact ⟨fun gs hg => okR_rd (List.all_eq_true.mp h.1 gs hg), Nat.le_of_ble_eq_true h.2⟩
abbrev Srt (gs : List (Int × Int)) : Prop := gs.Pairwise fun x y => leP x y = true
theorem teams_perm {a b : List (Int × Int)} (h : a.Perm b) : (teams a).Perm (teams b) := by
  unfold teams
  exact h.flatMap_right _
theorem Rd.perm {n : Int} {a b : List (Int × Int)} (h : Rd n a) (hp : a.Perm b) : Rd n b := by
  have ht := teams_perm hp
  exact ⟨fun t hm => h.inr t (ht.mem_iff.mpr hm), ht.nodup_iff.mp h.nd, by rw [← hp.length_eq]; exact h.len⟩
theorem Rd.tperm {n : Int} {a b : List (Int × Int)} (h : Rd n a) (ht : (teams a).Perm (teams b)) (hl : b.length ≤ 4) : Rd n b :=
  ⟨fun t hm => h.inr t (ht.mem_iff.mpr hm), ht.nodup_iff.mp h.nd, hl⟩
theorem Rd.sort {n : Int} {a : List (Int × Int)} (h : Rd n a) : Rd n (isort leP a) ∧ Srt (isort leP a) :=
  ⟨h.perm (isort_perm a).symm, isort_sorted leP_trans leP_total a⟩
theorem teams_sub {a b : List (Int × Int)} (h : a.Sublist b) : (teams a).Sublist (teams b) := by
  unfold teams
  induction h with
  | slnil => exact .slnil
  | cons x _ ih => rw [List.flatMap_cons]; exact ih.trans (List.sublist_append_right _ _)
  | cons_cons x _ ih => rw [List.flatMap_cons, List.flatMap_cons]; exact (List.Sublist.refl _).append ih
theorem Rd.sub {n : Int} {a b : List (Int × Int)} (h : Rd n b) (hs : a.Sublist b) : Rd n a :=
  ⟨fun t hm => h.inr t ((teams_sub hs).subset hm), h.nd.sublist (teams_sub hs), Nat.le_trans hs.length_le h.len⟩
theorem Rd.gm {n : Int} {gs : List (Int × Int)} (h : Rd n gs) {g : Int × Int} (hg : g ∈ gs) : 0 ≤ g.1 ∧ g.1 < n ∧ 0 ≤ g.2 ∧ g.2 < n :=
  ⟨(h.inr _ (mem_teams hg).1).1, (h.inr _ (mem_teams hg).1).2, (h.inr _ (mem_teams hg).2).1, (h.inr _ (mem_teams hg).2).2⟩
theorem Rd.ok {n : Int} {gs : List (Int × Int)} (h : Rd n gs) (s : Srt gs) : RoundOk n gs := ⟨h.inr, h.nd, s, by have := h.len; omega⟩
/-! ### other names -/
def nm (order : List Int) (t : Int) : Int := order.getD t.toNat 0
def ren (order : List Int) (g : Int × Int) : Int × Int := (nm order g.1, nm order g.2)
theorem teams_ren {order : List Int} {gs : List (Int × Int)} : teams (gs.map (ren order)) = (teams gs).map (nm order) := by
  unfold teams
  rw [List.flatMap_map, List.map_flatMap]
  rfl
theorem nm_lt {order : List Int} {t : Int} (h : 0 ≤ t ∧ t < order.length) : ∃ k : Nat, t = k ∧ k < order.length ∧ order[k]? = some (nm order t) := by
  refine ⟨t.toNat, by omega, by omega, ?_⟩
  unfold nm
  rw [List.getD_eq_getElem?_getD, List.getElem?_eq_getElem (by omega)]
  rfl
theorem ups_nodup {n : Nat} : (ups n).Nodup := by
  unfold ups
  rw [List.nodup_iff_pairwise_ne, List.pairwise_map]
  exact List.nodup_range.imp fun h e => h (by omega)
theorem Rd.ren {n : Nat} {order : List Int} {gs : List (Int × Int)} (h : Rd n gs) (hp : order.Perm (ups n)) : Rd n (gs.map (ren order)) := by
  have hl : order.length = n := by rw [hp.length_eq, ups_len]
  have hnd : order.Nodup := hp.nodup_iff.mpr ups_nodup
  refine ⟨?_, ?_, by rw [List.length_map]; exact h.len⟩
  · rw [teams_ren]
    intro t ht
    obtain ⟨u, hu, rfl⟩ := List.mem_map.mp ht
    have hu2 := h.inr u hu
    obtain ⟨k, _, hk, e⟩ := nm_lt (order := order) (t := u) (by omega)
    exact mem_ups.mp (hp.mem_iff.mp (List.mem_of_getElem? e))
  · rw [teams_ren]
    rw [List.nodup_iff_pairwise_ne, List.pairwise_map]
    refine List.Pairwise.imp_of_mem ?_ (List.nodup_iff_pairwise_ne.mp h.nd)
    intro a b ha hb hab e
    have ha2 := h.inr a ha
    have hb2 := h.inr b hb
    obtain ⟨k, ek, hk, e1⟩ := nm_lt (order := order) (t := a) (by omega)
    obtain ⟨j, ej, hj, e2⟩ := nm_lt (order := order) (t := b) (by omega)
    rw [e, ← e2] at e1
    have := (List.getElem?_inj hk hnd).mp e1
    omega
end G00

namespace G00
open PySem PySem.Spec PyProof.Rows L2 M PR
theorem nm_gIx {order : List Int} {t : Int} (h : 0 ≤ t ∧ t < order.length) : gIx (.tup (order.map D.int)) (.int t) = some (.v (.int (nm order t))) := by
  obtain ⟨k, rfl, hk, e⟩ := nm_lt h
  exact gIx_tupA (by rw [List.getElem?_map, e]; rfl)
theorem renamed_ok {n : Nat} {p : List (List (Int × Int))} {order : List Int} {S : Sto} (h : ∀ gs ∈ p, Rd n gs) (ho : order.length = n) (hl : p.length ≤ 1000) : f__law_renamed [.v (plD p), .v (.tup (order.map D.int))] S = .ok (.v (plD (p.map fun gs => isort leP (gs.map (ren order))))) S := by
  unfold f__law_renamed
  rw [mkFn_ap (np := 2) rfl]
  refine leave_wx ?_
  unfold body__law_renamed
  rw [sRet_ap, lcTup (S := S) (f := rdD) (F := fun gs => rdD (isort leP (gs.map (ren order)))) (xs := p) (itA_tup rfl) (lim1 (by omega)) fun gs hg => ⟨_, rfl, ?_⟩]
  · simp [plD, Function.comp_def]
  · have hr := h gs hg
    have hlen := hr.len
    have a1 : mLC (mItA (mV 2)) (pT 2 (psC (pN 3) (psC (pN 4) psN))) mYes (mTup (mCons (mOp gIx (mV 1) (mV 3)) (mCons (mOp gIx (mV 1) (mV 4)) mNil))) [3, 4] [some (.v (plD p)), some (.v (.tup (order.map D.int))), some (.v (rdD gs)), none, none] S = .ok (.n (.li ((gs.map (ren order)).map gmP))) S := by
      rw [lcm (f := gmP) (F := fun g => gmP (ren order g)) (xs := gs) (itA_tup rfl) (lim1 (by omega)) fun g hg => ⟨[some (.v (plD p)), some (.v (.tup (order.map D.int))), some (.v (rdD gs)), some (.v (.int g.1)), some (.v (.int g.2))], rfl, ?_⟩, List.map_map]
      · rfl
      · have := hr.gm hg
        have x1 := nm_gIx (order := order) (t := g.1) (by omega)
        have x2 := nm_gIx (order := order) (t := g.2) (by omega)
        simp [x1, x2, gmP, ren]
    show mB _ _ [some (.v (plD p)), some (.v (.tup (order.map D.int))), some (.v (rdD gs)), none, none] S = _
    rw [mB_ap, mCons_ap, mFz_ap, mB_ap, mCons_ap, mFz_ap, a1]
    simp only [bind_ok, mNil_ap, apN_ap, pks_cons, pks_nil, pk_v, obD_li, sortA_lst, tupleD_lst, Option.map_some]
    rfl
theorem cut_to' {α : Type} {xs : List α} {j : Nat} : M.cutD xs none (some (j : Int)) = xs.take j := by
  unfold M.cutD
  rw [HT.sIx_none, HT.sIx_nat]
  simp only [List.drop_zero, Nat.sub_zero]
  by_cases h : j ≤ xs.length
  · rw [Nat.min_eq_left h]
  · rw [Nat.min_eq_right (by omega), List.take_of_length_le (Nat.le_refl _), List.take_of_length_le (by omega)]
/-- a draw -/
theorem draw {a : Option Ob} {S : Sto} (h : IS a S) {m : Nat} (hm : 0 < m) : ∃ (i : Int) (k : Nat) (S' : Sto), f__law_next [.l 1] S = .ok (.v (.int i)) S' ∧ IS a S' ∧ k < m ∧ gMod (.int i) (.int m) = some (.v (.int k)) := by
  obtain ⟨i, S', e, i1, h1, h2⟩ := h.next
  obtain ⟨j, ej, hj⟩ := fmod_nat (i := i) (n := m) hm h1
  exact ⟨i, j, S', e, i1, hj, by rw [gMod_int (by omega), ej]⟩
def sw (g : Int × Int) : Int × Int := (g.2, g.1)
theorem teams_sw : ∀ ps : List ((Int × Int) × (Int × Int)), (∀ q ∈ ps, q.2 = q.1 ∨ q.2 = sw q.1) → (teams (ps.map (·.1))).Perm (teams (ps.map (·.2)))
  | [], _ => .refl _
  | q :: ps, h => by
    have ih := teams_sw ps fun r hr => h r (List.mem_cons_of_mem _ hr)
    unfold teams at *
    rw [List.map_cons, List.map_cons, List.flatMap_cons, List.flatMap_cons]
    refine List.Perm.append ?_ ih
    rcases h q List.mem_cons_self with e | e
    · rw [e]
    · rw [e]
      exact List.Perm.swap _ _ _
theorem Rd.sws {n : Int} {ps : List ((Int × Int) × (Int × Int))} (h : Rd n (ps.map (·.1))) (hs : ∀ q ∈ ps, q.2 = q.1 ∨ q.2 = sw q.1) : Rd n (ps.map (·.2)) :=
  h.tperm (teams_sw ps hs) (by have := h.len; simpa using this)
theorem Rd.sw {n : Int} {gs : List (Int × Int)} (h : Rd n gs) : Rd n (gs.map sw) := by
  have := Rd.sws (n := n) (ps := gs.map fun g => (g, G00.sw g)) (by simpa [Function.comp_def] using h) (fun q hq => by
    obtain ⟨g, _, rfl⟩ := List.mem_map.mp hq
    exact .inr rfl)
  simpa [Function.comp_def] using this
/-- good rounds -/
def Rs (n : Int) (p : List (List (Int × Int))) : Prop := ∀ gs ∈ p, Rd n gs ∧ Srt gs
theorem plan_1 {a : Option Ob} {S : Sto} {n kd : Int} {p : List (List (Int × Int))} (h : IS a S) (hp : Rs n p) (hl : p.length ≤ 100) : ∃ (p' : List (List (Int × Int))) (S' : Sto),
    sSet 3 (mB (g1 tupleD) (mCons (mFz (mLC (mItA (mV 3)) (pN 5) mYes (mB (g1 tupleD) (mCons (mFz (mB (g1 sortA) (mCons (mFz (mLC (mItA (mV 5)) (pN 6) mYes (mIfE (mTB (mOp gGt (mOp gMod (mB (g1 intD) (mCons (mCall f__law_next (mCons (mV 0) mNil)) mNil)) (mC (.int 3))) (mC (.int 0)))) (mV 6) (mTup (mCons (mOp gIx (mV 6) (mC (.int 1))) (mCons (mOp gIx (mV 6) (mC (.int 0))) mNil)))) [6])) mNil))) mNil)) [5])) mNil)) [some (.l 1), some (.v (.int 8)), some (.v (.int n)), some (.v (plD p)), some (.v (.int kd)), none, none, none, none] S =
      .nx [some (.l 1), some (.v (.int 8)), some (.v (.int n)), some (.v (plD p')), some (.v (.int kd)), none, none, none, none] S' ∧ IS a S' ∧ Rs n p' ∧ p'.length = p.length := by
  obtain ⟨ps, S', e, i', e1, hq⟩ := lcDY (ρ := [some (.l 1), some (.v (.int 8)), some (.v (.int n)), some (.v (plD p)), some (.v (.int kd)), none, none, none, none]) (it := mItA (mV 3)) (g := pN 5) (vs := [5])
    (te := mB (g1 tupleD) (mCons (mFz (mB (g1 sortA) (mCons (mFz (mLC (mItA (mV 5)) (pN 6) mYes (mIfE (mTB (mOp gGt (mOp gMod (mB (g1 intD) (mCons (mCall f__law_next (mCons (mV 0) mNil)) mNil)) (mC (.int 3))) (mC (.int 0)))) (mV 6) (mTup (mCons (mOp gIx (mV 6) (mC (.int 1))) (mCons (mOp gIx (mV 6) (mC (.int 0))) mNil)))) [6])) mNil))) mNil))
    (f := rdD) (F := rdD) (Q := fun _ gs' => Rd n gs' ∧ Srt gs') (S0 := S) (S := S) (IS a) (xs := p) (itA_tup rfl) h (lim1 (by omega)) fun gs hgs S h => ⟨_, rfl, by
      have hr := hp gs hgs
      have hrl := hr.1.len
      obtain ⟨ps, S', e, i', e1, hq⟩ := lcDY (ρ := [some (.l 1), some (.v (.int 8)), some (.v (.int n)), some (.v (plD p)), some (.v (.int kd)), some (.v (rdD gs)), none, none, none]) (it := mItA (mV 5)) (g := pN 6) (vs := [6])
        (te := mIfE (mTB (mOp gGt (mOp gMod (mB (g1 intD) (mCons (mCall f__law_next (mCons (mV 0) mNil)) mNil)) (mC (.int 3))) (mC (.int 0)))) (mV 6) (mTup (mCons (mOp gIx (mV 6) (mC (.int 1))) (mCons (mOp gIx (mV 6) (mC (.int 0))) mNil))))
        (f := gmP) (F := gmP) (Q := fun g g' => g' = g ∨ g' = sw g) (S0 := S) (S := S) (IS a) (xs := gs) (itA_tup rfl) h (lim1 (by omega)) fun g hg S h => ⟨_, rfl, by
          obtain ⟨i, k, S', e, i', hk, em⟩ := draw h (m := 3) (by decide)
          have em' : gMod (.int i) (.int 3) = some (.v (.int k)) := em
          have x0 : gIx (gmP g) (.int 0) = some (.v (.int g.1)) := rfl
          have x1 : gIx (gmP g) (.int 1) = some (.v (.int g.2)) := rfl
          by_cases hk0 : 0 < k
          · refine ⟨g, S', ?_, i', .inl rfl⟩
            have hk1 : (0 : Int) < k := by omega
            have gt : gGt (.int k) (.int 0) = some (.v (.bl true)) := by simp [hk0]
            generalize (k : Int) = kk at em' gt
            simp [wipeM, e, em', gt]
          · refine ⟨sw g, S', ?_, i', .inr rfl⟩
            obtain rfl : k = 0 := by omega
            have gt : gGt (.int 0) (.int 0) = some (.v (.bl false)) := by simp
            have em2 : gMod (.int i) (.int 3) = some (.v (.int 0)) := em'
            simp [wipeM, e, em2, x0, x1]
            rfl⟩
      subst e1
      refine ⟨isort leP (ps.map (·.2)), S', ?_, i', (hr.1.sws hq).sort⟩
      show mB _ _ [some (.l 1), some (.v (.int 8)), some (.v (.int n)), some (.v (plD p)), some (.v (.int kd)), some (.v (rdD (ps.map (·.1)))), none, none, none] S = _
      rw [mB_ap, mCons_ap, mFz_ap, mB_ap, mCons_ap, mFz_ap, e]
      simp only [bind_ok, mNil_ap, apN_ap, pks_cons, pks_nil, pk_v, obD_li, sortA_lst, tupleD_lst, Option.map_some]
      rfl⟩
  refine ⟨ps.map (·.2), S', ?_, i', fun gs hg => ?_, ?_⟩
  · rw [sSet_ap, mB_ap, mCons_ap, mFz_ap, e]
    simp [plD]
  · obtain ⟨q, hq1, rfl⟩ := List.mem_map.mp hg
    exact hq q hq1
  · rw [← e1]
    simp
end G00

namespace G00
open PySem PySem.Spec PyProof.Rows L2 M PR
theorem plan_2 {S : Sto} {n kd : Int} {p : List (List (Int × Int))} (hp : Rs n p) (hl : p.length ≤ 100) : sSet 3 (mOp gAdd (mV 3) (mB (g1 tupleD) (mCons (mFz (mLC (mItA (mV 3)) (pN 5) mYes (mB (g1 tupleD) (mCons (mFz (mB (g1 sortA) (mCons (mFz (mLC (mItA (mV 5)) (pT 2 (psC (pN 7) (psC (pN 8) psN))) mYes (mTup (mCons (mV 8) (mCons (mV 7) mNil))) [7, 8])) mNil))) mNil)) [5])) mNil))) [some (.l 1), some (.v (.int 8)), some (.v (.int n)), some (.v (plD p)), some (.v (.int kd)), none, none, none, none] S =
      .nx [some (.l 1), some (.v (.int 8)), some (.v (.int n)), some (.v (plD (p ++ p.map fun gs => isort leP (gs.map sw)))), some (.v (.int kd)), none, none, none, none] S := by
  have e0 : mV 3 [some (.l 1), some (.v (.int 8)), some (.v (.int n)), some (.v (plD p)), some (.v (.int kd)), none, none, none, none] S = .ok (.v (plD p)) S := rfl
  rw [sSet_ap, mOp_ap, e0, bind_ok, lcTup (S := S) (f := rdD) (F := fun gs => rdD (isort leP (gs.map sw))) (xs := p) (itA_tup rfl) (lim1 (by omega)) fun gs hg => ⟨_, rfl, ?_⟩]
  · have := gAdd_tup (a := p.map rdD) (b := p.map fun gs => rdD (isort leP (gs.map sw))) (lim1 (by simp; omega))
    simp [plD, this, Function.comp_def]
  · have hr := (hp gs hg).1
    have hlen := hr.len
    show mB _ _ [some (.l 1), some (.v (.int 8)), some (.v (.int n)), some (.v (plD p)), some (.v (.int kd)), some (.v (rdD gs)), none, none, none] S = _
    rw [mB_ap, mCons_ap, mFz_ap, mB_ap, mCons_ap, mFz_ap, lcm (f := gmP) (F := fun g => gmP (sw g)) (xs := gs) (itA_tup rfl) (lim1 (by omega)) fun g hg => ⟨[some (.l 1), some (.v (.int 8)), some (.v (.int n)), some (.v (plD p)), some (.v (.int kd)), some (.v (rdD gs)), none, some (.v (.int g.1)), some (.v (.int g.2))], rfl, by simp [gmP, sw]⟩]
    have : gs.map (fun g => gmP (sw g)) = (gs.map sw).map gmP := by rw [List.map_map]; rfl
    rw [this]
    simp only [bind_ok, mNil_ap, apN_ap, pks_cons, pks_nil, pk_v, obD_li, sortA_lst, tupleD_lst, Option.map_some]
    rfl
theorem plan_3 {a : Option Ob} {S : Sto} {n kd : Int} {p : List (List (Int × Int))} (h : IS a S) (hp : Rs n p) (hl : p.length ≤ 100) : ∃ (p' : List (List (Int × Int))) (S' : Sto),
    sSet 3 (mB (g1 tupleD) (mCons (mFz (mLC (mItA (mV 3)) (pN 5) mYes (mB (g1 tupleD) (mCons (mFz (mLC (mItA (mV 5)) (pN 6) (mTB (mOp gGt (mOp gMod (mB (g1 intD) (mCons (mCall f__law_next (mCons (mV 0) mNil)) mNil)) (mC (.int 5))) (mC (.int 0)))) (mV 6) [6])) mNil)) [5])) mNil)) [some (.l 1), some (.v (.int 8)), some (.v (.int n)), some (.v (plD p)), some (.v (.int kd)), none, none, none, none] S =
      .nx [some (.l 1), some (.v (.int 8)), some (.v (.int n)), some (.v (plD p')), some (.v (.int kd)), none, none, none, none] S' ∧ IS a S' ∧ Rs n p' ∧ p'.length = p.length := by
  obtain ⟨ps, S', e, i', e1, hq⟩ := lcDY (ρ := [some (.l 1), some (.v (.int 8)), some (.v (.int n)), some (.v (plD p)), some (.v (.int kd)), none, none, none, none]) (it := mItA (mV 3)) (g := pN 5) (vs := [5])
    (te := mB (g1 tupleD) (mCons (mFz (mLC (mItA (mV 5)) (pN 6) (mTB (mOp gGt (mOp gMod (mB (g1 intD) (mCons (mCall f__law_next (mCons (mV 0) mNil)) mNil)) (mC (.int 5))) (mC (.int 0)))) (mV 6) [6])) mNil))
    (f := rdD) (F := rdD) (Q := fun _ gs' => Rd n gs' ∧ Srt gs') (S0 := S) (S := S) (IS a) (xs := p) (itA_tup rfl) h (lim1 (by omega)) fun gs hgs S h => ⟨_, rfl, by
      have hr := hp gs hgs
      have hrl := hr.1.len
      obtain ⟨ps, S', e, i', e1, hq⟩ := lcD (ρ := [some (.l 1), some (.v (.int 8)), some (.v (.int n)), some (.v (plD p)), some (.v (.int kd)), some (.v (rdD gs)), none, none, none]) (it := mItA (mV 5)) (g := pN 6) (vs := [6])
        (tt := mTB (mOp gGt (mOp gMod (mB (g1 intD) (mCons (mCall f__law_next (mCons (mV 0) mNil)) mNil)) (mC (.int 5))) (mC (.int 0)))) (te := mV 6)
        (f := gmP) (F := gmP) (Q := fun g g' => g' = g) (S0 := S) (S := S) (IS a) (xs := gs) (itA_tup rfl) h (lim1 (by omega)) fun g hg S h => by
          obtain ⟨i, k, S', e, i', hk, em⟩ := draw h (m := 5) (by decide)
          have em' : gMod (.int i) (.int 5) = some (.v (.int k)) := em
          exact ⟨_, decide ((0 : Int) < k), S', rfl, by simp [wipeM, e, em'], fun _ => i', fun _ => ⟨g, S', by simp [wipeM], i', rfl⟩⟩
      have hsub : (ps.map (·.2)).Sublist gs := by
        have : ps.map (·.2) = ps.map (·.1) := List.map_congr_left fun q hq' => hq q hq'
        rw [this]
        exact e1
      refine ⟨ps.map (·.2), S', ?_, i', hr.1.sub hsub, hr.2.sublist hsub⟩
      show mB _ _ [some (.l 1), some (.v (.int 8)), some (.v (.int n)), some (.v (plD p)), some (.v (.int kd)), some (.v (rdD gs)), none, none, none] S = _
      rw [mB_ap, mCons_ap, mFz_ap, e]
      simp only [bind_ok, mNil_ap, apN_ap, pks_cons, pks_nil, pk_v, obD_li, tupleD_lst, Option.map_some]
      rfl⟩
  refine ⟨ps.map (·.2), S', ?_, i', fun gs hg => ?_, ?_⟩
  · rw [sSet_ap, mB_ap, mCons_ap, mFz_ap, e]
    simp [plD]
  · obtain ⟨q, hq1, rfl⟩ := List.mem_map.mp hg
    exact hq q hq1
  · rw [← e1]
    simp
theorem plan_ok {a : Option Ob} {S : Sto} (h : IS a S) : ∃ (n : Nat) (p : List (List (Int × Int))) (S' : Sto), f__law_plan [.l 1, .v (.int 8)] S = .ok (.v (.tup [.int n, plD p])) S' ∧ IS a S' ∧ 2 ≤ n ∧ n ≤ 8 ∧ Rs n p ∧ p.length ≤ 14 := by
  have main : WX (body__law_plan [some (.l 1), some (.v (.int 8)), none, none, none, none, none, none, none] S) (fun _ _ => False) (fun x S' => ∃ (n : Nat) (p : List (List (Int × Int))), x = .v (.tup [.int n, plD p]) ∧ IS a S' ∧ 2 ≤ n ∧ n ≤ 8 ∧ Rs n p ∧ p.length ≤ 14) (fun _ _ => False) := by
    unfold body__law_plan
    obtain ⟨i, k, S1, e1, i1, hk, em1⟩ := draw h (m := 7) (by decide)
    have em1' : gMod (.int i) (.int 7) = some (.v (.int k)) := em1
    refine wx_to (ρ' := [some (.l 1), some (.v (.int 8)), some (.v (.int ((2 + k : Nat) : Int))), none, none, none, none, none, none]) (S' := S1) ?_ ?_
    · simp [e1, em1']
    obtain ⟨n, hn⟩ : ∃ n : Nat, n = 2 + k := ⟨_, rfl⟩
    rw [← hn]
    obtain ⟨es, hS1, d1⟩ := id i1
    obtain ⟨ec, oc⟩ := circ_ok (n := n) (by omega) a (some (.li (es.map D.int)))
    rw [← hS1] at ec
    obtain ⟨rc, lc⟩ := okC_rd oc
    obtain ⟨order, S2, e2, s2, hperm⟩ := mixed_ok (n := n) i1.at_ (by omega) (by omega)
    have i2 := i1.stp s2
    have hol : order.length = n := by rw [hperm.length_eq, ups_len]
    have e3 := renamed_ok (S := S2) rc hol (by omega)
    generalize hp0 : ((circP n).map fun gs => isort leP (gs.map (ren order))) = p0 at e3
    have r0 : Rs n p0 := by
      intro gs hg
      rw [← hp0] at hg
      obtain ⟨g0, hg0, rfl⟩ := List.mem_map.mp hg
      exact ((rc g0 hg0).ren hperm).sort
    have l0 : p0.length ≤ 7 := by rw [← hp0, List.length_map]; exact lc
    refine wx_to (ρ' := [some (.l 1), some (.v (.int 8)), some (.v (.int n)), some (.v (plD p0)), none, none, none, none, none]) (S' := S2) ?_ ?_
    · simp [ec, e2, e3]
    obtain ⟨i, kd, S3, e4, i3, hkd, em3⟩ := draw i2 (m := 4) (by decide)
    have em3' : gMod (.int i) (.int 4) = some (.v (.int kd)) := em3
    refine wx_to (ρ' := [some (.l 1), some (.v (.int 8)), some (.v (.int n)), some (.v (plD p0)), some (.v (.int kd)), none, none, none, none]) (S' := S3) ?_ ?_
    · simp [e4, em3']
    obtain ⟨p1, S4, e5, i4, r1, l1⟩ := plan_1 (kd := kd) i3 r0 (by omega)
    refine wx_to e5 ?_
    have fin : ∀ (p : List (List (Int × Int))) (S : Sto), IS a S → Rs n p → p.length ≤ 14 → WX (sRet (mTup (mCons (mV 2) (mCons (mV 3) mNil))) [some (.l 1), some (.v (.int 8)), some (.v (.int n)), some (.v (plD p)), some (.v (.int kd)), none, none, none, none] S) (fun _ _ => False) (fun x S' => ∃ (n : Nat) (p : List (List (Int × Int))), x = .v (.tup [.int n, plD p]) ∧ IS a S' ∧ 2 ≤ n ∧ n ≤ 8 ∧ Rs n p ∧ p.length ≤ 14) (fun _ _ => False) := fun p S hS hr hl => by
      have : sRet (mTup (mCons (mV 2) (mCons (mV 3) mNil))) [some (.l 1), some (.v (.int 8)), some (.v (.int n)), some (.v (plD p)), some (.v (.int kd)), none, none, none, none] S = .rt (.v (.tup [.int n, plD p])) S := by simp
      rw [this]
      exact ⟨n, p, rfl, hS, by omega, by omega, hr, hl⟩
    rcases (by omega : kd = 0 ∨ kd = 1 ∨ kd = 2 ∨ kd = 3) with rfl | rfl | rfl | rfl
    · refine wx_to (ρ' := _) (S' := S4) (by rw [sIf_ap]; rfl) ?_
      refine wx_to (ρ' := _) (S' := S4) (by rw [sIf_ap]; rfl) ?_
      refine wx_to (ρ' := _) (S' := S4) (by rw [sIf_ap]; rfl) ?_
      exact fin p1 S4 i4 r1 (by omega)
    · refine wx_to (ρ' := _) (S' := S4) (by rw [sIf_ap]; exact plan_2 r1 (by omega)) ?_
      refine wx_to (ρ' := _) (S' := S4) (by rw [sIf_ap]; rfl) ?_
      refine wx_to (ρ' := _) (S' := S4) (by rw [sIf_ap]; rfl) ?_
      refine fin _ S4 i4 ?_ (by simp; omega)
      intro gs hg
      rcases List.mem_append.mp hg with hg | hg
      · exact r1 gs hg
      · obtain ⟨g0, hg0, rfl⟩ := List.mem_map.mp hg
        exact (r1 g0 hg0).1.sw.sort
    · refine wx_to (ρ' := _) (S' := S4) (by rw [sIf_ap]; rfl) ?_
      obtain ⟨p2, S5, e6, i5, r2, l2⟩ := plan_3 (kd := 2) i4 r1 (by omega)
      refine wx_to (ρ' := _) (S' := S5) (by rw [sIf_ap]; exact e6) ?_
      refine wx_to (ρ' := _) (S' := S5) (by rw [sIf_ap]; rfl) ?_
      exact fin p2 S5 i5 r2 (by omega)
    · refine wx_to (ρ' := _) (S' := S4) (by rw [sIf_ap]; rfl) ?_
      refine wx_to (ρ' := _) (S' := S4) (by rw [sIf_ap]; rfl) ?_
      obtain ⟨i, k3, S5, e6, i5, hk3, em5⟩ := draw i4 (m := 3) (by decide)
      have em5' : gMod (.int i) (.int 3) = some (.v (.int k3)) := em5
      have hs : gSl none (some (k3 : Int)) (plD p1) = some (.v (plD (p1.take k3))) := by
        show some (Val.v (.tup (M.cutD (p1.map rdD) none (some (k3 : Int))))) = _
        rw [cut_to', ← List.map_take]
        rfl
      have hadd : gAdd (plD p1) (plD (p1.take k3)) = some (.v (plD (p1 ++ p1.take k3))) := by
        unfold plD
        rw [gAdd_tup (lim1 (by simp; omega)), List.map_append]
      refine wx_to (ρ' := [some (.l 1), some (.v (.int 8)), some (.v (.int n)), some (.v (plD (p1 ++ p1.take k3))), some (.v (.int 3)), none, none, none, none]) (S' := S5) ?_ ?_
      · simp [e6, em5', hs, hadd]
      refine fin _ S5 i5 ?_ (by simp; omega)
      intro gs hg
      rcases List.mem_append.mp hg with hg | hg
      · exact r1 gs hg
      · exact r1 gs (List.mem_of_mem_take hg)
  obtain ⟨es, rfl, d⟩ := id h
  unfold f__law_plan
  rw [mkFn_ap (np := 2) rfl]
  show ∃ n p S', leave 2 (body__law_plan [some (.l 1), some (.v (.int 8)), none, none, none, none, none, none, none] [a, some (.li (es.map D.int))]) = _ ∧ _
  cases hr : body__law_plan [some (.l 1), some (.v (.int 8)), none, none, none, none, none, none, none] [a, some (.li (es.map D.int))] with
  | rt x S' =>
    rw [hr] at main
    obtain ⟨n, p, rfl, i', r⟩ := main
    obtain ⟨fs, rfl, df⟩ := id i'
    exact ⟨n, p, _, rfl, i', r⟩
  | nx ρ S' => rw [hr] at main; exact main.elim
  | bk ρ S' => rw [hr] at main; exact main.elim
  | ct ρ S' => rw [hr] at main; exact main.elim
  | er e ρ S' => rw [hr] at main; exact main.elim
  | bad => rw [hr] at main; exact main.elim
end G00

namespace G00
open PySem PySem.Spec PyProof.Rows L2 M PR
theorem Rs.plan {n : Nat} {p : List (List (Int × Int))} (h : Rs n p) (h2 : 2 ≤ n) (h8 : n ≤ 8) (hl : p.length ≤ 14) : PlanOk n p :=
  ⟨fun gs hg => (h gs hg).1.ok (h gs hg).2, by omega, by omega, by omega⟩
/-- what may be told as a trouble -/
inductive Told : D → Prop
  | tr {w : PySem.Str} {i j : Int} : PyData.strOk w = true → Told (trD w i j)
  | len {ds : List D} : ds.length ≠ 3 → Told (.tup ds)
section
variable {n : Nat} {p : List (List (Int × Int))} {S : Sto} {d : D} {dbl : Bool}
theorem tells_ok (h : PlanOk n p) (ht : Told d) : f_tells_trouble [.v (.int n), .v (plD p), .v d, .v (.bl dbl)] S = .ok (.v (.bl (decide (d ∈ trs n p.flatten dbl)))) S := by
  cases ht with
  | tr hw => exact tells_tr hw h.few
  | len hl => exact tells_len hl
theorem is_single_trouble_ok (h : PlanOk n p) (ht : Told d) : f_is_single_trouble [.v (.int n), .v (plD p), .v d] S = .ok (.v (.bl (decide (d ∈ trs n p.flatten false)))) S := by
  unfold f_is_single_trouble
  rw [mkFn_ap (np := 3) rfl]
  refine leave_wx ?_
  unfold body_is_single_trouble
  simp [check_plan_ok h, tells_ok h ht]
theorem is_double_trouble_ok (h : PlanOk n p) (ht : Told d) : f_is_double_trouble [.v (.int n), .v (plD p), .v d] S = .ok (.v (.bl (decide (d ∈ trs n p.flatten true)))) S := by
  unfold f_is_double_trouble
  rw [mkFn_ap (np := 3) rfl]
  refine leave_wx ?_
  unfold body_is_double_trouble
  simp [check_plan_ok h, tells_ok h ht]
theorem pattern_ok {t : Int} (h : PlanOk n p) (h0 : 0 ≤ t) (h1 : t < n) : f_pattern [.v (.int n), .v (plD p), .v (.int t)] S = .ok (.v (.tup ((pat p t).map D.int))) S := by
  have hl := h.len
  have hn := h.n60
  unfold f_pattern
  rw [mkFn_ap (np := 3) rfl]
  refine leave_wx ?_
  unfold body_pattern
  simp [check_plan_ok h, check_team_ok h0 h1, pattern_of_ok (S := S) (t := t) h.rounds (by omega) (by omega) (by omega)]
theorem pattern_no {t : Int} (h : PlanOk n p) (ht : ¬(0 ≤ t ∧ t < n)) : f_pattern [.v (.int n), .v (plD p), .v (.int t)] S = .er ⟨"BadNumber", none⟩ S := by
  unfold f_pattern
  rw [mkFn_ap (np := 3) rfl]
  refine leave_er' ?_
  unfold body_pattern
  simp [check_plan_ok h, check_team_no ht]
def brD (p : List (List (Int × Int))) (t : Int) : D := .tup ((brk (pat p t)).map D.int)
theorem pat_len {t : Int} : (pat p t).length = p.length := by simp [pat]
theorem breaks_ok (h : PlanOk n p) : f_breaks [.v (.int n), .v (plD p)] S = .ok (.v (.tup ((ups n).map (brD p)))) S := by
  have hl := h.len
  have hn := h.n60
  unfold f_breaks
  rw [mkFn_ap (np := 2) rfl]
  refine leave_wx ?_
  unfold body_breaks
  refine wx_to (ρ' := [some (.v (.int n)), some (.v (plD p)), none]) (S' := S) (by simp [check_plan_ok h]) ?_
  rw [sRet_ap, lcTup (S := S) (f := D.int) (F := brD p) (xs := ups n) (by simp [rng1_ups (by omega : n ≤ 1000000000)]) (lim1 (by simp; omega)) fun t ht => ⟨_, rfl, by
    have ht2 := mem_ups.mp ht
    have hb := breaks_in_ok (es := pat p t) (S := S) (by rw [pat_len]; omega)
    simp [wipeM, pattern_of_ok (S := S) (t := t) h.rounds (by omega) (by omega) (by omega), hb, brD]⟩]
  simp
def mxR (n : Nat) (p : List (List (Int × Int))) : Int := maxI ((ups n).map fun t => (runs (pat p t)).1)
theorem maxD_ints {ns : List Int} (h : ns ≠ []) : g1 maxD [.lst (ns.map D.int)] = some (.v (.int (maxI ns))) := by
  show maxD (.lst _) = _
  unfold maxD
  dsimp only
  rw [intsOf_map]
  cases ns with
  | nil => exact absurd rfl h
  | cons a l => rfl
theorem longest_ok (h : PlanOk n p) : f_longest_run [.v (.int n), .v (plD p)] S = .ok (.v (.int (mxR n p))) S := by
  have hl := h.len
  have hn := h.n60
  have h2 := h.n2
  unfold f_longest_run
  rw [mkFn_ap (np := 2) rfl]
  refine leave_wx ?_
  unfold body_longest_run
  refine wx_to (ρ' := [some (.v (.int n)), some (.v (plD p)), none]) (S' := S) (by simp [check_plan_ok h]) ?_
  have hne : (ups n).map (fun t => (runs (pat p t)).1) ≠ [] := fun e => by
    have := congrArg List.length e
    simp at this
    omega
  have hm := maxD_ints hne
  rw [List.map_map] at hm
  rw [sRet_ap, mB_ap, mCons_ap, mFz_ap, lcm (S := S) (f := D.int) (F := fun t => .int (runs (pat p t)).1) (xs := ups n) (by simp [rng1_ups (by omega : n ≤ 1000000000)]) (lim1 (by simp; omega)) fun t ht => ⟨_, rfl, by
    have ht2 := mem_ups.mp ht
    have hb := run_in_ok (es := pat p t) (S := S)
    simp [wipeM, pattern_of_ok (S := S) (t := t) h.rounds (by omega) (by omega) (by omega), hb]⟩]
  have hm' : g1 maxD [.lst ((ups n).map fun t => .int (runs (pat p t)).1)] = some (.v (.int (mxR n p))) := hm
  simp [hm']
end
end G00

namespace G00
open PySem PySem.Spec PyProof.Rows L2 M PR
def z1 : SM := (sSet 1 (mAl (mCall f__law_draws (mCons (mV 0) mNil))))
def z2 : SM := (sSet 1 (mAl (mCall f__law_more (mCons (mV 1) (mCons (mC (.int 200)) mNil)))))
def z3_v : VM := (mTup (mCons (mTup (mCons (mTup (mCons (mC (.int 0)) (mCons (mC (.int 3)) mNil))) (mCons (mTup (mCons (mC (.int 1)) (mCons (mC (.int 2)) mNil))) mNil))) (mCons (mTup (mCons (mTup (mCons (mC (.int 2)) (mCons (mC (.int 0)) mNil))) (mCons (mTup (mCons (mC (.int 3)) (mCons (mC (.int 1)) mNil))) mNil))) (mCons (mTup (mCons (mTup (mCons (mC (.int 0)) (mCons (mC (.int 1)) mNil))) (mCons (mTup (mCons (mC (.int 2)) (mCons (mC (.int 3)) mNil))) mNil))) mNil))))
def z3 : SM := (sSet 2 z3_v)
def z4_v : VM := (mFz (mLst (mCons (mCall f_is_single (mCons (mC (.int 4)) (mCons (mV 2) mNil))) (mCons (mCall f_is_full (mCons (mC (.int 4)) (mCons (mV 2) mNil))) (mCons (mCall f_breaks (mCons (mC (.int 4)) (mCons (mV 2) mNil))) (mCons (mFz (mLC (mRng rng1 (mCons (mC (.int 4)) mNil)) (pN 19) mYes (mCall f_pattern (mCons (mC (.int 4)) (mCons (mV 2) (mCons (mV 19) mNil)))) [19])) (mCons (mCall f_longest_run (mCons (mC (.int 4)) (mCons (mV 2) mNil))) mNil)))))))
def z4 : SM := (sSet 3 z4_v)
def z5_t : TM := (mTB (mOp gNe (mB (g1 reprD) (mCons (mV 3) mNil)) (mB (g1 reprD) (mCons (mFz (mLst (mCons (mC (.bl true)) (mCons (mC (.bl true)) (mCons (mTup (mCons (mTup mNil) (mCons (mTup (mCons (mC (.int 2)) mNil)) (mCons (mTup (mCons (mC (.int 2)) mNil)) (mCons (mTup mNil) mNil))))) (mCons (mFz (mLst (mCons (mTup (mCons (mC (.int 0)) (mCons (mC (.int 1)) (mCons (mC (.int 0)) mNil)))) (mCons (mTup (mCons (mC (.int 0)) (mCons (mC (.int 1)) (mCons (mC (.int 1)) mNil)))) (mCons (mTup (mCons (mC (.int 1)) (mCons (mC (.int 0)) (mCons (mC (.int 0)) mNil)))) (mCons (mTup (mCons (mC (.int 1)) (mCons (mC (.int 0)) (mCons (mC (.int 1)) mNil)))) mNil)))))) (mCons (mC (.int 2)) mNil))))))) mNil))))
def z5 : SM := (sIf z5_t (sRet (mC (.bl false))) sSkip)
def z6 : SM := (sAsg (mCall f__law_plan (mCons (mV 1) (mCons (mC (.int 8)) mNil))) (gT 2 (gsC (gN 4) (gsC (gN 5) gsN))))
def z7 : SM := (sPar 6 7 (mCons (mCall f__law_troubles (mCons (mV 4) (mCons (mV 5) (mCons (mC (.bl false)) mNil)))) (mCons (mCall f__law_troubles (mCons (mV 4) (mCons (mV 5) (mCons (mC (.bl true)) mNil)))) mNil)))
def z8_v : VM := (mIfE (mTB (mOp gEq (mOp gMod (mB (g1 intD) (mCons (mV 4) mNil)) (mC (.int 2))) (mC (.int 0)))) (mOp gSub (mV 4) (mC (.int 1))) (mV 4))
def z8 : SM := (sSet 8 z8_v)
def z9_v : VM := (mOrV (mAndV (mOp gEq (mV 6) (mLst mNil)) (mOp gEq (mB (g1 lenD) (mCons (mV 5) mNil)) (mV 8))) (mAndV (mOp gNe (mV 6) (mLst mNil)) (mAndV (mOp gEq (mV 7) (mLst mNil)) (mOp gEq (mB (g1 lenD) (mCons (mV 5) mNil)) (mOp gMulA (mC (.int 2)) (mV 8))))))
def z9 : SM := (sSet 9 z9_v)
def z10_v : VM := (mFz (mLC (mRng rng1 (mCons (mV 4) mNil)) (pN 19) mYes (mCall f__law_pattern (mCons (mV 5) (mCons (mV 19) mNil))) [19]))
def z10 : SM := (sSet 10 z10_v)
def z11_t : TM := (mTB (mOp (gIsB true) (mCall f_is_plan (mCons (mV 4) (mCons (mV 5) mNil))) (mC (.bl true))))
def z11 : SM := (sIf z11_t (sRet (mC (.bl false))) sSkip)
def z12_v : VM := (mFz (mLst (mCons (mOp gEq (mV 6) (mLst mNil)) (mCons (mOp gEq (mV 7) (mLst mNil)) (mCons (mV 9) (mCons (mB (g1 tupleD) (mCons (mFz (mLC (mItA (mV 10)) (pN 20) mYes (mCall f__law_breaks (mCons (mV 20) mNil)) [20])) mNil)) (mCons (mB (g1 maxD) (mCons (mFz (mLC (mItA (mV 10)) (pN 20) mYes (mCall f__law_run (mCons (mV 20) mNil)) [20])) mNil)) mNil)))))))
def z12 : SM := (sSet 11 z12_v)
def z13_t : TM := (mTB (mOp gNe (mB (g1 reprD) (mCons (mFz (mLC (mItA (mLst (mCons (mC (.int 0)) (mCons (mC (.int 1)) (mCons (mC (.int 2)) (mCons (mC (.int 5)) (mCons (mC (.int 6)) mNil))))))) (pN 12) mYes (mCall f__law_asked (mCons (mV 12) (mCons (mV 4) (mCons (mV 5) (mCons (mC .non) mNil))))) [12])) mNil)) (mB (g1 reprD) (mCons (mV 11) mNil))))
def z13 : SM := (sIf z13_t (sRet (mC (.bl false))) sSkip)
def z14_t : TM := (mTB (mOp gNe (mLC (mRng rng1 (mCons (mV 4) mNil)) (pN 19) mYes (mCall f__law_asked (mCons (mC (.int 7)) (mCons (mV 4) (mCons (mV 5) (mCons (mV 19) mNil))))) [19]) (mV 10)))
def z14 : SM := (sIf z14_t (sRet (mC (.bl false))) sSkip)
def z15_1_v : VM := (mCall f__law_asked (mCons (mV 12) (mCons (mV 4) (mCons (mV 5) (mCons (mC .non) mNil)))))
def z15_1 : SM := (sSet 16 z15_1_v)
def z15_2_t : TM := (mOr (mTB (mOp gNe (mOp (gIsN false) (mV 16) (mC .non)) (mOp gEq (mV 13) (mLst mNil)))) (mAnd (mTB (mOp (gIsN true) (mV 16) (mC .non))) (mTB (mOp (gIn true) (mV 16) (mV 13)))))
def z15_2 : SM := (sIf z15_2_t (sRet (mC (.bl false))) sSkip)
def z15_3 : SM := (sPar 17 18 (mCons (mOp gMod (mB (g1 intD) (mCons (mCall f__law_next (mCons (mV 1) mNil)) mNil)) (mV 4)) (mCons (mOp gMod (mB (g1 intD) (mCons (mCall f__law_next (mCons (mV 1) mNil)) mNil)) (mV 4)) mNil)))
def z15_4_it : IM := (mItA (mOp gAdd (mOp gAdd (mSl (mV 13) oNo (oAt (mC (.int 2)))) (mSl (mV 13) (oAt (mUn gNeg (mC (.int 1)))) oNo)) (mLst (mCons (mTup (mCons (mC (.str "lacks")) (mCons (mV 17) (mCons (mV 18) mNil)))) (mCons (mTup (mCons (mC (.str "more")) (mCons (mV 17) (mCons (mV 18) mNil)))) (mCons (mTup (mCons (mC (.str "lacks")) (mCons (mV 18) (mCons (mV 17) mNil)))) (mCons (mTup (mCons (mC (.str "more")) (mCons (mV 17) (mCons (mV 4) mNil)))) (mCons (mTup (mCons (mC (.str "lacks")) (mCons (mUn gNeg (mC (.int 1))) (mCons (mV 18) mNil)))) (mCons (mTup (mCons (mC (.str "x")) (mCons (mV 17) (mCons (mV 18) mNil)))) (mCons (mTup (mCons (mC (.str "lacks")) (mCons (mV 17) mNil))) (mCons (mTup (mCons (mC (.str "more")) (mCons (mV 17) (mCons (mV 18) (mCons (mC (.int 0)) mNil))))) (mCons (mTup mNil) mNil))))))))))))
def z15_4 : SM := (sFor z15_4_it (gN 15) (sIf (mTB (mOp gNe (mB (g1 reprD) (mCons (mCall f__law_asked (mCons (mOp gAdd (mV 12) (mC (.int 5))) (mCons (mV 4) (mCons (mV 5) (mCons (mV 15) mNil))))) mNil)) (mB (g1 reprD) (mCons (mOp (gIn false) (mV 15) (mV 13)) mNil)))) (sRet (mC (.bl false))) sSkip))
def z15_it : IM := (mItA (mLst (mCons (mTup (mCons (mC (.int 3)) (mCons (mV 6) mNil))) (mCons (mTup (mCons (mC (.int 4)) (mCons (mV 7) mNil))) mNil))))
def z15 : SM := (sFor z15_it (gT 2 (gsC (gN 12) (gsC (gN 13) gsN))) (sSeq z15_1 (sSeq z15_2 (sSeq z15_3 z15_4))))
def z16_v : VM := (mFz (mLst (mCons (mTup (mCons (mC (.int 1)) (mCons (mTup mNil) mNil))) (mCons (mTup (mCons (mC (.int 61)) (mCons (mTup mNil) mNil))) (mCons (mTup (mCons (mV 4) (mCons (mOp gMulA (mTup (mCons (mTup mNil) mNil)) (mC (.int 201))) mNil))) (mCons (mTup (mCons (mV 4) (mCons (mTup (mCons (mTup (mCons (mTup (mCons (mC (.int 0)) (mCons (mC (.int 0)) mNil))) mNil)) mNil)) mNil))) (mCons (mTup (mCons (mV 4) (mCons (mTup (mCons (mTup (mCons (mTup (mCons (mC (.int 0)) (mCons (mV 4) mNil))) mNil)) mNil)) mNil))) (mCons (mTup (mCons (mV 4) (mCons (mTup (mCons (mTup (mCons (mTup (mCons (mC (.int 0)) (mCons (mC (.int 1)) mNil))) (mCons (mTup (mCons (mC (.int 0)) (mCons (mC (.int 1)) mNil))) mNil))) mNil)) mNil))) (mCons (mTup (mCons (mV 4) (mCons (mTup (mCons (mTup (mCons (mTup (mCons (mC (.int 0)) (mCons (mC (.int 1)) (mCons (mC (.int 0)) mNil)))) mNil)) mNil)) mNil))) (mCons (mTup (mCons (mV 4) (mCons (mTup (mCons (mTup (mCons (mTup (mCons (mUn gNeg (mC (.int 1))) (mCons (mC (.int 0)) mNil))) mNil)) mNil)) mNil))) (mCons (mTup (mCons (mC (.int 4)) (mCons (mTup (mCons (mTup (mCons (mTup (mCons (mC (.int 2)) (mCons (mC (.int 3)) mNil))) (mCons (mTup (mCons (mC (.int 0)) (mCons (mC (.int 1)) mNil))) mNil))) mNil)) mNil))) mNil)))))))))))
def z16 : SM := (sSet 14 z16_v)
def z17_v : VM := (mFz (mCall f__law_flat (mCons (mFz (mLC (mRng rng1 (mCons (mC (.int 10)) mNil)) (pN 12) mYes (mFz (mLC (mItA (mV 14)) (pN 13) mYes (mCall f__law_asked (mCons (mV 12) (mCons (mOp gIx (mV 13) (mC (.int 0))) (mCons (mOp gIx (mV 13) (mC (.int 1))) (mCons (mIfE (mTB (mOp gEq (mV 12) (mC (.int 7)))) (mC (.int 99)) (mTup mNil)) mNil))))) [13])) [12])) mNil)))
def z17 : SM := (sSet 15 z17_v)
def z18_t : TM := (mOr (mTB (mOp gNe (mLC (mItA (mV 14)) (pT 2 (psC (pN 21) (psC (pN 13) psN))) mYes (mCall f_is_plan (mCons (mV 21) (mCons (mV 13) mNil))) [21, 13]) (mRepL (mLst (mCons (mC (.bl false)) mNil)) (mC (.int 9))))) (mTB (mOp (gIsB true) (mCall f_is_plan (mCons (mC (.int 60)) (mCons (mOp gMulA (mTup (mCons (mTup mNil) mNil)) (mC (.int 200))) mNil))) (mC (.bl true)))))
def z18 : SM := (sIf z18_t (sRet (mC (.bl false))) sSkip)
def z19 : SM := (sRet (mAndV (mOp gEq (mV 15) (mRepL (mLst (mCons (mC (.str "!plan")) mNil)) (mC (.int 90)))) (mOp gEq (mLC (mItA (mLst (mCons (mUn gNeg (mC (.int 1))) (mCons (mV 4) mNil)))) (pN 19) mYes (mCall f__law_asked (mCons (mC (.int 7)) (mCons (mV 4) (mCons (mV 5) (mCons (mV 19) mNil))))) [19]) (mRepL (mLst (mCons (mC (.str "!number")) mNil)) (mC (.int 2))))))
theorem body_law_parts : body_law = (sSeq z1 (sSeq z2 (sSeq z3 (sSeq z4 (sSeq z5 (sSeq z6 (sSeq z7 (sSeq z8 (sSeq z9 (sSeq z10 (sSeq z11 (sSeq z12 (sSeq z13 (sSeq z14 (sSeq z15 (sSeq z16 (sSeq z17 (sSeq z18 z19)))))))))))))))))) := by kernel_rfl
/-! ### asked -/
section
variable {x y z d : D} {e : Exc} {S : Sto}
theorem lk0 : List.lookup ("is_single" : PySem.Str) ftab__law_asked = some f_is_single := rfl
theorem lk1 : List.lookup ("is_double" : PySem.Str) ftab__law_asked = some f_is_double := rfl
theorem lk2 : List.lookup ("is_full" : PySem.Str) ftab__law_asked = some f_is_full := rfl
theorem lk3 : List.lookup ("single_trouble" : PySem.Str) ftab__law_asked = some f_single_trouble := rfl
theorem lk4 : List.lookup ("double_trouble" : PySem.Str) ftab__law_asked = some f_double_trouble := rfl
theorem lk5 : List.lookup ("breaks" : PySem.Str) ftab__law_asked = some f_breaks := rfl
theorem lk6 : List.lookup ("longest_run" : PySem.Str) ftab__law_asked = some f_longest_run := rfl
theorem lk7 : List.lookup ("pattern" : PySem.Str) ftab__law_asked = some f_pattern := rfl
theorem lk8 : List.lookup ("is_single_trouble" : PySem.Str) ftab__law_asked = some f_is_single_trouble := rfl
theorem lk9 : List.lookup ("is_double_trouble" : PySem.Str) ftab__law_asked = some f_is_double_trouble := rfl
theorem fnW : gIx (.lst [.fn "is_single", .fn "is_double", .fn "is_full", .fn "single_trouble", .fn "double_trouble", .fn "breaks", .fn "longest_run"]) (.int 0) = some (.v (.fn "is_single")) ∧
   gIx (.lst [.fn "is_single", .fn "is_double", .fn "is_full", .fn "single_trouble", .fn "double_trouble", .fn "breaks", .fn "longest_run"]) (.int 1) = some (.v (.fn "is_double")) ∧
   gIx (.lst [.fn "is_single", .fn "is_double", .fn "is_full", .fn "single_trouble", .fn "double_trouble", .fn "breaks", .fn "longest_run"]) (.int 2) = some (.v (.fn "is_full")) ∧
   gIx (.lst [.fn "is_single", .fn "is_double", .fn "is_full", .fn "single_trouble", .fn "double_trouble", .fn "breaks", .fn "longest_run"]) (.int 3) = some (.v (.fn "single_trouble")) ∧
   gIx (.lst [.fn "is_single", .fn "is_double", .fn "is_full", .fn "single_trouble", .fn "double_trouble", .fn "breaks", .fn "longest_run"]) (.int 4) = some (.v (.fn "double_trouble")) ∧
   gIx (.lst [.fn "is_single", .fn "is_double", .fn "is_full", .fn "single_trouble", .fn "double_trouble", .fn "breaks", .fn "longest_run"]) (.int 5) = some (.v (.fn "breaks")) ∧
   gIx (.lst [.fn "is_single", .fn "is_double", .fn "is_full", .fn "single_trouble", .fn "double_trouble", .fn "breaks", .fn "longest_run"]) (.int 6) = some (.v (.fn "longest_run")) ∧
   gIx (.lst [.fn "pattern", .fn "is_single_trouble", .fn "is_double_trouble"]) (.int 0) = some (.v (.fn "pattern")) ∧
   gIx (.lst [.fn "pattern", .fn "is_single_trouble", .fn "is_double_trouble"]) (.int 1) = some (.v (.fn "is_single_trouble")) ∧
   gIx (.lst [.fn "pattern", .fn "is_single_trouble", .fn "is_double_trouble"]) (.int 2) = some (.v (.fn "is_double_trouble")) := ⟨rfl, rfl, rfl, rfl, rfl, rfl, rfl, rfl, rfl, rfl⟩
theorem asked0 (h : f_is_single [.v x, .v y] S = .ok (.v d) S) : f__law_asked [.v (.int 0), .v x, .v y, .v z] S = .ok (.v d) S := by
  unfold f__law_asked
  rw [mkFn_ap (np := 4) rfl]
  refine leave_wx ?_
  unfold body__law_asked
  simp [sTryK_ap, fnW, lk0, h]
theorem asked1 (h : f_is_double [.v x, .v y] S = .ok (.v d) S) : f__law_asked [.v (.int 1), .v x, .v y, .v z] S = .ok (.v d) S := by
  unfold f__law_asked
  rw [mkFn_ap (np := 4) rfl]
  refine leave_wx ?_
  unfold body__law_asked
  simp [sTryK_ap, fnW, lk1, h]
theorem asked2 (h : f_is_full [.v x, .v y] S = .ok (.v d) S) : f__law_asked [.v (.int 2), .v x, .v y, .v z] S = .ok (.v d) S := by
  unfold f__law_asked
  rw [mkFn_ap (np := 4) rfl]
  refine leave_wx ?_
  unfold body__law_asked
  simp [sTryK_ap, fnW, lk2, h]
theorem asked3 (h : f_single_trouble [.v x, .v y] S = .ok (.v d) S) : f__law_asked [.v (.int 3), .v x, .v y, .v z] S = .ok (.v d) S := by
  unfold f__law_asked
  rw [mkFn_ap (np := 4) rfl]
  refine leave_wx ?_
  unfold body__law_asked
  simp [sTryK_ap, fnW, lk3, h]
theorem asked4 (h : f_double_trouble [.v x, .v y] S = .ok (.v d) S) : f__law_asked [.v (.int 4), .v x, .v y, .v z] S = .ok (.v d) S := by
  unfold f__law_asked
  rw [mkFn_ap (np := 4) rfl]
  refine leave_wx ?_
  unfold body__law_asked
  simp [sTryK_ap, fnW, lk4, h]
theorem asked5 (h : f_breaks [.v x, .v y] S = .ok (.v d) S) : f__law_asked [.v (.int 5), .v x, .v y, .v z] S = .ok (.v d) S := by
  unfold f__law_asked
  rw [mkFn_ap (np := 4) rfl]
  refine leave_wx ?_
  unfold body__law_asked
  simp [sTryK_ap, fnW, lk5, h]
theorem asked6 (h : f_longest_run [.v x, .v y] S = .ok (.v d) S) : f__law_asked [.v (.int 6), .v x, .v y, .v z] S = .ok (.v d) S := by
  unfold f__law_asked
  rw [mkFn_ap (np := 4) rfl]
  refine leave_wx ?_
  unfold body__law_asked
  simp [sTryK_ap, fnW, lk6, h]
theorem asked7 (h : f_pattern [.v x, .v y, .v z] S = .ok (.v d) S) : f__law_asked [.v (.int 7), .v x, .v y, .v z] S = .ok (.v d) S := by
  unfold f__law_asked
  rw [mkFn_ap (np := 4) rfl]
  refine leave_wx ?_
  unfold body__law_asked
  simp [sTryK_ap, fnW, lk7, h]
theorem asked8 (h : f_is_single_trouble [.v x, .v y, .v z] S = .ok (.v d) S) : f__law_asked [.v (.int 8), .v x, .v y, .v z] S = .ok (.v d) S := by
  unfold f__law_asked
  rw [mkFn_ap (np := 4) rfl]
  refine leave_wx ?_
  unfold body__law_asked
  simp [sTryK_ap, fnW, lk8, h]
theorem asked9 (h : f_is_double_trouble [.v x, .v y, .v z] S = .ok (.v d) S) : f__law_asked [.v (.int 9), .v x, .v y, .v z] S = .ok (.v d) S := by
  unfold f__law_asked
  rw [mkFn_ap (np := 4) rfl]
  refine leave_wx ?_
  unfold body__law_asked
  simp [sTryK_ap, fnW, lk9, h]
theorem tabN : List.lookup ("BadNumber" : PySem.Str) tabK = some ("!number" : PySem.Str) := rfl
theorem asked7n (h : f_pattern [.v x, .v y, .v z] S = .er ⟨"BadNumber", none⟩ S) : f__law_asked [.v (.int 7), .v x, .v y, .v z] S = .ok (.v (.str "!number")) S := by
  unfold f__law_asked
  rw [mkFn_ap (np := 4) rfl]
  refine leave_wx ?_
  unfold body__law_asked
  simp [sTryK_ap, fnW, lk7, h, tabN]
end
/-! ### the closed parts -/
def pats4 : D := .lst [.tup [.int 0, .int 1, .int 0], .tup [.int 0, .int 1, .int 1], .tup [.int 1, .int 0, .int 0], .tup [.int 1, .int 0, .int 1]]
def knD : D := .tup [.tup [.tup [.int 0, .int 3], .tup [.int 1, .int 2]], .tup [.tup [.int 2, .int 0], .tup [.int 3, .int 1]], .tup [.tup [.int 0, .int 1], .tup [.int 2, .int 3]]]
def anD : D := .lst [.bl true, .bl true, .tup [.tup [], .tup [.int 2], .tup [.int 2], .tup []], pats4, .int 2]
theorem z3_ok {o0 o1 o2 o3 o4 o5 o6 o7 o8 o9 o10 o11 o12 o13 o14 o15 o16 o17 o18 o19 o20 o21 : Option Val} {S : Sto} : z3 [o0, o1, o2, o3, o4, o5, o6, o7, o8, o9, o10, o11, o12, o13, o14, o15, o16, o17, o18, o19, o20, o21] S = .nx [o0, o1, some (.v knD), o3, o4, o5, o6, o7, o8, o9, o10, o11, o12, o13, o14, o15, o16, o17, o18, o19, o20, o21] S := by kernel_rfl
theorem z4_ok {o0 o1 o3 o4 o5 o6 o7 o8 o9 o10 o11 o12 o13 o14 o15 o16 o17 o18 o19 o20 o21 : Option Val} {a b : Option Ob} : z4 [o0, o1, some (.v knD), o3, o4, o5, o6, o7, o8, o9, o10, o11, o12, o13, o14, o15, o16, o17, o18, o19, o20, o21] [a, b] = .nx [o0, o1, some (.v knD), some (.v anD), o4, o5, o6, o7, o8, o9, o10, o11, o12, o13, o14, o15, o16, o17, o18, o19, o20, o21] [a, b] := by kernel_rfl
theorem z5_ok {o0 o1 o2 o4 o5 o6 o7 o8 o9 o10 o11 o12 o13 o14 o15 o16 o17 o18 o19 o20 o21 : Option Val} {a b : Option Ob} : z5 [o0, o1, o2, some (.v anD), o4, o5, o6, o7, o8, o9, o10, o11, o12, o13, o14, o15, o16, o17, o18, o19, o20, o21] [a, b] = .nx [o0, o1, o2, some (.v anD), o4, o5, o6, o7, o8, o9, o10, o11, o12, o13, o14, o15, o16, o17, o18, o19, o20, o21] [a, b] := by kernel_rfl
def wrD (n : Int) : D := match z16_v [none, none, none, none, some (.v (.int n))] [] with
  | .ok (.v d) _ => d
  | _ => .non
def tol : D := .lst (List.replicate 90 (.str "!plan"))
theorem z16_2 {o0 o1 o2 o3 o5 o6 o7 o8 o9 o10 o11 o12 o13 o14 o15 o16 o17 o18 o19 o20 o21 : Option Val} {a b : Option Ob} : z16 [o0, o1, o2, o3, some (.v (.int 2)), o5, o6, o7, o8, o9, o10, o11, o12, o13, o14, o15, o16, o17, o18, o19, o20, o21] [a, b] = .nx [o0, o1, o2, o3, some (.v (.int 2)), o5, o6, o7, o8, o9, o10, o11, o12, o13, some (.v (wrD 2)), o15, o16, o17, o18, o19, o20, o21] [a, b] := by kernel_rfl
theorem z16_3 {o0 o1 o2 o3 o5 o6 o7 o8 o9 o10 o11 o12 o13 o14 o15 o16 o17 o18 o19 o20 o21 : Option Val} {a b : Option Ob} : z16 [o0, o1, o2, o3, some (.v (.int 3)), o5, o6, o7, o8, o9, o10, o11, o12, o13, o14, o15, o16, o17, o18, o19, o20, o21] [a, b] = .nx [o0, o1, o2, o3, some (.v (.int 3)), o5, o6, o7, o8, o9, o10, o11, o12, o13, some (.v (wrD 3)), o15, o16, o17, o18, o19, o20, o21] [a, b] := by kernel_rfl
theorem z16_4 {o0 o1 o2 o3 o5 o6 o7 o8 o9 o10 o11 o12 o13 o14 o15 o16 o17 o18 o19 o20 o21 : Option Val} {a b : Option Ob} : z16 [o0, o1, o2, o3, some (.v (.int 4)), o5, o6, o7, o8, o9, o10, o11, o12, o13, o14, o15, o16, o17, o18, o19, o20, o21] [a, b] = .nx [o0, o1, o2, o3, some (.v (.int 4)), o5, o6, o7, o8, o9, o10, o11, o12, o13, some (.v (wrD 4)), o15, o16, o17, o18, o19, o20, o21] [a, b] := by kernel_rfl
theorem z16_5 {o0 o1 o2 o3 o5 o6 o7 o8 o9 o10 o11 o12 o13 o14 o15 o16 o17 o18 o19 o20 o21 : Option Val} {a b : Option Ob} : z16 [o0, o1, o2, o3, some (.v (.int 5)), o5, o6, o7, o8, o9, o10, o11, o12, o13, o14, o15, o16, o17, o18, o19, o20, o21] [a, b] = .nx [o0, o1, o2, o3, some (.v (.int 5)), o5, o6, o7, o8, o9, o10, o11, o12, o13, some (.v (wrD 5)), o15, o16, o17, o18, o19, o20, o21] [a, b] := by kernel_rfl
theorem z16_6 {o0 o1 o2 o3 o5 o6 o7 o8 o9 o10 o11 o12 o13 o14 o15 o16 o17 o18 o19 o20 o21 : Option Val} {a b : Option Ob} : z16 [o0, o1, o2, o3, some (.v (.int 6)), o5, o6, o7, o8, o9, o10, o11, o12, o13, o14, o15, o16, o17, o18, o19, o20, o21] [a, b] = .nx [o0, o1, o2, o3, some (.v (.int 6)), o5, o6, o7, o8, o9, o10, o11, o12, o13, some (.v (wrD 6)), o15, o16, o17, o18, o19, o20, o21] [a, b] := by kernel_rfl
theorem z16_7 {o0 o1 o2 o3 o5 o6 o7 o8 o9 o10 o11 o12 o13 o14 o15 o16 o17 o18 o19 o20 o21 : Option Val} {a b : Option Ob} : z16 [o0, o1, o2, o3, some (.v (.int 7)), o5, o6, o7, o8, o9, o10, o11, o12, o13, o14, o15, o16, o17, o18, o19, o20, o21] [a, b] = .nx [o0, o1, o2, o3, some (.v (.int 7)), o5, o6, o7, o8, o9, o10, o11, o12, o13, some (.v (wrD 7)), o15, o16, o17, o18, o19, o20, o21] [a, b] := by kernel_rfl
theorem z16_8 {o0 o1 o2 o3 o5 o6 o7 o8 o9 o10 o11 o12 o13 o14 o15 o16 o17 o18 o19 o20 o21 : Option Val} {a b : Option Ob} : z16 [o0, o1, o2, o3, some (.v (.int 8)), o5, o6, o7, o8, o9, o10, o11, o12, o13, o14, o15, o16, o17, o18, o19, o20, o21] [a, b] = .nx [o0, o1, o2, o3, some (.v (.int 8)), o5, o6, o7, o8, o9, o10, o11, o12, o13, some (.v (wrD 8)), o15, o16, o17, o18, o19, o20, o21] [a, b] := by kernel_rfl
theorem z17_2 {o0 o1 o2 o3 o4 o5 o6 o7 o8 o9 o10 o11 o12 o13 o15 o16 o17 o18 o19 o20 o21 : Option Val} {a b : Option Ob} : z17 [o0, o1, o2, o3, o4, o5, o6, o7, o8, o9, o10, o11, o12, o13, some (.v (wrD 2)), o15, o16, o17, o18, o19, o20, o21] [a, b] = .nx [o0, o1, o2, o3, o4, o5, o6, o7, o8, o9, o10, o11, o12, o13, some (.v (wrD 2)), some (.v tol), o16, o17, o18, o19, o20, o21] [a, b] := by kernel_rfl
theorem z17_3 {o0 o1 o2 o3 o4 o5 o6 o7 o8 o9 o10 o11 o12 o13 o15 o16 o17 o18 o19 o20 o21 : Option Val} {a b : Option Ob} : z17 [o0, o1, o2, o3, o4, o5, o6, o7, o8, o9, o10, o11, o12, o13, some (.v (wrD 3)), o15, o16, o17, o18, o19, o20, o21] [a, b] = .nx [o0, o1, o2, o3, o4, o5, o6, o7, o8, o9, o10, o11, o12, o13, some (.v (wrD 3)), some (.v tol), o16, o17, o18, o19, o20, o21] [a, b] := by kernel_rfl
theorem z17_4 {o0 o1 o2 o3 o4 o5 o6 o7 o8 o9 o10 o11 o12 o13 o15 o16 o17 o18 o19 o20 o21 : Option Val} {a b : Option Ob} : z17 [o0, o1, o2, o3, o4, o5, o6, o7, o8, o9, o10, o11, o12, o13, some (.v (wrD 4)), o15, o16, o17, o18, o19, o20, o21] [a, b] = .nx [o0, o1, o2, o3, o4, o5, o6, o7, o8, o9, o10, o11, o12, o13, some (.v (wrD 4)), some (.v tol), o16, o17, o18, o19, o20, o21] [a, b] := by kernel_rfl
theorem z17_5 {o0 o1 o2 o3 o4 o5 o6 o7 o8 o9 o10 o11 o12 o13 o15 o16 o17 o18 o19 o20 o21 : Option Val} {a b : Option Ob} : z17 [o0, o1, o2, o3, o4, o5, o6, o7, o8, o9, o10, o11, o12, o13, some (.v (wrD 5)), o15, o16, o17, o18, o19, o20, o21] [a, b] = .nx [o0, o1, o2, o3, o4, o5, o6, o7, o8, o9, o10, o11, o12, o13, some (.v (wrD 5)), some (.v tol), o16, o17, o18, o19, o20, o21] [a, b] := by kernel_rfl
theorem z17_6 {o0 o1 o2 o3 o4 o5 o6 o7 o8 o9 o10 o11 o12 o13 o15 o16 o17 o18 o19 o20 o21 : Option Val} {a b : Option Ob} : z17 [o0, o1, o2, o3, o4, o5, o6, o7, o8, o9, o10, o11, o12, o13, some (.v (wrD 6)), o15, o16, o17, o18, o19, o20, o21] [a, b] = .nx [o0, o1, o2, o3, o4, o5, o6, o7, o8, o9, o10, o11, o12, o13, some (.v (wrD 6)), some (.v tol), o16, o17, o18, o19, o20, o21] [a, b] := by kernel_rfl
theorem z17_7 {o0 o1 o2 o3 o4 o5 o6 o7 o8 o9 o10 o11 o12 o13 o15 o16 o17 o18 o19 o20 o21 : Option Val} {a b : Option Ob} : z17 [o0, o1, o2, o3, o4, o5, o6, o7, o8, o9, o10, o11, o12, o13, some (.v (wrD 7)), o15, o16, o17, o18, o19, o20, o21] [a, b] = .nx [o0, o1, o2, o3, o4, o5, o6, o7, o8, o9, o10, o11, o12, o13, some (.v (wrD 7)), some (.v tol), o16, o17, o18, o19, o20, o21] [a, b] := by kernel_rfl
theorem z17_8 {o0 o1 o2 o3 o4 o5 o6 o7 o8 o9 o10 o11 o12 o13 o15 o16 o17 o18 o19 o20 o21 : Option Val} {a b : Option Ob} : z17 [o0, o1, o2, o3, o4, o5, o6, o7, o8, o9, o10, o11, o12, o13, some (.v (wrD 8)), o15, o16, o17, o18, o19, o20, o21] [a, b] = .nx [o0, o1, o2, o3, o4, o5, o6, o7, o8, o9, o10, o11, o12, o13, some (.v (wrD 8)), some (.v tol), o16, o17, o18, o19, o20, o21] [a, b] := by kernel_rfl
theorem z18_2 {o0 o1 o2 o3 o4 o5 o6 o7 o8 o9 o10 o11 o12 o13 o15 o16 o17 o18 o19 o20 o21 : Option Val} {a b : Option Ob} : z18 [o0, o1, o2, o3, o4, o5, o6, o7, o8, o9, o10, o11, o12, o13, some (.v (wrD 2)), o15, o16, o17, o18, o19, o20, o21] [a, b] = .nx [o0, o1, o2, o3, o4, o5, o6, o7, o8, o9, o10, o11, o12, o13, some (.v (wrD 2)), o15, o16, o17, o18, o19, o20, o21] [a, b] := by kernel_rfl
theorem z18_3 {o0 o1 o2 o3 o4 o5 o6 o7 o8 o9 o10 o11 o12 o13 o15 o16 o17 o18 o19 o20 o21 : Option Val} {a b : Option Ob} : z18 [o0, o1, o2, o3, o4, o5, o6, o7, o8, o9, o10, o11, o12, o13, some (.v (wrD 3)), o15, o16, o17, o18, o19, o20, o21] [a, b] = .nx [o0, o1, o2, o3, o4, o5, o6, o7, o8, o9, o10, o11, o12, o13, some (.v (wrD 3)), o15, o16, o17, o18, o19, o20, o21] [a, b] := by kernel_rfl
theorem z18_4 {o0 o1 o2 o3 o4 o5 o6 o7 o8 o9 o10 o11 o12 o13 o15 o16 o17 o18 o19 o20 o21 : Option Val} {a b : Option Ob} : z18 [o0, o1, o2, o3, o4, o5, o6, o7, o8, o9, o10, o11, o12, o13, some (.v (wrD 4)), o15, o16, o17, o18, o19, o20, o21] [a, b] = .nx [o0, o1, o2, o3, o4, o5, o6, o7, o8, o9, o10, o11, o12, o13, some (.v (wrD 4)), o15, o16, o17, o18, o19, o20, o21] [a, b] := by kernel_rfl
theorem z18_5 {o0 o1 o2 o3 o4 o5 o6 o7 o8 o9 o10 o11 o12 o13 o15 o16 o17 o18 o19 o20 o21 : Option Val} {a b : Option Ob} : z18 [o0, o1, o2, o3, o4, o5, o6, o7, o8, o9, o10, o11, o12, o13, some (.v (wrD 5)), o15, o16, o17, o18, o19, o20, o21] [a, b] = .nx [o0, o1, o2, o3, o4, o5, o6, o7, o8, o9, o10, o11, o12, o13, some (.v (wrD 5)), o15, o16, o17, o18, o19, o20, o21] [a, b] := by kernel_rfl
theorem z18_6 {o0 o1 o2 o3 o4 o5 o6 o7 o8 o9 o10 o11 o12 o13 o15 o16 o17 o18 o19 o20 o21 : Option Val} {a b : Option Ob} : z18 [o0, o1, o2, o3, o4, o5, o6, o7, o8, o9, o10, o11, o12, o13, some (.v (wrD 6)), o15, o16, o17, o18, o19, o20, o21] [a, b] = .nx [o0, o1, o2, o3, o4, o5, o6, o7, o8, o9, o10, o11, o12, o13, some (.v (wrD 6)), o15, o16, o17, o18, o19, o20, o21] [a, b] := by kernel_rfl
theorem z18_7 {o0 o1 o2 o3 o4 o5 o6 o7 o8 o9 o10 o11 o12 o13 o15 o16 o17 o18 o19 o20 o21 : Option Val} {a b : Option Ob} : z18 [o0, o1, o2, o3, o4, o5, o6, o7, o8, o9, o10, o11, o12, o13, some (.v (wrD 7)), o15, o16, o17, o18, o19, o20, o21] [a, b] = .nx [o0, o1, o2, o3, o4, o5, o6, o7, o8, o9, o10, o11, o12, o13, some (.v (wrD 7)), o15, o16, o17, o18, o19, o20, o21] [a, b] := by kernel_rfl
theorem z18_8 {o0 o1 o2 o3 o4 o5 o6 o7 o8 o9 o10 o11 o12 o13 o15 o16 o17 o18 o19 o20 o21 : Option Val} {a b : Option Ob} : z18 [o0, o1, o2, o3, o4, o5, o6, o7, o8, o9, o10, o11, o12, o13, some (.v (wrD 8)), o15, o16, o17, o18, o19, o20, o21] [a, b] = .nx [o0, o1, o2, o3, o4, o5, o6, o7, o8, o9, o10, o11, o12, o13, some (.v (wrD 8)), o15, o16, o17, o18, o19, o20, o21] [a, b] := by kernel_rfl
theorem z16_ok {o0 o1 o2 o3 o5 o6 o7 o8 o9 o10 o11 o12 o13 o14 o15 o16 o17 o18 o19 o20 o21 : Option Val} {a b : Option Ob} {n : Nat} (h : 2 ≤ n ∧ n ≤ 8) : z16 [o0, o1, o2, o3, some (.v (.int (n : Nat))), o5, o6, o7, o8, o9, o10, o11, o12, o13, o14, o15, o16, o17, o18, o19, o20, o21] [a, b] = .nx [o0, o1, o2, o3, some (.v (.int (n : Nat))), o5, o6, o7, o8, o9, o10, o11, o12, o13, some (.v (wrD n)), o15, o16, o17, o18, o19, o20, o21] [a, b] := by
  obtain ⟨h1, h2⟩ := h
  match n, h1, h2 with
  | 2, _, _ => exact z16_2
  | 3, _, _ => exact z16_3
  | 4, _, _ => exact z16_4
  | 5, _, _ => exact z16_5
  | 6, _, _ => exact z16_6
  | 7, _, _ => exact z16_7
  | 8, _, _ => exact z16_8
theorem z17_ok {o0 o1 o2 o3 o4 o5 o6 o7 o8 o9 o10 o11 o12 o13 o15 o16 o17 o18 o19 o20 o21 : Option Val} {a b : Option Ob} {n : Nat} (h : 2 ≤ n ∧ n ≤ 8) : z17 [o0, o1, o2, o3, o4, o5, o6, o7, o8, o9, o10, o11, o12, o13, some (.v (wrD n)), o15, o16, o17, o18, o19, o20, o21] [a, b] = .nx [o0, o1, o2, o3, o4, o5, o6, o7, o8, o9, o10, o11, o12, o13, some (.v (wrD n)), some (.v tol), o16, o17, o18, o19, o20, o21] [a, b] := by
  obtain ⟨h1, h2⟩ := h
  match n, h1, h2 with
  | 2, _, _ => exact z17_2
  | 3, _, _ => exact z17_3
  | 4, _, _ => exact z17_4
  | 5, _, _ => exact z17_5
  | 6, _, _ => exact z17_6
  | 7, _, _ => exact z17_7
  | 8, _, _ => exact z17_8
theorem z18_ok {o0 o1 o2 o3 o4 o5 o6 o7 o8 o9 o10 o11 o12 o13 o15 o16 o17 o18 o19 o20 o21 : Option Val} {a b : Option Ob} {n : Nat} (h : 2 ≤ n ∧ n ≤ 8) : z18 [o0, o1, o2, o3, o4, o5, o6, o7, o8, o9, o10, o11, o12, o13, some (.v (wrD n)), o15, o16, o17, o18, o19, o20, o21] [a, b] = .nx [o0, o1, o2, o3, o4, o5, o6, o7, o8, o9, o10, o11, o12, o13, some (.v (wrD n)), o15, o16, o17, o18, o19, o20, o21] [a, b] := by
  obtain ⟨h1, h2⟩ := h
  match n, h1, h2 with
  | 2, _, _ => exact z18_2
  | 3, _, _ => exact z18_3
  | 4, _, _ => exact z18_4
  | 5, _, _ => exact z18_5
  | 6, _, _ => exact z18_6
  | 7, _, _ => exact z18_7
  | 8, _, _ => exact z18_8
end G00

namespace G00
open PySem PySem.Spec PyProof.Rows L2 M PR
/-! ### the open parts -/
theorem trs_mem {n : Nat} {l : List (Int × Int)} {dbl : Bool} {d : D} (h : d ∈ trs n l dbl) : ∃ (w : PySem.Str) (i j : Int), d = trD w i j ∧ (w = "lacks" ∨ w = "more") ∧ (0 ≤ i ∧ i < n) ∧ (0 ≤ j ∧ j < n) := by
  unfold trs at h
  simp only [List.mem_flatMap, List.mem_map, List.mem_filter, mem_ups] at h
  obtain ⟨i, hi, j, ⟨hj, _⟩, rfl⟩ := h
  exact ⟨_, i, j, rfl, word_in _, hi, hj⟩
theorem str_ok : PyData.strOk "lacks" = true ∧ PyData.strOk "more" = true ∧ PyData.strOk "x" = true := by
  refine ⟨?_, ?_, ?_⟩ <;> decide +kernel
theorem pd_tr {w : PySem.Str} {i j : Int} (hw : PyData.strOk w = true) (hi : i.natAbs < 1000000) (hj : j.natAbs < 1000000) : Pd 1 (trD w i j) := pd_tup fun d hd => by
  simp only [List.mem_cons, List.not_mem_nil, or_false] at hd
  rcases hd with rfl | rfl | rfl
  · exact pd_str hw
  · exact pd_int (by omega)
  · exact pd_int (by omega)
theorem trs_pd {n : Nat} {l : List (Int × Int)} {dbl : Bool} {d : D} (hn : n ≤ 1000) (h : d ∈ trs n l dbl) : Pd 1 d ∧ Told d := by
  obtain ⟨w, i, j, rfl, hw, hi, hj⟩ := trs_mem h
  have : PyData.strOk w = true := by
    rcases hw with rfl | rfl
    · exact str_ok.1
    · exact str_ok.2.1
  exact ⟨pd_tr this (by omega) (by omega), .tr this⟩
theorem trs_pl {n : Nat} {l : List (Int × Int)} {dbl : Bool} (hn : n ≤ 1000) : Pl (.lst (trs n l dbl)) := (pd_lst (n := 1) fun d hd => (trs_pd hn hd).1).pl (by omega)
theorem flatMap_len {α β : Type} {f : α → List β} {k : Nat} : ∀ l : List α, (∀ x ∈ l, (f x).length ≤ k) → (l.flatMap f).length ≤ l.length * k
  | [], _ => by simp
  | a :: l, h => by
    have h1 := h a List.mem_cons_self
    have h2 := flatMap_len l fun x hx => h x (List.mem_cons_of_mem _ hx)
    rw [List.flatMap_cons, List.length_append, List.length_cons, Nat.succ_mul]
    omega
theorem trs_len {n : Nat} {l : List (Int × Int)} {dbl : Bool} : (trs n l dbl).length ≤ n * n := by
  unfold trs
  have := flatMap_len (k := n) (f := fun i => ((ups n).filter (bad l dbl i)).map fun j => trD (word (many l dbl i j)) i j) (ups n) fun i _ => by
    rw [List.length_map]
    have := List.length_filter_le (bad l dbl i) (ups n)
    rwa [ups_len] at this
  rwa [ups_len] at this
theorem gEq_nil {ds : List D} (h : Pl (.lst ds)) : gEq (.lst ds) (.lst []) = some (.v (.bl ds.isEmpty)) := by
  rw [gEq_pl h ((pd_lst (n := 0) (by simp)).pl (by omega))]
  congr 3
  cases ds <;> simp
theorem gNe_nil {ds : List D} (h : Pl (.lst ds)) : gNe (.lst ds) (.lst []) = some (.v (.bl (!ds.isEmpty))) := by
  rw [gNe_pl h ((pd_lst (n := 0) (by simp)).pl (by omega))]
  congr 3
  cases ds <;> simp
section
variable {n : Nat} {p : List (List (Int × Int))} {S : Sto}
theorem z7_ok {o0 o1 o2 o3 o6 o7 o8 o9 o10 o11 o12 o13 o14 o15 o16 o17 o18 o19 o20 o21 : Option Val} (h : PlanOk n p) : z7 [o0, o1, o2, o3, some (.v (.int n)), some (.v (plD p)), o6, o7, o8, o9, o10, o11, o12, o13, o14, o15, o16, o17, o18, o19, o20, o21] S = .nx [o0, o1, o2, o3, some (.v (.int n)), some (.v (plD p)), some (.v (.lst (trs n p.flatten false))), some (.v (.lst (trs n p.flatten true))), o8, o9, o10, o11, o12, o13, o14, o15, o16, o17, o18, o19, o20, o21] S := by
  have hn := h.n60
  have t1 := law_troubles_ok (S := S) (n := n) (dbl := false) h.rounds (by omega) h.few
  have t2 := law_troubles_ok (S := S) (n := n) (dbl := true) h.rounds (by omega) h.few
  simp [z7, t1, t2]
theorem z8_ok {o0 o1 o2 o3 o5 o6 o7 o8 o9 o10 o11 o12 o13 o14 o15 o16 o17 o18 o19 o20 o21 : Option Val} (h : 2 ≤ n) : z8 [o0, o1, o2, o3, some (.v (.int n)), o5, o6, o7, o8, o9, o10, o11, o12, o13, o14, o15, o16, o17, o18, o19, o20, o21] S = .nx [o0, o1, o2, o3, some (.v (.int n)), o5, o6, o7, some (.v (.int (least n))), o9, o10, o11, o12, o13, o14, o15, o16, o17, o18, o19, o20, o21] S := by
  by_cases e : n % 2 = 0
  · have e' : (n : Int) % 2 = 0 := by omega
    have e2 : (n : Int) - 1 = ((n - 1 : Nat) : Int) := by omega
    simp [z8, z8_v, gMod2, e', least, e, e2]
  · have e' : ¬ (n : Int) % 2 = 0 := by omega
    simp [z8, z8_v, gMod2, e', least, e]
theorem z9_ok {o0 o1 o2 o3 o9 o10 o11 o12 o13 o14 o15 o16 o17 o18 o19 o20 o21 : Option Val} (hn : n ≤ 1000) : z9 [o0, o1, o2, o3, some (.v (.int n)), some (.v (plD p)), some (.v (.lst (trs n p.flatten false))), some (.v (.lst (trs n p.flatten true))), some (.v (.int (least n))), o9, o10, o11, o12, o13, o14, o15, o16, o17, o18, o19, o20, o21] S = .nx [o0, o1, o2, o3, some (.v (.int n)), some (.v (plD p)), some (.v (.lst (trs n p.flatten false))), some (.v (.lst (trs n p.flatten true))), some (.v (.int (least n))), some (.v (.bl (full n p))), o10, o11, o12, o13, o14, o15, o16, o17, o18, o19, o20, o21] S := by
  have a1 := gEq_nil (trs_pl (l := p.flatten) (dbl := false) hn)
  have a2 := gNe_nil (trs_pl (l := p.flatten) (dbl := false) hn)
  have a3 := gEq_nil (trs_pl (l := p.flatten) (dbl := true) hn)
  have hpl : g1 lenD [plD p] = some (.v (.int p.length)) := by simp [plD]
  have hm : gMulA (.int 2) (.int (least n)) = some (.v (.int ((2 * least n : Nat) : Int))) := by
    show gMulI _ _ = _
    rw [gMulI_l (by decide)]
    congr 3
  have q1 : ((p.length : Int) = (least n : Int)) ↔ p.length = least n := by omega
  have q2 : ((p.length : Int) = 2 * (least n : Int)) ↔ p.length = 2 * least n := by omega
  unfold full
  cases e1 : (trs n p.flatten false).isEmpty with
  | true =>
    rw [e1] at a1 a2
    by_cases e2 : p.length = least n
    · simp [z9, z9_v, mVB, a1, a2, hpl, q1, e2]
    · simp [z9, z9_v, mVB, a1, a2, hpl, q1, e2]
  | false =>
    rw [e1] at a1 a2
    cases e3 : (trs n p.flatten true).isEmpty with
    | true =>
      rw [e3] at a3
      simp [z9, z9_v, mVB, a1, a2, a3, hpl, hm, q2]
    | false =>
      rw [e3] at a3
      simp [z9, z9_v, mVB, a1, a2, a3, hpl, hm]
def patD (p : List (List (Int × Int))) (t : Int) : D := .tup ((pat p t).map D.int)
theorem z10_ok {o0 o1 o2 o3 o6 o7 o8 o9 o10 o11 o12 o13 o14 o15 o16 o17 o18 o19 o20 o21 : Option Val} (h : PlanOk n p) : z10 [o0, o1, o2, o3, some (.v (.int n)), some (.v (plD p)), o6, o7, o8, o9, o10, o11, o12, o13, o14, o15, o16, o17, o18, o19, o20, o21] S = .nx [o0, o1, o2, o3, some (.v (.int n)), some (.v (plD p)), o6, o7, o8, o9, some (.v (.lst ((ups n).map (patD p)))), o11, o12, o13, o14, o15, o16, o17, o18, o19, o20, o21] S := by
  have hn := h.n60
  have hl := h.len
  unfold z10 z10_v
  rw [sSet_ap, mFz_ap, lcm (S := S) (f := D.int) (F := patD p) (xs := ups n) (by simp [rng1_ups (by omega : n ≤ 1000000000)]) (lim1 (by simp; omega)) fun t ht => ⟨_, rfl, by
    have ht2 := mem_ups.mp ht
    simp [wipeM, law_pattern_ok (S := S) (n := n) (t := t) h.rounds (by omega) (by omega) (by omega), patD]⟩]
  simp
theorem z11_ok {o0 o1 o2 o3 o6 o7 o8 o9 o10 o11 o12 o13 o14 o15 o16 o17 o18 o19 o20 o21 : Option Val} (h : PlanOk n p) : z11 [o0, o1, o2, o3, some (.v (.int n)), some (.v (plD p)), o6, o7, o8, o9, o10, o11, o12, o13, o14, o15, o16, o17, o18, o19, o20, o21] S = .nx [o0, o1, o2, o3, some (.v (.int n)), some (.v (plD p)), o6, o7, o8, o9, o10, o11, o12, o13, o14, o15, o16, o17, o18, o19, o20, o21] S := by
  have : gIsB true (.bl true) (.bl true) = some (.v (.bl false)) := rfl
  simp [z11, z11_t, is_plan_ok h, this]
theorem ent_cases {t : Int} {gs : List (Int × Int)} : ent t gs = 0 ∨ ent t gs = 1 ∨ ent t gs = 2 := by
  unfold ent
  split
  · exact .inl rfl
  · split
    · exact .inr (.inl rfl)
    · exact .inr (.inr rfl)
theorem pat_cases {t x : Int} (h : x ∈ pat p t) : x = 0 ∨ x = 1 ∨ x = 2 := by
  unfold pat at h
  obtain ⟨gs, _, rfl⟩ := List.mem_map.mp h
  exact ent_cases
def dueD (n : Nat) (p : List (List (Int × Int))) : D := .lst [.bl (trs n p.flatten false).isEmpty, .bl (trs n p.flatten true).isEmpty, .bl (full n p), .tup ((ups n).map (brD p)), .int (mxR n p)]
theorem z12_ok {o0 o1 o2 o3 o4 o5 o8 o11 o12 o13 o14 o15 o16 o17 o18 o19 o20 o21 : Option Val} (h : PlanOk n p) : z12 [o0, o1, o2, o3, o4, o5, some (.v (.lst (trs n p.flatten false))), some (.v (.lst (trs n p.flatten true))), o8, some (.v (.bl (full n p))), some (.v (.lst ((ups n).map (patD p)))), o11, o12, o13, o14, o15, o16, o17, o18, o19, o20, o21] S = .nx [o0, o1, o2, o3, o4, o5, some (.v (.lst (trs n p.flatten false))), some (.v (.lst (trs n p.flatten true))), o8, some (.v (.bl (full n p))), some (.v (.lst ((ups n).map (patD p)))), some (.v (dueD n p)), o12, o13, o14, o15, o16, o17, o18, o19, o20, o21] S := by
  have hn := h.n60
  have hl := h.len
  have h2 := h.n2
  have a1 := gEq_nil (trs_pl (n := n) (l := p.flatten) (dbl := false) (by omega))
  have a3 := gEq_nil (trs_pl (n := n) (l := p.flatten) (dbl := true) (by omega))
  have b1 : mB (g1 tupleD) (mCons (mFz (mLC (mItA (mV 10)) (pN 20) mYes (mCall f__law_breaks (mCons (mV 20) mNil)) [20])) mNil) [o0, o1, o2, o3, o4, o5, some (.v (.lst (trs n p.flatten false))), some (.v (.lst (trs n p.flatten true))), o8, some (.v (.bl (full n p))), some (.v (.lst ((ups n).map (patD p)))), o11, o12, o13, o14, o15, o16, o17, o18, o19, o20, o21] S = .ok (.v (.tup ((ups n).map (brD p)))) S := by
    rw [lcTup (S := S) (f := patD p) (F := brD p) (xs := ups n) (itA_lst rfl) (lim1 (by simp; omega)) fun t ht => ⟨_, rfl, by
      have hb := law_breaks_ok (es := pat p t) (S := S) (by rw [pat_len]; omega)
      simp [wipeM, patD, hb, brD]⟩]
  have hne : (ups n).map (fun t => (runs (pat p t)).1) ≠ [] := fun e => by
    have := congrArg List.length e
    simp at this
    omega
  have hm := maxD_ints hne
  rw [List.map_map] at hm
  have hm' : g1 maxD [.lst ((ups n).map fun t => .int (runs (pat p t)).1)] = some (.v (.int (mxR n p))) := hm
  have b2 : mB (g1 maxD) (mCons (mFz (mLC (mItA (mV 10)) (pN 20) mYes (mCall f__law_run (mCons (mV 20) mNil)) [20])) mNil) [o0, o1, o2, o3, o4, o5, some (.v (.lst (trs n p.flatten false))), some (.v (.lst (trs n p.flatten true))), o8, some (.v (.bl (full n p))), some (.v (.lst ((ups n).map (patD p)))), o11, o12, o13, o14, o15, o16, o17, o18, o19, o20, o21] S = .ok (.v (.int (mxR n p))) S := by
    rw [mB_ap, mCons_ap, mFz_ap, lcm (S := S) (f := patD p) (F := fun t => .int (runs (pat p t)).1) (xs := ups n) (itA_lst rfl) (lim1 (by simp; omega)) fun t ht => ⟨_, rfl, by
      have hb := law_run_ok (es := pat p t) (S := S) (fun x hx => pat_cases hx) (by rw [pat_len]; omega)
      simp [wipeM, patD, hb]⟩]
    simp [hm']
  have e5 : 0 + 1 + 1 + 1 + 1 + 1 ≤ lim := le_lim (by omega)
  unfold z12 z12_v
  generalize (mB (g1 tupleD) (mCons (mFz (mLC (mItA (mV 10)) (pN 20) mYes (mCall f__law_breaks (mCons (mV 20) mNil)) [20])) mNil)) = B1 at b1 ⊢
  generalize (mB (g1 maxD) (mCons (mFz (mLC (mItA (mV 10)) (pN 20) mYes (mCall f__law_run (mCons (mV 20) mNil)) [20])) mNil)) = B2 at b2 ⊢
  simp [a1, a3, b1, b2, dueD]
/-! what is due may be shown -/
theorem runs_bd : ∀ (l : List Int) (st : Int × Int × Int) (k : Int), 0 ≤ st.1 → st.1 ≤ k → 0 ≤ st.2.1 → st.2.1 ≤ k → 0 ≤ (l.foldl stepR st).1 ∧ (l.foldl stepR st).1 ≤ k + l.length
  | [], st, k, h1, h2, h3, h4 => by simp; omega
  | e :: l, st, k, h1, h2, h3, h4 => by
    obtain ⟨m, c, q⟩ := st
    dsimp only at h1 h2 h3 h4
    rw [List.foldl_cons]
    have := runs_bd l (stepR (m, c, q) e) (k + 1)
    have hs : 0 ≤ (stepR (m, c, q) e).1 ∧ (stepR (m, c, q) e).1 ≤ k + 1 ∧ 0 ≤ (stepR (m, c, q) e).2.1 ∧ (stepR (m, c, q) e).2.1 ≤ k + 1 := by
      unfold stepR
      dsimp only
      by_cases h5 : e = 2
      · rw [if_pos h5]
        dsimp only
        omega
      · rw [if_neg h5]
        by_cases h6 : e = q
        · rw [if_pos h6]
          dsimp only
          split <;> omega
        · rw [if_neg h6]
          dsimp only
          split <;> omega
    have := this hs.1 hs.2.1 hs.2.2.1 hs.2.2.2
    rw [List.length_cons]
    omega
theorem maxI_mem : ∀ {xs : List Int}, xs ≠ [] → maxI xs ∈ xs
  | [a], _ => List.mem_cons_self
  | a :: b :: l, _ => by
    show max a (maxI (b :: l)) ∈ _
    have := maxI_mem (xs := b :: l) (by simp)
    by_cases h : a ≤ maxI (b :: l)
    · rw [Int.max_eq_right h]
      exact List.mem_cons_of_mem _ this
    · rw [Int.max_eq_left (by omega)]
      exact List.mem_cons_self
theorem mxR_bd (h2 : 2 ≤ n) : 0 ≤ mxR n p ∧ mxR n p ≤ p.length := by
  have hne : (ups n).map (fun t => (runs (pat p t)).1) ≠ [] := fun e => by
    have := congrArg List.length e
    simp at this
    omega
  have hm := maxI_mem hne
  obtain ⟨t, _, e⟩ := List.mem_map.mp hm
  have := runs_bd (pat p t) (0, 0, 2) 0 (by simp) (by simp) (by simp) (by simp)
  unfold mxR
  rw [← e]
  have e2 : (pat p t).length = p.length := pat_len
  unfold runs
  omega
theorem gd_bl {b : Bool} : Gd (.bl b) := by cases b <;> exact ⟨by simp [D.ok], by simp [D.dep], by simp [D.wt]⟩
end
end G00

namespace G00
open PySem PySem.Spec PyProof.Rows L2 M PR
theorem brk_len {es : List Int} : (brk es).length ≤ es.length := by
  unfold brk
  rw [List.length_map]
  have := List.length_filter_le (isBrk es) es.zipIdx
  rwa [List.length_zipIdx] at this
theorem brk_mem {es : List Int} {i : Int} (h : i ∈ brk es) : 0 ≤ i ∧ i < es.length := by
  unfold brk at h
  obtain ⟨q, hq, rfl⟩ := List.mem_map.mp h
  have := List.snd_lt_of_mem_zipIdx (List.mem_filter.mp hq).1
  omega
section
variable {n : Nat} {p : List (List (Int × Int))} {S : Sto}
theorem due_gd (h2 : 2 ≤ n) (hn : n ≤ 8) (hl : p.length ≤ 14) : Gd (dueD n p) := by
  have hb : Gw 2 (8 * (14 * 42 + 1)) (.tup ((ups n).map (brD p))) := gw_tup (fun d hd => by
    obtain ⟨t, _, rfl⟩ := List.mem_map.mp hd
    have e : (pat p t).length = p.length := pat_len
    refine gw_ints (fun i hi => ?_) (by have := brk_len (es := pat p t); omega)
    have := brk_mem hi
    omega) (by simp; omega)
  have hm := mxR_bd (p := p) h2
  refine (gw_lst (k := 2) (w := 5000) (m := 5) (fun d hd => ?_) (by simp)).gd (by omega) (by omega)
  simp only [List.mem_cons, List.not_mem_nil, or_false] at hd
  rcases hd with rfl | rfl | rfl | rfl | rfl
  · exact gw_bl
  · exact gw_bl
  · exact gw_bl
  · exact hb.mono (by omega) (by omega)
  · exact gw_int (by omega) (by omega)
theorem z13_ok {o0 o1 o2 o3 o6 o7 o8 o9 o10 o12 o13 o14 o15 o16 o17 o18 o19 o20 o21 : Option Val} (h : PlanOk n p) (hn : n ≤ 8) (hl : p.length ≤ 14) : z13 [o0, o1, o2, o3, some (.v (.int n)), some (.v (plD p)), o6, o7, o8, o9, o10, some (.v (dueD n p)), o12, o13, o14, o15, o16, o17, o18, o19, o20, o21] S = .nx [o0, o1, o2, o3, some (.v (.int n)), some (.v (plD p)), o6, o7, o8, o9, o10, some (.v (dueD n p)), o12, o13, o14, o15, o16, o17, o18, o19, o20, o21] S := by
  have h2 := h.n2
  refine chk (same_repr (d := dueD n p) (S1 := S) (S2 := S) ?_ ?_ (due_gd (by omega) hn hl))
  · have q0 := asked0 (z := .non) (is_single_ok (S := S) h)
    have q1 := asked1 (z := .non) (is_double_ok (S := S) h)
    have q2 := asked2 (z := .non) (is_full_ok (S := S) h)
    have q5 := asked5 (z := .non) (breaks_ok (S := S) h)
    have q6 := asked6 (z := .non) (longest_ok (S := S) h)
    have e5 : 0 + 1 + 1 + 1 + 1 + 1 ≤ lim := le_lim (by omega)
    rw [mFz_ap, lcm (S := S) (f := fun q : Int × D => .int q.1) (F := fun q => q.2) (xs := [(0, .bl (trs n p.flatten false).isEmpty), (1, .bl (trs n p.flatten true).isEmpty), (2, .bl (full n p)), (5, .tup ((ups n).map (brD p))), (6, .int (mxR n p))]) (itA_ofN (by simp)) (lim1 (by simp)) fun q hq => ⟨_, rfl, by
      simp only [List.mem_cons, List.not_mem_nil, or_false] at hq
      rcases hq with rfl | rfl | rfl | rfl | rfl
      · simp [wipeM, q0]
      · simp [wipeM, q1]
      · simp [wipeM, q2]
      · simp [wipeM, q5]
      · simp [wipeM, q6]⟩]
    rfl
  · simp
theorem pat_pl (h : PlanOk n p) : Pl (.lst ((ups n).map (patD p))) := (pd_lst (n := 1) fun d hd => by
  obtain ⟨t, _, rfl⟩ := List.mem_map.mp hd
  exact pd_tup (n := 0) fun d hd => by
    obtain ⟨x, hx, rfl⟩ := List.mem_map.mp hd
    have := pat_cases hx
    exact pd_int (by omega)).pl (by omega)
theorem z14_ok {o0 o1 o2 o3 o6 o7 o8 o9 o11 o12 o13 o14 o15 o16 o17 o18 o19 o20 o21 : Option Val} (h : PlanOk n p) : z14 [o0, o1, o2, o3, some (.v (.int n)), some (.v (plD p)), o6, o7, o8, o9, some (.v (.lst ((ups n).map (patD p)))), o11, o12, o13, o14, o15, o16, o17, o18, o19, o20, o21] S = .nx [o0, o1, o2, o3, some (.v (.int n)), some (.v (plD p)), o6, o7, o8, o9, some (.v (.lst ((ups n).map (patD p)))), o11, o12, o13, o14, o15, o16, o17, o18, o19, o20, o21] S := by
  have hn := h.n60
  have hp := pat_pl h
  have hne := gNe_pl hp hp
  rw [decide_eq_true rfl] at hne
  have e : mLC (mRng rng1 (mCons (mV 4) mNil)) (pN 19) mYes (mCall f__law_asked (mCons (mC (.int 7)) (mCons (mV 4) (mCons (mV 5) (mCons (mV 19) mNil))))) [19] [o0, o1, o2, o3, some (.v (.int n)), some (.v (plD p)), o6, o7, o8, o9, some (.v (.lst ((ups n).map (patD p)))), o11, o12, o13, o14, o15, o16, o17, o18, o19, o20, o21] S = .ok (.n (.li ((ups n).map (patD p)))) S := by
    refine lcm (f := D.int) (F := patD p) (xs := ups n) (by simp [rng1_ups (by omega : n ≤ 1000000000)]) (lim1 (by simp; omega)) fun t ht => ⟨_, rfl, ?_⟩
    have ht2 := mem_ups.mp ht
    have q := asked7 (pattern_ok (S := S) h ht2.1 ht2.2)
    simp [wipeM, q, patD]
  refine chk ?_
  unfold z14_t
  generalize mLC (mRng rng1 (mCons (mV 4) mNil)) (pN 19) mYes (mCall f__law_asked (mCons (mC (.int 7)) (mCons (mV 4) (mCons (mV 5) (mCons (mV 19) mNil))))) [19] = L at e ⊢
  simp [e, hne]
theorem z19_ok {o0 o1 o2 o3 o6 o7 o8 o9 o10 o11 o12 o13 o14 o16 o17 o18 o19 o20 o21 : Option Val} (h : PlanOk n p) : z19 [o0, o1, o2, o3, some (.v (.int n)), some (.v (plD p)), o6, o7, o8, o9, o10, o11, o12, o13, o14, some (.v tol), o16, o17, o18, o19, o20, o21] S = .rt (.v (.bl true)) S := by
  have q1 := asked7n (pattern_no (S := S) (t := -1) h (by omega))
  have q2 := asked7n (pattern_no (S := S) (t := n) h (by omega))
  have e : mLC (mItA (mLst (mCons (mUn gNeg (mC (.int 1))) (mCons (mV 4) mNil)))) (pN 19) mYes (mCall f__law_asked (mCons (mC (.int 7)) (mCons (mV 4) (mCons (mV 5) (mCons (mV 19) mNil))))) [19] [o0, o1, o2, o3, some (.v (.int n)), some (.v (plD p)), o6, o7, o8, o9, o10, o11, o12, o13, o14, some (.v tol), o16, o17, o18, o19, o20, o21] S = .ok (.n (.li [.str "!number", .str "!number"])) S := by
    refine lcm (f := D.int) (F := fun _ => .str "!number") (xs := [-1, (n : Int)]) (itA_ofN (by simp)) (lim1 (by simp)) fun t ht => ⟨_, rfl, ?_⟩
    simp only [List.mem_cons, List.not_mem_nil, or_false] at ht
    rcases ht with rfl | rfl
    · simp [wipeM, q1]
    · simp [wipeM, q2]
  have c1 : (mOp gEq (mV 15) (mRepL (mLst (mCons (mC (.str "!plan")) mNil)) (mC (.int 90)))) [o0, o1, o2, o3, some (.v (.int n)), some (.v (plD p)), o6, o7, o8, o9, o10, o11, o12, o13, o14, some (.v tol), o16, o17, o18, o19, o20, o21] S = .ok (.v (.bl true)) S := by kernel_rfl
  have c2 : gEq (.lst [.str "!number", .str "!number"]) (.lst [.str "!number", .str "!number"]) = some (.v (.bl true)) := by kernel_rfl
  have c3 : mRepL (mLst (mCons (mC (.str "!number")) mNil)) (mC (.int 2)) [o0, o1, o2, o3, some (.v (.int n)), some (.v (plD p)), o6, o7, o8, o9, o10, o11, o12, o13, o14, some (.v tol), o16, o17, o18, o19, o20, o21] S = .ok (.n (.li [.str "!number", .str "!number"])) S := by kernel_rfl
  unfold z19
  generalize mLC (mItA (mLst (mCons (mUn gNeg (mC (.int 1))) (mCons (mV 4) mNil)))) (pN 19) mYes (mCall f__law_asked (mCons (mC (.int 7)) (mCons (mV 4) (mCons (mV 5) (mCons (mV 19) mNil))))) [19] = L at e ⊢
  generalize (mOp gEq (mV 15) (mRepL (mLst (mCons (mC (.str "!plan")) mNil)) (mC (.int 90)))) = L1 at c1 ⊢
  generalize mRepL (mLst (mCons (mC (.str "!number")) mNil)) (mC (.int 2)) = L3 at c3 ⊢
  simp [mVB, c1, e, c3, c2]
/-! the loop -/
def wy (dbl : Bool) : Int := if dbl then 4 else 3
def tro (n : Nat) (p : List (List (Int × Int))) (dbl : Bool) : List D := trs n p.flatten dbl
theorem z15_1_ok {o0 o1 o2 o3 o6 o7 o8 o9 o10 o11 o13 o14 o15 o16 o17 o18 o19 o20 o21 : Option Val} {dbl : Bool} (h : PlanOk n p) : z15_1 [o0, o1, o2, o3, some (.v (.int n)), some (.v (plD p)), o6, o7, o8, o9, o10, o11, some (.v (.int (wy dbl))), o13, o14, o15, o16, o17, o18, o19, o20, o21] S = .nx [o0, o1, o2, o3, some (.v (.int n)), some (.v (plD p)), o6, o7, o8, o9, o10, o11, some (.v (.int (wy dbl))), o13, o14, o15, some (.v ((tro n p dbl).headD .non)), o17, o18, o19, o20, o21] S := by
  cases dbl with
  | false =>
    have q := asked3 (z := .non) (single_trouble_ok (S := S) h)
    simp only [List.headD_eq_head?_getD] at q
    simp [z15_1, z15_1_v, wy, q, tro]
  | true =>
    have q := asked4 (z := .non) (double_trouble_ok (S := S) h)
    simp only [List.headD_eq_head?_getD] at q
    simp [z15_1, z15_1_v, wy, q, tro]
theorem z15_2_ok {o0 o1 o2 o3 o4 o5 o6 o7 o8 o9 o10 o11 o12 o14 o15 o17 o18 o19 o20 o21 : Option Val} {dbl : Bool} (hn : n ≤ 1000) : z15_2 [o0, o1, o2, o3, o4, o5, o6, o7, o8, o9, o10, o11, o12, some (.v (.lst (tro n p dbl))), o14, o15, some (.v ((tro n p dbl).headD .non)), o17, o18, o19, o20, o21] S = .nx [o0, o1, o2, o3, o4, o5, o6, o7, o8, o9, o10, o11, o12, some (.v (.lst (tro n p dbl))), o14, o15, some (.v ((tro n p dbl).headD .non)), o17, o18, o19, o20, o21] S := by
  have hp : Pl (.lst (tro n p dbl)) := trs_pl hn
  have a1 := gEq_nil hp
  have hh : gIsN false ((tro n p dbl).headD .non) .non = some (.v (.bl (tro n p dbl).isEmpty)) := trs_head
  have hm : ∀ d ∈ tro n p dbl, Pl d ∧ gIsN true d .non = some (.v (.bl true)) := fun d hd => by
    refine ⟨(trs_pd hn hd).1.pl (by omega), ?_⟩
    obtain ⟨w, i, j, rfl, _⟩ := trs_mem hd
    rfl
  generalize tro n p dbl = L at *
  refine chk ?_
  unfold z15_2_t
  cases L with
  | nil =>
    have c1 : gIsN false .non .non = some (.v (.bl true)) := rfl
    have c2 : gIsN true .non .non = some (.v (.bl false)) := rfl
    have c3 : gNe (.bl true) (.bl true) = some (.v (.bl false)) := by kernel_rfl
    simp [c1, c2, a1, c3]
  | cons d r =>
    obtain ⟨h1, h2⟩ := hm d List.mem_cons_self
    have hi := gIn_lst (neg := true) h1 hp
    rw [if_pos rfl, decide_eq_true List.mem_cons_self] at hi
    have c3 : gNe (.bl false) (.bl false) = some (.v (.bl false)) := by kernel_rfl
    have hh' : gIsN false d .non = some (.v (.bl false)) := hh
    have a1' : gEq (.lst (d :: r)) (.lst []) = some (.v (.bl false)) := a1
    simp [hh', a1', c3, h2, hi]
theorem z15_3_ok {o0 o2 o3 o5 o6 o7 o8 o9 o10 o11 o12 o13 o14 o15 o16 o17 o18 o19 o20 o21 : Option Val} {a : Option Ob} (h : IS a S) (hn : 0 < n) : ∃ (i j : Nat) (S' : Sto), z15_3 [o0, some (.l 1), o2, o3, some (.v (.int n)), o5, o6, o7, o8, o9, o10, o11, o12, o13, o14, o15, o16, o17, o18, o19, o20, o21] S = .nx [o0, some (.l 1), o2, o3, some (.v (.int n)), o5, o6, o7, o8, o9, o10, o11, o12, o13, o14, o15, o16, some (.v (.int i)), some (.v (.int j)), o19, o20, o21] S' ∧ IS a S' ∧ i < n ∧ j < n := by
  obtain ⟨x, i, S1, e1, i1, hi, m1⟩ := draw h hn
  obtain ⟨y, j, S2, e2, i2, hj, m2⟩ := draw i1 hn
  refine ⟨i, j, S2, ?_, i2, hi, hj⟩
  simp [z15_3, e1, m1, e2, m2]
def nine (n i j : Int) : List D := [trD "lacks" i j, trD "more" i j, trD "lacks" j i, trD "more" i n, trD "lacks" (-1) j, trD "x" i j, .tup [.str "lacks", .int i], .tup [.str "more", .int i, .int j, .int 0], .tup []]
def toldL (n : Nat) (p : List (List (Int × Int))) (dbl : Bool) (i j : Int) : List D := M.cutD (tro n p dbl) none (some 2) ++ M.cutD (tro n p dbl) (some (-1)) none ++ nine n i j
theorem cut_mem {α : Type} {xs : List α} {u v : Option Int} {x : α} (h : x ∈ M.cutD xs u v) : x ∈ xs := List.mem_of_mem_drop (List.mem_of_mem_take h)
theorem cut_len {α : Type} {xs : List α} {u v : Option Int} : (M.cutD xs u v).length ≤ xs.length := by
  unfold M.cutD
  rw [List.length_take, List.length_drop]
  omega
theorem told_all {dbl : Bool} {i j : Nat} (hn : n ≤ 1000) (hi : i < n) (hj : j < n) {d : D} (h : d ∈ toldL n p dbl i j) : Pl d ∧ Told d := by
  unfold toldL at h
  rcases List.mem_append.mp h with h | h
  · rcases List.mem_append.mp h with h | h
    · exact ⟨(trs_pd hn (cut_mem h)).1.pl (by omega), (trs_pd hn (cut_mem h)).2⟩
    · exact ⟨(trs_pd hn (cut_mem h)).1.pl (by omega), (trs_pd hn (cut_mem h)).2⟩
  · have key : ∀ (w : PySem.Str) (x y : Int), PyData.strOk w = true → x.natAbs < 1000000 → y.natAbs < 1000000 → Pl (trD w x y) ∧ Told (trD w x y) := fun w x y hw hx hy => ⟨(pd_tr hw hx hy).pl (by omega), .tr hw⟩
    unfold nine at h
    simp only [List.mem_cons, List.not_mem_nil, or_false] at h
    rcases h with rfl | rfl | rfl | rfl | rfl | rfl | rfl | rfl | rfl
    · exact key _ _ _ str_ok.1 (by omega) (by omega)
    · exact key _ _ _ str_ok.2.1 (by omega) (by omega)
    · exact key _ _ _ str_ok.1 (by omega) (by omega)
    · exact key _ _ _ str_ok.2.1 (by omega) (by omega)
    · exact key _ _ _ str_ok.1 (by omega) (by omega)
    · exact key _ _ _ str_ok.2.2 (by omega) (by omega)
    · refine ⟨(pd_tup (n := 0) fun d hd => ?_).pl (by omega), .len (by simp)⟩
      simp only [List.mem_cons, List.not_mem_nil, or_false] at hd
      rcases hd with rfl | rfl
      · exact pd_str str_ok.1
      · exact pd_int (by omega)
    · refine ⟨(pd_tup (n := 0) fun d hd => ?_).pl (by omega), .len (by simp)⟩
      simp only [List.mem_cons, List.not_mem_nil, or_false] at hd
      rcases hd with rfl | rfl | rfl | rfl
      · exact pd_str str_ok.2.1
      · exact pd_int (by omega)
      · exact pd_int (by omega)
      · exact pd_int (by omega)
    · exact ⟨(pd_tup (n := 0) (by simp)).pl (by omega), .len (by simp)⟩
theorem z15_4_it_ok {o0 o1 o2 o3 o5 o6 o7 o8 o9 o10 o11 o12 o14 o15 o16 o19 o20 o21 : Option Val} {dbl : Bool} {i j : Nat} (hn : n ≤ 8) : z15_4_it [o0, o1, o2, o3, some (.v (.int n)), o5, o6, o7, o8, o9, o10, o11, o12, some (.v (.lst (tro n p dbl))), o14, o15, o16, some (.v (.int i)), some (.v (.int j)), o19, o20, o21] S = .ok (.fix (toldL n p dbl i j)) S := by
  have hl : (tro n p dbl).length ≤ 64 := Nat.le_trans trs_len (Nat.mul_le_mul hn hn)
  have c1 := cut_len (xs := tro n p dbl) (u := none) (v := some 2)
  have c2 := cut_len (xs := tro n p dbl) (u := some (-1)) (v := none)
  have s1 : gSl none (some 2) (.lst (tro n p dbl)) = some (.n (.li (M.cutD (tro n p dbl) none (some 2)))) := rfl
  have s2 : gSl (some (-1)) none (.lst (tro n p dbl)) = some (.n (.li (M.cutD (tro n p dbl) (some (-1)) none))) := rfl
  unfold toldL
  generalize M.cutD (tro n p dbl) none (some 2) = A at *
  generalize M.cutD (tro n p dbl) (some (-1)) none = B at *
  have d1 := gAdd_lst (a := A) (b := B) (lim1 (by omega))
  have d2 := gAdd_lst (a := A ++ B) (b := nine n i j) (lim1 (by simp [nine]; omega))
  have e9 : 0 + 1 + 1 + 1 + 1 + 1 + 1 + 1 + 1 + 1 ≤ lim := le_lim (by omega)
  refine itA_ofN ?_
  unfold nine trD at *
  simp [s1, s2, d1, d2]
theorem z15_4_ok {o0 o1 o2 o3 o6 o7 o8 o9 o10 o11 o14 o15 o16 o19 o20 o21 : Option Val} {dbl : Bool} {i j : Nat} (h : PlanOk n p) (hn : n ≤ 8) (hi : i < n) (hj : j < n) {T : Val → Sto → Prop} {E : Exc → Sto → Prop} : WX (z15_4 [o0, o1, o2, o3, some (.v (.int n)), some (.v (plD p)), o6, o7, o8, o9, o10, o11, some (.v (.int (wy dbl))), some (.v (.lst (tro n p dbl))), o14, o15, o16, some (.v (.int i)), some (.v (.int j)), o19, o20, o21] S)
    (fun ρ S' => S' = S ∧ ∃ p15, ρ = [o0, o1, o2, o3, some (.v (.int n)), some (.v (plD p)), o6, o7, o8, o9, o10, o11, some (.v (.int (wy dbl))), some (.v (.lst (tro n p dbl))), o14, p15, o16, some (.v (.int i)), some (.v (.int j)), o19, o20, o21]) T E := by
  unfold z15_4
  refine wx_for (f := id) (xs := toldL n p dbl i j) (fun _ ρ S' => S' = S ∧ ∃ p15, ρ = [o0, o1, o2, o3, some (.v (.int n)), some (.v (plD p)), o6, o7, o8, o9, o10, o11, some (.v (.int (wy dbl))), some (.v (.lst (tro n p dbl))), o14, p15, o16, some (.v (.int i)), some (.v (.int j)), o19, o20, o21]) (by rw [z15_4_it_ok hn, List.map_id]) ⟨rfl, _, rfl⟩ ?_ fun ρ S h => h
  rintro pre d post ρ S' ep ⟨rfl, p15, rfl⟩
  obtain ⟨hp, ht⟩ := told_all (d := d) (n := n) (p := p) (dbl := dbl) (by omega) hi hj (by rw [ep]; simp)
  have hpl : Pl (.lst (tro n p dbl)) := trs_pl (by omega)
  have hin := gIn_lst (neg := false) hp hpl
  rw [if_neg Bool.false_ne_true] at hin
  rw [turn_name]
  show WT (sIf _ _ _ [o0, o1, o2, o3, some (.v (.int n)), some (.v (plD p)), o6, o7, o8, o9, o10, o11, some (.v (.int (wy dbl))), some (.v (.lst (tro n p dbl))), o14, some (.v d), o16, some (.v (.int i)), some (.v (.int j)), o19, o20, o21] S') _ _ _ _
  rw [chk (same_repr (d := .bl (decide (d ∈ tro n p dbl))) (S1 := S') (S2 := S') ?_ ?_ gd_bl)]
  · exact ⟨rfl, _, rfl⟩
  · cases dbl with
    | false =>
      have q := asked8 (is_single_trouble_ok (S := S') h ht)
      simp [wy, q, tro]
      try exact decide_eq_decide.mpr Iff.rfl
    | true =>
      have q := asked9 (is_double_trouble_ok (S := S') h ht)
      simp [wy, q, tro]
      try exact decide_eq_decide.mpr Iff.rfl
  · simp [hin]
theorem z15_ok {o0 o2 o3 o8 o9 o10 o11 o12 o13 o14 o15 o16 o17 o18 o19 o20 o21 : Option Val} {a : Option Ob} (h : PlanOk n p) (hn : n ≤ 8) (hS : IS a S) {T : Val → Sto → Prop} {E : Exc → Sto → Prop} : WX (z15 [o0, some (.l 1), o2, o3, some (.v (.int n)), some (.v (plD p)), some (.v (.lst (trs n p.flatten false))), some (.v (.lst (trs n p.flatten true))), o8, o9, o10, o11, o12, o13, o14, o15, o16, o17, o18, o19, o20, o21] S)
    (fun ρ S' => IS a S' ∧ ∃ p12 p13 p15 p16 p17 p18, ρ = [o0, some (.l 1), o2, o3, some (.v (.int n)), some (.v (plD p)), some (.v (.lst (trs n p.flatten false))), some (.v (.lst (trs n p.flatten true))), o8, o9, o10, o11, p12, p13, o14, p15, p16, p17, p18, o19, o20, o21]) T E := by
  have h2 := h.n2
  unfold z15
  refine wx_for (f := fun dbl => .tup [.int (wy dbl), .lst (tro n p dbl)]) (xs := [false, true]) (fun _ ρ S' => IS a S' ∧ ∃ p12 p13 p15 p16 p17 p18, ρ = [o0, some (.l 1), o2, o3, some (.v (.int n)), some (.v (plD p)), some (.v (.lst (trs n p.flatten false))), some (.v (.lst (trs n p.flatten true))), o8, o9, o10, o11, p12, p13, o14, p15, p16, p17, p18, o19, o20, o21]) (S0 := S) (itA_ofN (by simp [wy, tro])) ⟨hS, _, _, _, _, _, _, rfl⟩ ?_ fun ρ S h => h
  rintro pre dbl post ρ S' ep ⟨iS, p12, p13, p15, p16, p17, p18, rfl⟩
  show WT ((sSeq z15_1 (sSeq z15_2 (sSeq z15_3 z15_4))) [o0, some (.l 1), o2, o3, some (.v (.int n)), some (.v (plD p)), some (.v (.lst (trs n p.flatten false))), some (.v (.lst (trs n p.flatten true))), o8, o9, o10, o11, some (.v (.int (wy dbl))), some (.v (.lst (tro n p dbl))), o14, p15, p16, p17, p18, o19, o20, o21] S') _ _ _ _
  refine wt_to (z15_1_ok h) ?_
  refine wt_to (z15_2_ok (by omega)) ?_
  obtain ⟨i, j, S2, e3, i2, hi, hj⟩ := z15_3_ok (o0 := o0) (o2 := o2) (o3 := o3) (o5 := some (.v (plD p))) (o6 := some (.v (.lst (trs n p.flatten false)))) (o7 := some (.v (.lst (trs n p.flatten true)))) (o8 := o8) (o9 := o9) (o10 := o10) (o11 := o11) (o12 := some (.v (.int (wy dbl)))) (o13 := some (.v (.lst (tro n p dbl)))) (o14 := o14) (o15 := p15) (o16 := some (.v ((tro n p dbl).headD .non))) (o17 := p17) (o18 := p18) (o19 := o19) (o20 := o20) (o21 := o21) iS (by omega : 0 < n)
  refine wt_to e3 ?_
  refine wt_of (WX_mono (z15_4_ok h hn hi hj) ?_)
  rintro ρ S3 ⟨rfl, p15', rfl⟩
  exact ⟨i2, _, _, _, _, _, _, rfl⟩
end
end G00

namespace G00
open PySem PySem.Spec PyProof.Rows L2 M PR
theorem law_tail {x : D} {a b : Option Ob} (i0 : IS a [a, b]) : Lw ((sSeq z3 (sSeq z4 (sSeq z5 (sSeq z6 (sSeq z7 (sSeq z8 (sSeq z9 (sSeq z10 (sSeq z11 (sSeq z12 (sSeq z13 (sSeq z14 (sSeq z15 (sSeq z16 (sSeq z17 (sSeq z18 z19)))))))))))))))) [some (.v x), some (.l 1), none, none, none, none, none, none, none, none, none, none, none, none, none, none, none, none, none, none, none, none] [a, b]) := by
  refine lw_to z3_ok ?_
  refine lw_to z4_ok ?_
  refine lw_to z5_ok ?_
  obtain ⟨n, p, S6, e6, i6, h2, h8, hp, hl⟩ := plan_ok i0
  have ok := hp.plan h2 h8 hl
  refine lw_to (ρ' := [some (.v x), some (.l 1), some (.v knD), some (.v anD), some (.v (.int n)), some (.v (plD p)), none, none, none, none, none, none, none, none, none, none, none, none, none, none, none, none]) (S' := S6) ?_ ?_
  · simp [z6, e6]
  refine lw_to (z7_ok ok) ?_
  refine lw_to (z8_ok h2) ?_
  refine lw_to (z9_ok (by omega)) ?_
  refine lw_to (z10_ok ok) ?_
  refine lw_to (z11_ok ok) ?_
  refine lw_to (z12_ok ok) ?_
  refine lw_to (z13_ok ok h8 hl) ?_
  refine lw_to (z14_ok ok) ?_
  refine lw_via _ (z15_ok ok h8 i6) ?_
  rintro ρ S ⟨iS, p12, p13, p15, p16, p17, p18, rfl⟩
  obtain ⟨es15, rfl, d15⟩ := id iS
  refine lw_to (z16_ok ⟨h2, h8⟩) ?_
  refine lw_to (z17_ok ⟨h2, h8⟩) ?_
  refine lw_to (z18_ok ⟨h2, h8⟩) ?_
  exact lw_end (z19_ok ok)
theorem law_holds : LawOk f_law := by
  intro ns hn
  rw [show f_law [.v (.kl (ns.map D.int))] [] = leave 0 (body_law ([some (.v (.kl (ns.map D.int)))] ++ List.replicate 21 none) []) from rfl]
  refine Lw.law ?_
  obtain ⟨ds, a, es, e1, e2, d2⟩ := start_ok hn (m := 200) (by decide) (by decide)
  generalize D.kl (ns.map D.int) = x at e1 ⊢
  rw [body_law_parts]
  have t1 : z1 ([some (.v x)] ++ List.replicate 21 none) [] = .nx ([some (.v x), some (.l 0)] ++ List.replicate 20 none) [some (.li (ds.map D.int))] := by
    have e1' : f__law_draws [.v x] [] = .ok (.n (.li (ds.map D.int))) [] := e1
    simp [z1, e1']
  have t2 : z2 ([some (.v x), some (.l 0)] ++ List.replicate 20 none) [some (.li (ds.map D.int))] = .nx ([some (.v x), some (.l 1)] ++ List.replicate 20 none) [a, some (.li (es.map D.int))] := by
    have e2' : f__law_more [.l 0, .v (.int 200)] [some (.li (ds.map D.int))] = .ok (.n (.li (es.map D.int))) [a] := e2
    simp [z2, e2']
  refine lw_to t1 ?_
  refine lw_to t2 ?_
  have i0 : IS a [a, some (.li (es.map D.int))] := ⟨es, rfl, d2⟩
  generalize some (Ob.li (es.map D.int)) = b at i0 ⊢
  simp only [List.replicate_succ, List.replicate_zero, List.cons_append, List.nil_append]
  exact law_tail i0
end G00

namespace G00
open PySem PySem.Spec PyProof.Rows L2 M
/-! ### what the top has written; the law's own head -/
def mkFx {w : World} {K : PySem.W.Frag} {mg : PySem.Str → Option Value} {h : Heap} (X : K.In h) (G : h.Ns mainGlobals mg)
    {a_is_round : Addr} {od_is_round an_is_round : Option Addr} {sl_is_round : Array (Option Value)} {oc_is_round kV_is_round dc_is_round pm_is_round cd_is_round ct_is_round : Value}
    {a_is_plan : Addr} {od_is_plan an_is_plan : Option Addr} {sl_is_plan : Array (Option Value)} {oc_is_plan kV_is_plan dc_is_plan pm_is_plan cd_is_plan ct_is_plan : Value}
    {a_check_plan : Addr} {od_check_plan an_check_plan : Option Addr} {sl_check_plan : Array (Option Value)} {oc_check_plan kV_check_plan dc_check_plan pm_check_plan cd_check_plan ct_check_plan : Value}
    {a_check_team : Addr} {od_check_team an_check_team : Option Addr} {sl_check_team : Array (Option Value)} {oc_check_team kV_check_team dc_check_team pm_check_team cd_check_team ct_check_team : Value}
    {a_counts_of : Addr} {od_counts_of an_counts_of : Option Addr} {sl_counts_of : Array (Option Value)} {oc_counts_of kV_counts_of dc_counts_of pm_counts_of cd_counts_of ct_counts_of : Value}
    {a_meetings : Addr} {od_meetings an_meetings : Option Addr} {sl_meetings : Array (Option Value)} {oc_meetings kV_meetings dc_meetings pm_meetings cd_meetings ct_meetings : Value}
    {a_trouble_of : Addr} {od_trouble_of an_trouble_of : Option Addr} {sl_trouble_of : Array (Option Value)} {oc_trouble_of kV_trouble_of dc_trouble_of pm_trouble_of cd_trouble_of ct_trouble_of : Value}
    {a_single_trouble : Addr} {od_single_trouble an_single_trouble : Option Addr} {sl_single_trouble : Array (Option Value)} {oc_single_trouble kV_single_trouble dc_single_trouble pm_single_trouble cd_single_trouble ct_single_trouble : Value}
    {a_double_trouble : Addr} {od_double_trouble an_double_trouble : Option Addr} {sl_double_trouble : Array (Option Value)} {oc_double_trouble kV_double_trouble dc_double_trouble pm_double_trouble cd_double_trouble ct_double_trouble : Value}
    {a_tells_trouble : Addr} {od_tells_trouble an_tells_trouble : Option Addr} {sl_tells_trouble : Array (Option Value)} {oc_tells_trouble kV_tells_trouble dc_tells_trouble pm_tells_trouble cd_tells_trouble ct_tells_trouble : Value}
    {a_is_single_trouble : Addr} {od_is_single_trouble an_is_single_trouble : Option Addr} {sl_is_single_trouble : Array (Option Value)} {oc_is_single_trouble kV_is_single_trouble dc_is_single_trouble pm_is_single_trouble cd_is_single_trouble ct_is_single_trouble : Value}
    {a_is_double_trouble : Addr} {od_is_double_trouble an_is_double_trouble : Option Addr} {sl_is_double_trouble : Array (Option Value)} {oc_is_double_trouble kV_is_double_trouble dc_is_double_trouble pm_is_double_trouble cd_is_double_trouble ct_is_double_trouble : Value}
    {a_is_single : Addr} {od_is_single an_is_single : Option Addr} {sl_is_single : Array (Option Value)} {oc_is_single kV_is_single dc_is_single pm_is_single cd_is_single ct_is_single : Value}
    {a_is_double : Addr} {od_is_double an_is_double : Option Addr} {sl_is_double : Array (Option Value)} {oc_is_double kV_is_double dc_is_double pm_is_double cd_is_double ct_is_double : Value}
    {a_is_full : Addr} {od_is_full an_is_full : Option Addr} {sl_is_full : Array (Option Value)} {oc_is_full kV_is_full dc_is_full pm_is_full cd_is_full ct_is_full : Value}
    {a_pattern_of : Addr} {od_pattern_of an_pattern_of : Option Addr} {sl_pattern_of : Array (Option Value)} {oc_pattern_of kV_pattern_of dc_pattern_of pm_pattern_of cd_pattern_of ct_pattern_of : Value}
    {a_pattern : Addr} {od_pattern an_pattern : Option Addr} {sl_pattern : Array (Option Value)} {oc_pattern kV_pattern dc_pattern pm_pattern cd_pattern ct_pattern : Value}
    {a_breaks_in : Addr} {od_breaks_in an_breaks_in : Option Addr} {sl_breaks_in : Array (Option Value)} {oc_breaks_in kV_breaks_in dc_breaks_in pm_breaks_in cd_breaks_in ct_breaks_in : Value}
    {a_breaks : Addr} {od_breaks an_breaks : Option Addr} {sl_breaks : Array (Option Value)} {oc_breaks kV_breaks dc_breaks pm_breaks cd_breaks ct_breaks : Value}
    {a_run_in : Addr} {od_run_in an_run_in : Option Addr} {sl_run_in : Array (Option Value)} {oc_run_in kV_run_in dc_run_in pm_run_in cd_run_in ct_run_in : Value}
    {a_longest_run : Addr} {od_longest_run an_longest_run : Option Addr} {sl_longest_run : Array (Option Value)} {oc_longest_run kV_longest_run dc_longest_run pm_longest_run cd_longest_run ct_longest_run : Value}
    {a__law_number : Addr} {od__law_number an__law_number : Option Addr} {sl__law_number : Array (Option Value)} {oc__law_number kV__law_number dc__law_number pm__law_number cd__law_number ct__law_number : Value}
    {a__law_draws : Addr} {od__law_draws an__law_draws : Option Addr} {sl__law_draws : Array (Option Value)} {oc__law_draws kV__law_draws dc__law_draws pm__law_draws cd__law_draws ct__law_draws : Value}
    {a__law_flat : Addr} {od__law_flat an__law_flat : Option Addr} {sl__law_flat : Array (Option Value)} {oc__law_flat kV__law_flat dc__law_flat pm__law_flat cd__law_flat ct__law_flat : Value}
    {a__law_next : Addr} {od__law_next an__law_next : Option Addr} {sl__law_next : Array (Option Value)} {oc__law_next kV__law_next dc__law_next pm__law_next cd__law_next ct__law_next : Value}
    {a__law_more : Addr} {od__law_more an__law_more : Option Addr} {sl__law_more : Array (Option Value)} {oc__law_more kV__law_more dc__law_more pm__law_more cd__law_more ct__law_more : Value}
    {a__law_kind : Addr} {od__law_kind an__law_kind : Option Addr} {sl__law_kind : Array (Option Value)} {oc__law_kind kV__law_kind dc__law_kind pm__law_kind cd__law_kind ct__law_kind : Value}
    {a__law_mixed : Addr} {od__law_mixed an__law_mixed : Option Addr} {sl__law_mixed : Array (Option Value)} {oc__law_mixed kV__law_mixed dc__law_mixed pm__law_mixed cd__law_mixed ct__law_mixed : Value}
    {a__law_circle : Addr} {od__law_circle an__law_circle : Option Addr} {sl__law_circle : Array (Option Value)} {oc__law_circle kV__law_circle dc__law_circle pm__law_circle cd__law_circle ct__law_circle : Value}
    {a__law_any_circle : Addr} {od__law_any_circle an__law_any_circle : Option Addr} {sl__law_any_circle : Array (Option Value)} {oc__law_any_circle kV__law_any_circle dc__law_any_circle pm__law_any_circle cd__law_any_circle ct__law_any_circle : Value}
    {a__law_renamed : Addr} {od__law_renamed an__law_renamed : Option Addr} {sl__law_renamed : Array (Option Value)} {oc__law_renamed kV__law_renamed dc__law_renamed pm__law_renamed cd__law_renamed ct__law_renamed : Value}
    {a__law_plan : Addr} {od__law_plan an__law_plan : Option Addr} {sl__law_plan : Array (Option Value)} {oc__law_plan kV__law_plan dc__law_plan pm__law_plan cd__law_plan ct__law_plan : Value}
    {a__law_games : Addr} {od__law_games an__law_games : Option Addr} {sl__law_games : Array (Option Value)} {oc__law_games kV__law_games dc__law_games pm__law_games cd__law_games ct__law_games : Value}
    {a__law_troubles : Addr} {od__law_troubles an__law_troubles : Option Addr} {sl__law_troubles : Array (Option Value)} {oc__law_troubles kV__law_troubles dc__law_troubles pm__law_troubles cd__law_troubles ct__law_troubles : Value}
    {a__law_pattern : Addr} {od__law_pattern an__law_pattern : Option Addr} {sl__law_pattern : Array (Option Value)} {oc__law_pattern kV__law_pattern dc__law_pattern pm__law_pattern cd__law_pattern ct__law_pattern : Value}
    {a__law_breaks : Addr} {od__law_breaks an__law_breaks : Option Addr} {sl__law_breaks : Array (Option Value)} {oc__law_breaks kV__law_breaks dc__law_breaks pm__law_breaks cd__law_breaks ct__law_breaks : Value}
    {a__law_run : Addr} {od__law_run an__law_run : Option Addr} {sl__law_run : Array (Option Value)} {oc__law_run kV__law_run dc__law_run pm__law_run cd__law_run ct__law_run : Value}
    {a__law_asked : Addr} {od__law_asked an__law_asked : Option Addr} {sl__law_asked : Array (Option Value)} {oc__law_asked kV__law_asked dc__law_asked pm__law_asked cd__law_asked ct__law_asked : Value}
    {a_law : Addr} {od_law an_law : Option Addr} {sl_law : Array (Option Value)} {oc_law kV_law dc_law pm_law cd_law ct_law : Value}
    {t_AWAY : _}
    {t_FEWEST_TEAMS : _}
    {t_FREE : _}
    {t_HOME : _}
    {t_MORE : _}
    {t_MOST_ROUNDS : _}
    {t_MOST_TEAMS : _}
    {t_NONE : _}
    {C_PlanError : Addr}
    {C_NotPlan : Addr}
    {C_NotResults : Addr}
    {C_NotPattern : Addr}
    {C_NotPaper : Addr}
    {C_BadNumber : Addr}
    {C_NoAnswer : Addr}
    {C_TooLarge : Addr}
    (n_is_round : PySem.W.nsIn K mainGlobals "is_round" = some (some (.ref a_is_round)))
    (l_is_round : K.lookup a_is_round = some ⟨oc_is_round, od_is_round, .func (PySem.W.fnOf "is_round" "is_round" (defArgs s_is_round) (defBody s_is_round) (defScope s_is_round) .none kV_is_round dc_is_round pm_is_round an_is_round cd_is_round ct_is_round), sl_is_round⟩)
    (c_is_round : PySem.W.codeIn K cd_is_round "is_round" = true)
    (k_is_round : PySem.W.keepIn K (.ref a_is_round) = true)
    (n_is_plan : PySem.W.nsIn K mainGlobals "is_plan" = some (some (.ref a_is_plan)))
    (l_is_plan : K.lookup a_is_plan = some ⟨oc_is_plan, od_is_plan, .func (PySem.W.fnOf "is_plan" "is_plan" (defArgs s_is_plan) (defBody s_is_plan) (defScope s_is_plan) .none kV_is_plan dc_is_plan pm_is_plan an_is_plan cd_is_plan ct_is_plan), sl_is_plan⟩)
    (c_is_plan : PySem.W.codeIn K cd_is_plan "is_plan" = true)
    (k_is_plan : PySem.W.keepIn K (.ref a_is_plan) = true)
    (n_check_plan : PySem.W.nsIn K mainGlobals "check_plan" = some (some (.ref a_check_plan)))
    (l_check_plan : K.lookup a_check_plan = some ⟨oc_check_plan, od_check_plan, .func (PySem.W.fnOf "check_plan" "check_plan" (defArgs s_check_plan) (defBody s_check_plan) (defScope s_check_plan) .none kV_check_plan dc_check_plan pm_check_plan an_check_plan cd_check_plan ct_check_plan), sl_check_plan⟩)
    (c_check_plan : PySem.W.codeIn K cd_check_plan "check_plan" = true)
    (k_check_plan : PySem.W.keepIn K (.ref a_check_plan) = true)
    (n_check_team : PySem.W.nsIn K mainGlobals "check_team" = some (some (.ref a_check_team)))
    (l_check_team : K.lookup a_check_team = some ⟨oc_check_team, od_check_team, .func (PySem.W.fnOf "check_team" "check_team" (defArgs s_check_team) (defBody s_check_team) (defScope s_check_team) .none kV_check_team dc_check_team pm_check_team an_check_team cd_check_team ct_check_team), sl_check_team⟩)
    (c_check_team : PySem.W.codeIn K cd_check_team "check_team" = true)
    (k_check_team : PySem.W.keepIn K (.ref a_check_team) = true)
    (n_counts_of : PySem.W.nsIn K mainGlobals "counts_of" = some (some (.ref a_counts_of)))
    (l_counts_of : K.lookup a_counts_of = some ⟨oc_counts_of, od_counts_of, .func (PySem.W.fnOf "counts_of" "counts_of" (defArgs s_counts_of) (defBody s_counts_of) (defScope s_counts_of) .none kV_counts_of dc_counts_of pm_counts_of an_counts_of cd_counts_of ct_counts_of), sl_counts_of⟩)
    (c_counts_of : PySem.W.codeIn K cd_counts_of "counts_of" = true)
    (k_counts_of : PySem.W.keepIn K (.ref a_counts_of) = true)
    (n_meetings : PySem.W.nsIn K mainGlobals "meetings" = some (some (.ref a_meetings)))
    (l_meetings : K.lookup a_meetings = some ⟨oc_meetings, od_meetings, .func (PySem.W.fnOf "meetings" "meetings" (defArgs s_meetings) (defBody s_meetings) (defScope s_meetings) .none kV_meetings dc_meetings pm_meetings an_meetings cd_meetings ct_meetings), sl_meetings⟩)
    (c_meetings : PySem.W.codeIn K cd_meetings "meetings" = true)
    (k_meetings : PySem.W.keepIn K (.ref a_meetings) = true)
    (n_trouble_of : PySem.W.nsIn K mainGlobals "trouble_of" = some (some (.ref a_trouble_of)))
    (l_trouble_of : K.lookup a_trouble_of = some ⟨oc_trouble_of, od_trouble_of, .func (PySem.W.fnOf "trouble_of" "trouble_of" (defArgs s_trouble_of) (defBody s_trouble_of) (defScope s_trouble_of) .none kV_trouble_of dc_trouble_of pm_trouble_of an_trouble_of cd_trouble_of ct_trouble_of), sl_trouble_of⟩)
    (c_trouble_of : PySem.W.codeIn K cd_trouble_of "trouble_of" = true)
    (k_trouble_of : PySem.W.keepIn K (.ref a_trouble_of) = true)
    (n_single_trouble : PySem.W.nsIn K mainGlobals "single_trouble" = some (some (.ref a_single_trouble)))
    (l_single_trouble : K.lookup a_single_trouble = some ⟨oc_single_trouble, od_single_trouble, .func (PySem.W.fnOf "single_trouble" "single_trouble" (defArgs s_single_trouble) (defBody s_single_trouble) (defScope s_single_trouble) .none kV_single_trouble dc_single_trouble pm_single_trouble an_single_trouble cd_single_trouble ct_single_trouble), sl_single_trouble⟩)
    (c_single_trouble : PySem.W.codeIn K cd_single_trouble "single_trouble" = true)
    (k_single_trouble : PySem.W.keepIn K (.ref a_single_trouble) = true)
    (n_double_trouble : PySem.W.nsIn K mainGlobals "double_trouble" = some (some (.ref a_double_trouble)))
    (l_double_trouble : K.lookup a_double_trouble = some ⟨oc_double_trouble, od_double_trouble, .func (PySem.W.fnOf "double_trouble" "double_trouble" (defArgs s_double_trouble) (defBody s_double_trouble) (defScope s_double_trouble) .none kV_double_trouble dc_double_trouble pm_double_trouble an_double_trouble cd_double_trouble ct_double_trouble), sl_double_trouble⟩)
    (c_double_trouble : PySem.W.codeIn K cd_double_trouble "double_trouble" = true)
    (k_double_trouble : PySem.W.keepIn K (.ref a_double_trouble) = true)
    (n_tells_trouble : PySem.W.nsIn K mainGlobals "tells_trouble" = some (some (.ref a_tells_trouble)))
    (l_tells_trouble : K.lookup a_tells_trouble = some ⟨oc_tells_trouble, od_tells_trouble, .func (PySem.W.fnOf "tells_trouble" "tells_trouble" (defArgs s_tells_trouble) (defBody s_tells_trouble) (defScope s_tells_trouble) .none kV_tells_trouble dc_tells_trouble pm_tells_trouble an_tells_trouble cd_tells_trouble ct_tells_trouble), sl_tells_trouble⟩)
    (c_tells_trouble : PySem.W.codeIn K cd_tells_trouble "tells_trouble" = true)
    (k_tells_trouble : PySem.W.keepIn K (.ref a_tells_trouble) = true)
    (n_is_single_trouble : PySem.W.nsIn K mainGlobals "is_single_trouble" = some (some (.ref a_is_single_trouble)))
    (l_is_single_trouble : K.lookup a_is_single_trouble = some ⟨oc_is_single_trouble, od_is_single_trouble, .func (PySem.W.fnOf "is_single_trouble" "is_single_trouble" (defArgs s_is_single_trouble) (defBody s_is_single_trouble) (defScope s_is_single_trouble) .none kV_is_single_trouble dc_is_single_trouble pm_is_single_trouble an_is_single_trouble cd_is_single_trouble ct_is_single_trouble), sl_is_single_trouble⟩)
    (c_is_single_trouble : PySem.W.codeIn K cd_is_single_trouble "is_single_trouble" = true)
    (k_is_single_trouble : PySem.W.keepIn K (.ref a_is_single_trouble) = true)
    (n_is_double_trouble : PySem.W.nsIn K mainGlobals "is_double_trouble" = some (some (.ref a_is_double_trouble)))
    (l_is_double_trouble : K.lookup a_is_double_trouble = some ⟨oc_is_double_trouble, od_is_double_trouble, .func (PySem.W.fnOf "is_double_trouble" "is_double_trouble" (defArgs s_is_double_trouble) (defBody s_is_double_trouble) (defScope s_is_double_trouble) .none kV_is_double_trouble dc_is_double_trouble pm_is_double_trouble an_is_double_trouble cd_is_double_trouble ct_is_double_trouble), sl_is_double_trouble⟩)
    (c_is_double_trouble : PySem.W.codeIn K cd_is_double_trouble "is_double_trouble" = true)
    (k_is_double_trouble : PySem.W.keepIn K (.ref a_is_double_trouble) = true)
    (n_is_single : PySem.W.nsIn K mainGlobals "is_single" = some (some (.ref a_is_single)))
    (l_is_single : K.lookup a_is_single = some ⟨oc_is_single, od_is_single, .func (PySem.W.fnOf "is_single" "is_single" (defArgs s_is_single) (defBody s_is_single) (defScope s_is_single) .none kV_is_single dc_is_single pm_is_single an_is_single cd_is_single ct_is_single), sl_is_single⟩)
    (c_is_single : PySem.W.codeIn K cd_is_single "is_single" = true)
    (k_is_single : PySem.W.keepIn K (.ref a_is_single) = true)
    (n_is_double : PySem.W.nsIn K mainGlobals "is_double" = some (some (.ref a_is_double)))
    (l_is_double : K.lookup a_is_double = some ⟨oc_is_double, od_is_double, .func (PySem.W.fnOf "is_double" "is_double" (defArgs s_is_double) (defBody s_is_double) (defScope s_is_double) .none kV_is_double dc_is_double pm_is_double an_is_double cd_is_double ct_is_double), sl_is_double⟩)
    (c_is_double : PySem.W.codeIn K cd_is_double "is_double" = true)
    (k_is_double : PySem.W.keepIn K (.ref a_is_double) = true)
    (n_is_full : PySem.W.nsIn K mainGlobals "is_full" = some (some (.ref a_is_full)))
    (l_is_full : K.lookup a_is_full = some ⟨oc_is_full, od_is_full, .func (PySem.W.fnOf "is_full" "is_full" (defArgs s_is_full) (defBody s_is_full) (defScope s_is_full) .none kV_is_full dc_is_full pm_is_full an_is_full cd_is_full ct_is_full), sl_is_full⟩)
    (c_is_full : PySem.W.codeIn K cd_is_full "is_full" = true)
    (k_is_full : PySem.W.keepIn K (.ref a_is_full) = true)
    (n_pattern_of : PySem.W.nsIn K mainGlobals "pattern_of" = some (some (.ref a_pattern_of)))
    (l_pattern_of : K.lookup a_pattern_of = some ⟨oc_pattern_of, od_pattern_of, .func (PySem.W.fnOf "pattern_of" "pattern_of" (defArgs s_pattern_of) (defBody s_pattern_of) (defScope s_pattern_of) .none kV_pattern_of dc_pattern_of pm_pattern_of an_pattern_of cd_pattern_of ct_pattern_of), sl_pattern_of⟩)
    (c_pattern_of : PySem.W.codeIn K cd_pattern_of "pattern_of" = true)
    (k_pattern_of : PySem.W.keepIn K (.ref a_pattern_of) = true)
    (n_pattern : PySem.W.nsIn K mainGlobals "pattern" = some (some (.ref a_pattern)))
    (l_pattern : K.lookup a_pattern = some ⟨oc_pattern, od_pattern, .func (PySem.W.fnOf "pattern" "pattern" (defArgs s_pattern) (defBody s_pattern) (defScope s_pattern) .none kV_pattern dc_pattern pm_pattern an_pattern cd_pattern ct_pattern), sl_pattern⟩)
    (c_pattern : PySem.W.codeIn K cd_pattern "pattern" = true)
    (k_pattern : PySem.W.keepIn K (.ref a_pattern) = true)
    (n_breaks_in : PySem.W.nsIn K mainGlobals "breaks_in" = some (some (.ref a_breaks_in)))
    (l_breaks_in : K.lookup a_breaks_in = some ⟨oc_breaks_in, od_breaks_in, .func (PySem.W.fnOf "breaks_in" "breaks_in" (defArgs s_breaks_in) (defBody s_breaks_in) (defScope s_breaks_in) .none kV_breaks_in dc_breaks_in pm_breaks_in an_breaks_in cd_breaks_in ct_breaks_in), sl_breaks_in⟩)
    (c_breaks_in : PySem.W.codeIn K cd_breaks_in "breaks_in" = true)
    (k_breaks_in : PySem.W.keepIn K (.ref a_breaks_in) = true)
    (n_breaks : PySem.W.nsIn K mainGlobals "breaks" = some (some (.ref a_breaks)))
    (l_breaks : K.lookup a_breaks = some ⟨oc_breaks, od_breaks, .func (PySem.W.fnOf "breaks" "breaks" (defArgs s_breaks) (defBody s_breaks) (defScope s_breaks) .none kV_breaks dc_breaks pm_breaks an_breaks cd_breaks ct_breaks), sl_breaks⟩)
    (c_breaks : PySem.W.codeIn K cd_breaks "breaks" = true)
    (k_breaks : PySem.W.keepIn K (.ref a_breaks) = true)
    (n_run_in : PySem.W.nsIn K mainGlobals "run_in" = some (some (.ref a_run_in)))
    (l_run_in : K.lookup a_run_in = some ⟨oc_run_in, od_run_in, .func (PySem.W.fnOf "run_in" "run_in" (defArgs s_run_in) (defBody s_run_in) (defScope s_run_in) .none kV_run_in dc_run_in pm_run_in an_run_in cd_run_in ct_run_in), sl_run_in⟩)
    (c_run_in : PySem.W.codeIn K cd_run_in "run_in" = true)
    (k_run_in : PySem.W.keepIn K (.ref a_run_in) = true)
    (n_longest_run : PySem.W.nsIn K mainGlobals "longest_run" = some (some (.ref a_longest_run)))
    (l_longest_run : K.lookup a_longest_run = some ⟨oc_longest_run, od_longest_run, .func (PySem.W.fnOf "longest_run" "longest_run" (defArgs s_longest_run) (defBody s_longest_run) (defScope s_longest_run) .none kV_longest_run dc_longest_run pm_longest_run an_longest_run cd_longest_run ct_longest_run), sl_longest_run⟩)
    (c_longest_run : PySem.W.codeIn K cd_longest_run "longest_run" = true)
    (k_longest_run : PySem.W.keepIn K (.ref a_longest_run) = true)
    (n__law_number : PySem.W.nsIn K mainGlobals "_law_number" = some (some (.ref a__law_number)))
    (l__law_number : K.lookup a__law_number = some ⟨oc__law_number, od__law_number, .func (PySem.W.fnOf "_law_number" "_law_number" (defArgs s__law_number) (defBody s__law_number) (defScope s__law_number) .none kV__law_number dc__law_number pm__law_number an__law_number cd__law_number ct__law_number), sl__law_number⟩)
    (c__law_number : PySem.W.codeIn K cd__law_number "_law_number" = true)
    (k__law_number : PySem.W.keepIn K (.ref a__law_number) = true)
    (n__law_draws : PySem.W.nsIn K mainGlobals "_law_draws" = some (some (.ref a__law_draws)))
    (l__law_draws : K.lookup a__law_draws = some ⟨oc__law_draws, od__law_draws, .func (PySem.W.fnOf "_law_draws" "_law_draws" (defArgs s__law_draws) (defBody s__law_draws) (defScope s__law_draws) .none kV__law_draws dc__law_draws pm__law_draws an__law_draws cd__law_draws ct__law_draws), sl__law_draws⟩)
    (c__law_draws : PySem.W.codeIn K cd__law_draws "_law_draws" = true)
    (k__law_draws : PySem.W.keepIn K (.ref a__law_draws) = true)
    (n__law_flat : PySem.W.nsIn K mainGlobals "_law_flat" = some (some (.ref a__law_flat)))
    (l__law_flat : K.lookup a__law_flat = some ⟨oc__law_flat, od__law_flat, .func (PySem.W.fnOf "_law_flat" "_law_flat" (defArgs s__law_flat) (defBody s__law_flat) (defScope s__law_flat) .none kV__law_flat dc__law_flat pm__law_flat an__law_flat cd__law_flat ct__law_flat), sl__law_flat⟩)
    (c__law_flat : PySem.W.codeIn K cd__law_flat "_law_flat" = true)
    (k__law_flat : PySem.W.keepIn K (.ref a__law_flat) = true)
    (n__law_next : PySem.W.nsIn K mainGlobals "_law_next" = some (some (.ref a__law_next)))
    (l__law_next : K.lookup a__law_next = some ⟨oc__law_next, od__law_next, .func (PySem.W.fnOf "_law_next" "_law_next" (defArgs s__law_next) (defBody s__law_next) (defScope s__law_next) .none kV__law_next dc__law_next pm__law_next an__law_next cd__law_next ct__law_next), sl__law_next⟩)
    (c__law_next : PySem.W.codeIn K cd__law_next "_law_next" = true)
    (k__law_next : PySem.W.keepIn K (.ref a__law_next) = true)
    (n__law_more : PySem.W.nsIn K mainGlobals "_law_more" = some (some (.ref a__law_more)))
    (l__law_more : K.lookup a__law_more = some ⟨oc__law_more, od__law_more, .func (PySem.W.fnOf "_law_more" "_law_more" (defArgs s__law_more) (defBody s__law_more) (defScope s__law_more) .none kV__law_more dc__law_more pm__law_more an__law_more cd__law_more ct__law_more), sl__law_more⟩)
    (c__law_more : PySem.W.codeIn K cd__law_more "_law_more" = true)
    (k__law_more : PySem.W.keepIn K (.ref a__law_more) = true)
    (n__law_kind : PySem.W.nsIn K mainGlobals "_law_kind" = some (some (.ref a__law_kind)))
    (l__law_kind : K.lookup a__law_kind = some ⟨oc__law_kind, od__law_kind, .func (PySem.W.fnOf "_law_kind" "_law_kind" (defArgs s__law_kind) (defBody s__law_kind) (defScope s__law_kind) .none kV__law_kind dc__law_kind pm__law_kind an__law_kind cd__law_kind ct__law_kind), sl__law_kind⟩)
    (c__law_kind : PySem.W.codeIn K cd__law_kind "_law_kind" = true)
    (k__law_kind : PySem.W.keepIn K (.ref a__law_kind) = true)
    (n__law_mixed : PySem.W.nsIn K mainGlobals "_law_mixed" = some (some (.ref a__law_mixed)))
    (l__law_mixed : K.lookup a__law_mixed = some ⟨oc__law_mixed, od__law_mixed, .func (PySem.W.fnOf "_law_mixed" "_law_mixed" (defArgs s__law_mixed) (defBody s__law_mixed) (defScope s__law_mixed) .none kV__law_mixed dc__law_mixed pm__law_mixed an__law_mixed cd__law_mixed ct__law_mixed), sl__law_mixed⟩)
    (c__law_mixed : PySem.W.codeIn K cd__law_mixed "_law_mixed" = true)
    (k__law_mixed : PySem.W.keepIn K (.ref a__law_mixed) = true)
    (n__law_circle : PySem.W.nsIn K mainGlobals "_law_circle" = some (some (.ref a__law_circle)))
    (l__law_circle : K.lookup a__law_circle = some ⟨oc__law_circle, od__law_circle, .func (PySem.W.fnOf "_law_circle" "_law_circle" (defArgs s__law_circle) (defBody s__law_circle) (defScope s__law_circle) .none kV__law_circle dc__law_circle pm__law_circle an__law_circle cd__law_circle ct__law_circle), sl__law_circle⟩)
    (c__law_circle : PySem.W.codeIn K cd__law_circle "_law_circle" = true)
    (k__law_circle : PySem.W.keepIn K (.ref a__law_circle) = true)
    (n__law_any_circle : PySem.W.nsIn K mainGlobals "_law_any_circle" = some (some (.ref a__law_any_circle)))
    (l__law_any_circle : K.lookup a__law_any_circle = some ⟨oc__law_any_circle, od__law_any_circle, .func (PySem.W.fnOf "_law_any_circle" "_law_any_circle" (defArgs s__law_any_circle) (defBody s__law_any_circle) (defScope s__law_any_circle) .none kV__law_any_circle dc__law_any_circle pm__law_any_circle an__law_any_circle cd__law_any_circle ct__law_any_circle), sl__law_any_circle⟩)
    (c__law_any_circle : PySem.W.codeIn K cd__law_any_circle "_law_any_circle" = true)
    (k__law_any_circle : PySem.W.keepIn K (.ref a__law_any_circle) = true)
    (n__law_renamed : PySem.W.nsIn K mainGlobals "_law_renamed" = some (some (.ref a__law_renamed)))
    (l__law_renamed : K.lookup a__law_renamed = some ⟨oc__law_renamed, od__law_renamed, .func (PySem.W.fnOf "_law_renamed" "_law_renamed" (defArgs s__law_renamed) (defBody s__law_renamed) (defScope s__law_renamed) .none kV__law_renamed dc__law_renamed pm__law_renamed an__law_renamed cd__law_renamed ct__law_renamed), sl__law_renamed⟩)
    (c__law_renamed : PySem.W.codeIn K cd__law_renamed "_law_renamed" = true)
    (k__law_renamed : PySem.W.keepIn K (.ref a__law_renamed) = true)
    (n__law_plan : PySem.W.nsIn K mainGlobals "_law_plan" = some (some (.ref a__law_plan)))
    (l__law_plan : K.lookup a__law_plan = some ⟨oc__law_plan, od__law_plan, .func (PySem.W.fnOf "_law_plan" "_law_plan" (defArgs s__law_plan) (defBody s__law_plan) (defScope s__law_plan) .none kV__law_plan dc__law_plan pm__law_plan an__law_plan cd__law_plan ct__law_plan), sl__law_plan⟩)
    (c__law_plan : PySem.W.codeIn K cd__law_plan "_law_plan" = true)
    (k__law_plan : PySem.W.keepIn K (.ref a__law_plan) = true)
    (n__law_games : PySem.W.nsIn K mainGlobals "_law_games" = some (some (.ref a__law_games)))
    (l__law_games : K.lookup a__law_games = some ⟨oc__law_games, od__law_games, .func (PySem.W.fnOf "_law_games" "_law_games" (defArgs s__law_games) (defBody s__law_games) (defScope s__law_games) .none kV__law_games dc__law_games pm__law_games an__law_games cd__law_games ct__law_games), sl__law_games⟩)
    (c__law_games : PySem.W.codeIn K cd__law_games "_law_games" = true)
    (k__law_games : PySem.W.keepIn K (.ref a__law_games) = true)
    (n__law_troubles : PySem.W.nsIn K mainGlobals "_law_troubles" = some (some (.ref a__law_troubles)))
    (l__law_troubles : K.lookup a__law_troubles = some ⟨oc__law_troubles, od__law_troubles, .func (PySem.W.fnOf "_law_troubles" "_law_troubles" (defArgs s__law_troubles) (defBody s__law_troubles) (defScope s__law_troubles) .none kV__law_troubles dc__law_troubles pm__law_troubles an__law_troubles cd__law_troubles ct__law_troubles), sl__law_troubles⟩)
    (c__law_troubles : PySem.W.codeIn K cd__law_troubles "_law_troubles" = true)
    (k__law_troubles : PySem.W.keepIn K (.ref a__law_troubles) = true)
    (n__law_pattern : PySem.W.nsIn K mainGlobals "_law_pattern" = some (some (.ref a__law_pattern)))
    (l__law_pattern : K.lookup a__law_pattern = some ⟨oc__law_pattern, od__law_pattern, .func (PySem.W.fnOf "_law_pattern" "_law_pattern" (defArgs s__law_pattern) (defBody s__law_pattern) (defScope s__law_pattern) .none kV__law_pattern dc__law_pattern pm__law_pattern an__law_pattern cd__law_pattern ct__law_pattern), sl__law_pattern⟩)
    (c__law_pattern : PySem.W.codeIn K cd__law_pattern "_law_pattern" = true)
    (k__law_pattern : PySem.W.keepIn K (.ref a__law_pattern) = true)
    (n__law_breaks : PySem.W.nsIn K mainGlobals "_law_breaks" = some (some (.ref a__law_breaks)))
    (l__law_breaks : K.lookup a__law_breaks = some ⟨oc__law_breaks, od__law_breaks, .func (PySem.W.fnOf "_law_breaks" "_law_breaks" (defArgs s__law_breaks) (defBody s__law_breaks) (defScope s__law_breaks) .none kV__law_breaks dc__law_breaks pm__law_breaks an__law_breaks cd__law_breaks ct__law_breaks), sl__law_breaks⟩)
    (c__law_breaks : PySem.W.codeIn K cd__law_breaks "_law_breaks" = true)
    (k__law_breaks : PySem.W.keepIn K (.ref a__law_breaks) = true)
    (n__law_run : PySem.W.nsIn K mainGlobals "_law_run" = some (some (.ref a__law_run)))
    (l__law_run : K.lookup a__law_run = some ⟨oc__law_run, od__law_run, .func (PySem.W.fnOf "_law_run" "_law_run" (defArgs s__law_run) (defBody s__law_run) (defScope s__law_run) .none kV__law_run dc__law_run pm__law_run an__law_run cd__law_run ct__law_run), sl__law_run⟩)
    (c__law_run : PySem.W.codeIn K cd__law_run "_law_run" = true)
    (k__law_run : PySem.W.keepIn K (.ref a__law_run) = true)
    (n__law_asked : PySem.W.nsIn K mainGlobals "_law_asked" = some (some (.ref a__law_asked)))
    (l__law_asked : K.lookup a__law_asked = some ⟨oc__law_asked, od__law_asked, .func (PySem.W.fnOf "_law_asked" "_law_asked" (defArgs s__law_asked) (defBody s__law_asked) (defScope s__law_asked) .none kV__law_asked dc__law_asked pm__law_asked an__law_asked cd__law_asked ct__law_asked), sl__law_asked⟩)
    (c__law_asked : PySem.W.codeIn K cd__law_asked "_law_asked" = true)
    (k__law_asked : PySem.W.keepIn K (.ref a__law_asked) = true)
    (n_law : PySem.W.nsIn K mainGlobals "law" = some (some (.ref a_law)))
    (l_law : K.lookup a_law = some ⟨oc_law, od_law, .func (PySem.W.fnOf "law" "law" (defArgs s_law) (defBody s_law) (defScope s_law) .none kV_law dc_law pm_law an_law cd_law ct_law), sl_law⟩)
    (c_law : PySem.W.codeIn K cd_law "law" = true)
    (k_law : PySem.W.keepIn K (.ref a_law) = true)
    (z_all : PySem.W.nsIn K mainGlobals "all" = some none)
    (z_any : PySem.W.nsIn K mainGlobals "any" = some none)
    (z_enumerate : PySem.W.nsIn K mainGlobals "enumerate" = some none)
    (z_int : PySem.W.nsIn K mainGlobals "int" = some none)
    (z_isinstance : PySem.W.nsIn K mainGlobals "isinstance" = some none)
    (z_len : PySem.W.nsIn K mainGlobals "len" = some none)
    (z_list : PySem.W.nsIn K mainGlobals "list" = some none)
    (z_max : PySem.W.nsIn K mainGlobals "max" = some none)
    (z_range : PySem.W.nsIn K mainGlobals "range" = some none)
    (z_repr : PySem.W.nsIn K mainGlobals "repr" = some none)
    (z_sorted : PySem.W.nsIn K mainGlobals "sorted" = some none)
    (z_tuple : PySem.W.nsIn K mainGlobals "tuple" = some none)
    (n_AWAY : PySem.W.nsIn K mainGlobals "AWAY" = some (some (.int 1 t_AWAY)))
    (n_FEWEST_TEAMS : PySem.W.nsIn K mainGlobals "FEWEST_TEAMS" = some (some (.int 2 t_FEWEST_TEAMS)))
    (n_FREE : PySem.W.nsIn K mainGlobals "FREE" = some (some (.int 2 t_FREE)))
    (n_HOME : PySem.W.nsIn K mainGlobals "HOME" = some (some (.int 0 t_HOME)))
    (n_MORE : PySem.W.nsIn K mainGlobals "MORE" = some (some (.str "more" t_MORE)))
    (n_MOST_ROUNDS : PySem.W.nsIn K mainGlobals "MOST_ROUNDS" = some (some (.int 200 t_MOST_ROUNDS)))
    (n_MOST_TEAMS : PySem.W.nsIn K mainGlobals "MOST_TEAMS" = some (some (.int 60 t_MOST_TEAMS)))
    (n_NONE : PySem.W.nsIn K mainGlobals "NONE" = some (some (.str "lacks" t_NONE)))
    (n_PlanError : PySem.W.nsIn K mainGlobals "PlanError" = some (some (.ref C_PlanError)))
    (ic_PlanError : PySem.W.isClsIn K C_PlanError = true)
    (tt_PlanError : PySem.W.typeIn K (.ref C_PlanError) = some (.type "type"))
    (bs_PlanError : PySem.W.subIn K (.ref C_PlanError) (.type "BaseException") = some true)
    (n_NotPlan : PySem.W.nsIn K mainGlobals "NotPlan" = some (some (.ref C_NotPlan)))
    (ic_NotPlan : PySem.W.isClsIn K C_NotPlan = true)
    (tt_NotPlan : PySem.W.typeIn K (.ref C_NotPlan) = some (.type "type"))
    (n_NotResults : PySem.W.nsIn K mainGlobals "NotResults" = some (some (.ref C_NotResults)))
    (ic_NotResults : PySem.W.isClsIn K C_NotResults = true)
    (tt_NotResults : PySem.W.typeIn K (.ref C_NotResults) = some (.type "type"))
    (n_NotPattern : PySem.W.nsIn K mainGlobals "NotPattern" = some (some (.ref C_NotPattern)))
    (ic_NotPattern : PySem.W.isClsIn K C_NotPattern = true)
    (tt_NotPattern : PySem.W.typeIn K (.ref C_NotPattern) = some (.type "type"))
    (n_NotPaper : PySem.W.nsIn K mainGlobals "NotPaper" = some (some (.ref C_NotPaper)))
    (ic_NotPaper : PySem.W.isClsIn K C_NotPaper = true)
    (tt_NotPaper : PySem.W.typeIn K (.ref C_NotPaper) = some (.type "type"))
    (n_BadNumber : PySem.W.nsIn K mainGlobals "BadNumber" = some (some (.ref C_BadNumber)))
    (ic_BadNumber : PySem.W.isClsIn K C_BadNumber = true)
    (tt_BadNumber : PySem.W.typeIn K (.ref C_BadNumber) = some (.type "type"))
    (n_NoAnswer : PySem.W.nsIn K mainGlobals "NoAnswer" = some (some (.ref C_NoAnswer)))
    (ic_NoAnswer : PySem.W.isClsIn K C_NoAnswer = true)
    (tt_NoAnswer : PySem.W.typeIn K (.ref C_NoAnswer) = some (.type "type"))
    (n_TooLarge : PySem.W.nsIn K mainGlobals "TooLarge" = some (some (.ref C_TooLarge)))
    (ic_TooLarge : PySem.W.isClsIn K C_TooLarge = true)
    (tt_TooLarge : PySem.W.typeIn K (.ref C_TooLarge) = some (.type "type"))
    (x_NotPlan : PySem.W.excIn K C_NotPlan [.type "ValueError", .type "Exception", .type "BaseException", .type "object"] "ValueError.__new__" = true)
    (kC_NotPlan : PySem.W.keepIn K (.ref C_NotPlan) = true)
    (bs_NotPlan : PySem.W.subIn K (.ref C_NotPlan) (.type "BaseException") = some true)
    (ty_NotPlan : PySem.W.typeIn K (.ref C_NotPlan) = some (.type "type"))
    (sp_NotPlan : PySem.W.subIn K (.ref C_NotPlan) (.ref C_PlanError) = some true)
    (e1_NotPlan : PySem.W.findIn K (.ref C_NotPlan) "__getattribute__" = some (some (.builtin "BaseException.__getattribute__")))
    (e2_NotPlan : PySem.W.findIn K (.ref C_NotPlan) "__getattr__" = some none)
    (e4_NotPlan : PySem.W.hasDictIn K C_NotPlan = true)
    (e5_NotPlan : PySem.W.findIn K (.ref C_NotPlan) "__class__" = some (some (.builtin "object.__class__")))
    (e6_NotPlan : PySem.W.specialIn K (.builtin "object.__class__") "__get__" = some (some (.builtin "getset_descriptor.__get__")))
    (e7_NotPlan : PySem.W.takesIn K (.builtin "object.__class__") = some true)
    (e8_NotPlan : PySem.W.mroIn K C_NotPlan (.type "object") = some true)
    (ne_NotPlan_NotResults : (Value.ref C_NotPlan == Value.ref C_NotResults) = false)
    (sb_NotPlan_NotResults : PySem.W.subIn K (.ref C_NotPlan) (.ref C_NotResults) = some false)
    (ne_NotPlan_NotPattern : (Value.ref C_NotPlan == Value.ref C_NotPattern) = false)
    (sb_NotPlan_NotPattern : PySem.W.subIn K (.ref C_NotPlan) (.ref C_NotPattern) = some false)
    (ne_NotPlan_NotPaper : (Value.ref C_NotPlan == Value.ref C_NotPaper) = false)
    (sb_NotPlan_NotPaper : PySem.W.subIn K (.ref C_NotPlan) (.ref C_NotPaper) = some false)
    (ne_NotPlan_BadNumber : (Value.ref C_NotPlan == Value.ref C_BadNumber) = false)
    (sb_NotPlan_BadNumber : PySem.W.subIn K (.ref C_NotPlan) (.ref C_BadNumber) = some false)
    (ne_NotPlan_NoAnswer : (Value.ref C_NotPlan == Value.ref C_NoAnswer) = false)
    (sb_NotPlan_NoAnswer : PySem.W.subIn K (.ref C_NotPlan) (.ref C_NoAnswer) = some false)
    (ne_NotPlan_TooLarge : (Value.ref C_NotPlan == Value.ref C_TooLarge) = false)
    (sb_NotPlan_TooLarge : PySem.W.subIn K (.ref C_NotPlan) (.ref C_TooLarge) = some false)
    (x_BadNumber : PySem.W.excIn K C_BadNumber [.type "ValueError", .type "Exception", .type "BaseException", .type "object"] "ValueError.__new__" = true)
    (kC_BadNumber : PySem.W.keepIn K (.ref C_BadNumber) = true)
    (bs_BadNumber : PySem.W.subIn K (.ref C_BadNumber) (.type "BaseException") = some true)
    (ty_BadNumber : PySem.W.typeIn K (.ref C_BadNumber) = some (.type "type"))
    (sp_BadNumber : PySem.W.subIn K (.ref C_BadNumber) (.ref C_PlanError) = some true)
    (e1_BadNumber : PySem.W.findIn K (.ref C_BadNumber) "__getattribute__" = some (some (.builtin "BaseException.__getattribute__")))
    (e2_BadNumber : PySem.W.findIn K (.ref C_BadNumber) "__getattr__" = some none)
    (e4_BadNumber : PySem.W.hasDictIn K C_BadNumber = true)
    (e5_BadNumber : PySem.W.findIn K (.ref C_BadNumber) "__class__" = some (some (.builtin "object.__class__")))
    (e6_BadNumber : PySem.W.specialIn K (.builtin "object.__class__") "__get__" = some (some (.builtin "getset_descriptor.__get__")))
    (e7_BadNumber : PySem.W.takesIn K (.builtin "object.__class__") = some true)
    (e8_BadNumber : PySem.W.mroIn K C_BadNumber (.type "object") = some true)
    (ne_BadNumber_NotPlan : (Value.ref C_BadNumber == Value.ref C_NotPlan) = false)
    (sb_BadNumber_NotPlan : PySem.W.subIn K (.ref C_BadNumber) (.ref C_NotPlan) = some false)
    (ne_BadNumber_NotResults : (Value.ref C_BadNumber == Value.ref C_NotResults) = false)
    (sb_BadNumber_NotResults : PySem.W.subIn K (.ref C_BadNumber) (.ref C_NotResults) = some false)
    (ne_BadNumber_NotPattern : (Value.ref C_BadNumber == Value.ref C_NotPattern) = false)
    (sb_BadNumber_NotPattern : PySem.W.subIn K (.ref C_BadNumber) (.ref C_NotPattern) = some false)
    (ne_BadNumber_NotPaper : (Value.ref C_BadNumber == Value.ref C_NotPaper) = false)
    (sb_BadNumber_NotPaper : PySem.W.subIn K (.ref C_BadNumber) (.ref C_NotPaper) = some false)
    (ne_BadNumber_NoAnswer : (Value.ref C_BadNumber == Value.ref C_NoAnswer) = false)
    (sb_BadNumber_NoAnswer : PySem.W.subIn K (.ref C_BadNumber) (.ref C_NoAnswer) = some false)
    (ne_BadNumber_TooLarge : (Value.ref C_BadNumber == Value.ref C_TooLarge) = false)
    (sb_BadNumber_TooLarge : PySem.W.subIn K (.ref C_BadNumber) (.ref C_TooLarge) = some false) : Fx K w mg where
  a_is_round := a_is_round
  d_is_round := PySem.W.fnOf "is_round" "is_round" (defArgs s_is_round) (defBody s_is_round) (defScope s_is_round) .none kV_is_round dc_is_round pm_is_round an_is_round cd_is_round ct_is_round
  F_is_round := fun_mk (st := s_is_round) l_is_round c_is_round k_is_round
  g_is_round := PySem.W.mg_of X G n_is_round
  b_is_round := (fun_mk (st := s_is_round) l_is_round c_is_round k_is_round).binds (ps := ["n", "games"]) fun _ _ _ _ _ _ us hl => match us, hl with | [_, _], _ => rfl
  a_is_plan := a_is_plan
  d_is_plan := PySem.W.fnOf "is_plan" "is_plan" (defArgs s_is_plan) (defBody s_is_plan) (defScope s_is_plan) .none kV_is_plan dc_is_plan pm_is_plan an_is_plan cd_is_plan ct_is_plan
  F_is_plan := fun_mk (st := s_is_plan) l_is_plan c_is_plan k_is_plan
  g_is_plan := PySem.W.mg_of X G n_is_plan
  b_is_plan := (fun_mk (st := s_is_plan) l_is_plan c_is_plan k_is_plan).binds (ps := ["n", "plan"]) fun _ _ _ _ _ _ us hl => match us, hl with | [_, _], _ => rfl
  a_check_plan := a_check_plan
  d_check_plan := PySem.W.fnOf "check_plan" "check_plan" (defArgs s_check_plan) (defBody s_check_plan) (defScope s_check_plan) .none kV_check_plan dc_check_plan pm_check_plan an_check_plan cd_check_plan ct_check_plan
  F_check_plan := fun_mk (st := s_check_plan) l_check_plan c_check_plan k_check_plan
  g_check_plan := PySem.W.mg_of X G n_check_plan
  b_check_plan := (fun_mk (st := s_check_plan) l_check_plan c_check_plan k_check_plan).binds (ps := ["n", "plan"]) fun _ _ _ _ _ _ us hl => match us, hl with | [_, _], _ => rfl
  a_check_team := a_check_team
  d_check_team := PySem.W.fnOf "check_team" "check_team" (defArgs s_check_team) (defBody s_check_team) (defScope s_check_team) .none kV_check_team dc_check_team pm_check_team an_check_team cd_check_team ct_check_team
  F_check_team := fun_mk (st := s_check_team) l_check_team c_check_team k_check_team
  g_check_team := PySem.W.mg_of X G n_check_team
  b_check_team := (fun_mk (st := s_check_team) l_check_team c_check_team k_check_team).binds (ps := ["n", "team"]) fun _ _ _ _ _ _ us hl => match us, hl with | [_, _], _ => rfl
  a_counts_of := a_counts_of
  d_counts_of := PySem.W.fnOf "counts_of" "counts_of" (defArgs s_counts_of) (defBody s_counts_of) (defScope s_counts_of) .none kV_counts_of dc_counts_of pm_counts_of an_counts_of cd_counts_of ct_counts_of
  F_counts_of := fun_mk (st := s_counts_of) l_counts_of c_counts_of k_counts_of
  g_counts_of := PySem.W.mg_of X G n_counts_of
  b_counts_of := (fun_mk (st := s_counts_of) l_counts_of c_counts_of k_counts_of).binds (ps := ["plan"]) fun _ _ _ _ _ _ us hl => match us, hl with | [_], _ => rfl
  a_meetings := a_meetings
  d_meetings := PySem.W.fnOf "meetings" "meetings" (defArgs s_meetings) (defBody s_meetings) (defScope s_meetings) .none kV_meetings dc_meetings pm_meetings an_meetings cd_meetings ct_meetings
  F_meetings := fun_mk (st := s_meetings) l_meetings c_meetings k_meetings
  g_meetings := PySem.W.mg_of X G n_meetings
  b_meetings := (fun_mk (st := s_meetings) l_meetings c_meetings k_meetings).binds (ps := ["counts", "i", "j"]) fun _ _ _ _ _ _ us hl => match us, hl with | [_, _, _], _ => rfl
  a_trouble_of := a_trouble_of
  d_trouble_of := PySem.W.fnOf "trouble_of" "trouble_of" (defArgs s_trouble_of) (defBody s_trouble_of) (defScope s_trouble_of) .none kV_trouble_of dc_trouble_of pm_trouble_of an_trouble_of cd_trouble_of ct_trouble_of
  F_trouble_of := fun_mk (st := s_trouble_of) l_trouble_of c_trouble_of k_trouble_of
  g_trouble_of := PySem.W.mg_of X G n_trouble_of
  b_trouble_of := (fun_mk (st := s_trouble_of) l_trouble_of c_trouble_of k_trouble_of).binds (ps := ["n", "plan", "double"]) fun _ _ _ _ _ _ us hl => match us, hl with | [_, _, _], _ => rfl
  a_single_trouble := a_single_trouble
  d_single_trouble := PySem.W.fnOf "single_trouble" "single_trouble" (defArgs s_single_trouble) (defBody s_single_trouble) (defScope s_single_trouble) .none kV_single_trouble dc_single_trouble pm_single_trouble an_single_trouble cd_single_trouble ct_single_trouble
  F_single_trouble := fun_mk (st := s_single_trouble) l_single_trouble c_single_trouble k_single_trouble
  g_single_trouble := PySem.W.mg_of X G n_single_trouble
  b_single_trouble := (fun_mk (st := s_single_trouble) l_single_trouble c_single_trouble k_single_trouble).binds (ps := ["n", "plan"]) fun _ _ _ _ _ _ us hl => match us, hl with | [_, _], _ => rfl
  a_double_trouble := a_double_trouble
  d_double_trouble := PySem.W.fnOf "double_trouble" "double_trouble" (defArgs s_double_trouble) (defBody s_double_trouble) (defScope s_double_trouble) .none kV_double_trouble dc_double_trouble pm_double_trouble an_double_trouble cd_double_trouble ct_double_trouble
  F_double_trouble := fun_mk (st := s_double_trouble) l_double_trouble c_double_trouble k_double_trouble
  g_double_trouble := PySem.W.mg_of X G n_double_trouble
  b_double_trouble := (fun_mk (st := s_double_trouble) l_double_trouble c_double_trouble k_double_trouble).binds (ps := ["n", "plan"]) fun _ _ _ _ _ _ us hl => match us, hl with | [_, _], _ => rfl
  a_tells_trouble := a_tells_trouble
  d_tells_trouble := PySem.W.fnOf "tells_trouble" "tells_trouble" (defArgs s_tells_trouble) (defBody s_tells_trouble) (defScope s_tells_trouble) .none kV_tells_trouble dc_tells_trouble pm_tells_trouble an_tells_trouble cd_tells_trouble ct_tells_trouble
  F_tells_trouble := fun_mk (st := s_tells_trouble) l_tells_trouble c_tells_trouble k_tells_trouble
  g_tells_trouble := PySem.W.mg_of X G n_tells_trouble
  b_tells_trouble := (fun_mk (st := s_tells_trouble) l_tells_trouble c_tells_trouble k_tells_trouble).binds (ps := ["n", "plan", "told", "double"]) fun _ _ _ _ _ _ us hl => match us, hl with | [_, _, _, _], _ => rfl
  a_is_single_trouble := a_is_single_trouble
  d_is_single_trouble := PySem.W.fnOf "is_single_trouble" "is_single_trouble" (defArgs s_is_single_trouble) (defBody s_is_single_trouble) (defScope s_is_single_trouble) .none kV_is_single_trouble dc_is_single_trouble pm_is_single_trouble an_is_single_trouble cd_is_single_trouble ct_is_single_trouble
  F_is_single_trouble := fun_mk (st := s_is_single_trouble) l_is_single_trouble c_is_single_trouble k_is_single_trouble
  g_is_single_trouble := PySem.W.mg_of X G n_is_single_trouble
  b_is_single_trouble := (fun_mk (st := s_is_single_trouble) l_is_single_trouble c_is_single_trouble k_is_single_trouble).binds (ps := ["n", "plan", "told"]) fun _ _ _ _ _ _ us hl => match us, hl with | [_, _, _], _ => rfl
  a_is_double_trouble := a_is_double_trouble
  d_is_double_trouble := PySem.W.fnOf "is_double_trouble" "is_double_trouble" (defArgs s_is_double_trouble) (defBody s_is_double_trouble) (defScope s_is_double_trouble) .none kV_is_double_trouble dc_is_double_trouble pm_is_double_trouble an_is_double_trouble cd_is_double_trouble ct_is_double_trouble
  F_is_double_trouble := fun_mk (st := s_is_double_trouble) l_is_double_trouble c_is_double_trouble k_is_double_trouble
  g_is_double_trouble := PySem.W.mg_of X G n_is_double_trouble
  b_is_double_trouble := (fun_mk (st := s_is_double_trouble) l_is_double_trouble c_is_double_trouble k_is_double_trouble).binds (ps := ["n", "plan", "told"]) fun _ _ _ _ _ _ us hl => match us, hl with | [_, _, _], _ => rfl
  a_is_single := a_is_single
  d_is_single := PySem.W.fnOf "is_single" "is_single" (defArgs s_is_single) (defBody s_is_single) (defScope s_is_single) .none kV_is_single dc_is_single pm_is_single an_is_single cd_is_single ct_is_single
  F_is_single := fun_mk (st := s_is_single) l_is_single c_is_single k_is_single
  g_is_single := PySem.W.mg_of X G n_is_single
  b_is_single := (fun_mk (st := s_is_single) l_is_single c_is_single k_is_single).binds (ps := ["n", "plan"]) fun _ _ _ _ _ _ us hl => match us, hl with | [_, _], _ => rfl
  a_is_double := a_is_double
  d_is_double := PySem.W.fnOf "is_double" "is_double" (defArgs s_is_double) (defBody s_is_double) (defScope s_is_double) .none kV_is_double dc_is_double pm_is_double an_is_double cd_is_double ct_is_double
  F_is_double := fun_mk (st := s_is_double) l_is_double c_is_double k_is_double
  g_is_double := PySem.W.mg_of X G n_is_double
  b_is_double := (fun_mk (st := s_is_double) l_is_double c_is_double k_is_double).binds (ps := ["n", "plan"]) fun _ _ _ _ _ _ us hl => match us, hl with | [_, _], _ => rfl
  a_is_full := a_is_full
  d_is_full := PySem.W.fnOf "is_full" "is_full" (defArgs s_is_full) (defBody s_is_full) (defScope s_is_full) .none kV_is_full dc_is_full pm_is_full an_is_full cd_is_full ct_is_full
  F_is_full := fun_mk (st := s_is_full) l_is_full c_is_full k_is_full
  g_is_full := PySem.W.mg_of X G n_is_full
  b_is_full := (fun_mk (st := s_is_full) l_is_full c_is_full k_is_full).binds (ps := ["n", "plan"]) fun _ _ _ _ _ _ us hl => match us, hl with | [_, _], _ => rfl
  a_pattern_of := a_pattern_of
  d_pattern_of := PySem.W.fnOf "pattern_of" "pattern_of" (defArgs s_pattern_of) (defBody s_pattern_of) (defScope s_pattern_of) .none kV_pattern_of dc_pattern_of pm_pattern_of an_pattern_of cd_pattern_of ct_pattern_of
  F_pattern_of := fun_mk (st := s_pattern_of) l_pattern_of c_pattern_of k_pattern_of
  g_pattern_of := PySem.W.mg_of X G n_pattern_of
  b_pattern_of := (fun_mk (st := s_pattern_of) l_pattern_of c_pattern_of k_pattern_of).binds (ps := ["plan", "team"]) fun _ _ _ _ _ _ us hl => match us, hl with | [_, _], _ => rfl
  a_pattern := a_pattern
  d_pattern := PySem.W.fnOf "pattern" "pattern" (defArgs s_pattern) (defBody s_pattern) (defScope s_pattern) .none kV_pattern dc_pattern pm_pattern an_pattern cd_pattern ct_pattern
  F_pattern := fun_mk (st := s_pattern) l_pattern c_pattern k_pattern
  g_pattern := PySem.W.mg_of X G n_pattern
  b_pattern := (fun_mk (st := s_pattern) l_pattern c_pattern k_pattern).binds (ps := ["n", "plan", "team"]) fun _ _ _ _ _ _ us hl => match us, hl with | [_, _, _], _ => rfl
  a_breaks_in := a_breaks_in
  d_breaks_in := PySem.W.fnOf "breaks_in" "breaks_in" (defArgs s_breaks_in) (defBody s_breaks_in) (defScope s_breaks_in) .none kV_breaks_in dc_breaks_in pm_breaks_in an_breaks_in cd_breaks_in ct_breaks_in
  F_breaks_in := fun_mk (st := s_breaks_in) l_breaks_in c_breaks_in k_breaks_in
  g_breaks_in := PySem.W.mg_of X G n_breaks_in
  b_breaks_in := (fun_mk (st := s_breaks_in) l_breaks_in c_breaks_in k_breaks_in).binds (ps := ["entries"]) fun _ _ _ _ _ _ us hl => match us, hl with | [_], _ => rfl
  a_breaks := a_breaks
  d_breaks := PySem.W.fnOf "breaks" "breaks" (defArgs s_breaks) (defBody s_breaks) (defScope s_breaks) .none kV_breaks dc_breaks pm_breaks an_breaks cd_breaks ct_breaks
  F_breaks := fun_mk (st := s_breaks) l_breaks c_breaks k_breaks
  g_breaks := PySem.W.mg_of X G n_breaks
  b_breaks := (fun_mk (st := s_breaks) l_breaks c_breaks k_breaks).binds (ps := ["n", "plan"]) fun _ _ _ _ _ _ us hl => match us, hl with | [_, _], _ => rfl
  a_run_in := a_run_in
  d_run_in := PySem.W.fnOf "run_in" "run_in" (defArgs s_run_in) (defBody s_run_in) (defScope s_run_in) .none kV_run_in dc_run_in pm_run_in an_run_in cd_run_in ct_run_in
  F_run_in := fun_mk (st := s_run_in) l_run_in c_run_in k_run_in
  g_run_in := PySem.W.mg_of X G n_run_in
  b_run_in := (fun_mk (st := s_run_in) l_run_in c_run_in k_run_in).binds (ps := ["entries"]) fun _ _ _ _ _ _ us hl => match us, hl with | [_], _ => rfl
  a_longest_run := a_longest_run
  d_longest_run := PySem.W.fnOf "longest_run" "longest_run" (defArgs s_longest_run) (defBody s_longest_run) (defScope s_longest_run) .none kV_longest_run dc_longest_run pm_longest_run an_longest_run cd_longest_run ct_longest_run
  F_longest_run := fun_mk (st := s_longest_run) l_longest_run c_longest_run k_longest_run
  g_longest_run := PySem.W.mg_of X G n_longest_run
  b_longest_run := (fun_mk (st := s_longest_run) l_longest_run c_longest_run k_longest_run).binds (ps := ["n", "plan"]) fun _ _ _ _ _ _ us hl => match us, hl with | [_, _], _ => rfl
  a__law_number := a__law_number
  d__law_number := PySem.W.fnOf "_law_number" "_law_number" (defArgs s__law_number) (defBody s__law_number) (defScope s__law_number) .none kV__law_number dc__law_number pm__law_number an__law_number cd__law_number ct__law_number
  F__law_number := fun_mk (st := s__law_number) l__law_number c__law_number k__law_number
  g__law_number := PySem.W.mg_of X G n__law_number
  b__law_number := (fun_mk (st := s__law_number) l__law_number c__law_number k__law_number).binds (ps := ["cell"]) fun _ _ _ _ _ _ us hl => match us, hl with | [_], _ => rfl
  a__law_draws := a__law_draws
  d__law_draws := PySem.W.fnOf "_law_draws" "_law_draws" (defArgs s__law_draws) (defBody s__law_draws) (defScope s__law_draws) .none kV__law_draws dc__law_draws pm__law_draws an__law_draws cd__law_draws ct__law_draws
  F__law_draws := fun_mk (st := s__law_draws) l__law_draws c__law_draws k__law_draws
  g__law_draws := PySem.W.mg_of X G n__law_draws
  b__law_draws := (fun_mk (st := s__law_draws) l__law_draws c__law_draws k__law_draws).binds (ps := ["script"]) fun _ _ _ _ _ _ us hl => match us, hl with | [_], _ => rfl
  a__law_flat := a__law_flat
  d__law_flat := PySem.W.fnOf "_law_flat" "_law_flat" (defArgs s__law_flat) (defBody s__law_flat) (defScope s__law_flat) .none kV__law_flat dc__law_flat pm__law_flat an__law_flat cd__law_flat ct__law_flat
  F__law_flat := fun_mk (st := s__law_flat) l__law_flat c__law_flat k__law_flat
  g__law_flat := PySem.W.mg_of X G n__law_flat
  b__law_flat := (fun_mk (st := s__law_flat) l__law_flat c__law_flat k__law_flat).binds (ps := ["rows"]) fun _ _ _ _ _ _ us hl => match us, hl with | [_], _ => rfl
  a__law_next := a__law_next
  d__law_next := PySem.W.fnOf "_law_next" "_law_next" (defArgs s__law_next) (defBody s__law_next) (defScope s__law_next) .none kV__law_next dc__law_next pm__law_next an__law_next cd__law_next ct__law_next
  F__law_next := fun_mk (st := s__law_next) l__law_next c__law_next k__law_next
  g__law_next := PySem.W.mg_of X G n__law_next
  b__law_next := (fun_mk (st := s__law_next) l__law_next c__law_next k__law_next).binds (ps := ["draws"]) fun _ _ _ _ _ _ us hl => match us, hl with | [_], _ => rfl
  a__law_more := a__law_more
  d__law_more := PySem.W.fnOf "_law_more" "_law_more" (defArgs s__law_more) (defBody s__law_more) (defScope s__law_more) .none kV__law_more dc__law_more pm__law_more an__law_more cd__law_more ct__law_more
  F__law_more := fun_mk (st := s__law_more) l__law_more c__law_more k__law_more
  g__law_more := PySem.W.mg_of X G n__law_more
  b__law_more := (fun_mk (st := s__law_more) l__law_more c__law_more k__law_more).binds (ps := ["draws", "many"]) fun _ _ _ _ _ _ us hl => match us, hl with | [_, _], _ => rfl
  a__law_kind := a__law_kind
  d__law_kind := PySem.W.fnOf "_law_kind" "_law_kind" (defArgs s__law_kind) (defBody s__law_kind) (defScope s__law_kind) .none kV__law_kind dc__law_kind pm__law_kind an__law_kind cd__law_kind ct__law_kind
  F__law_kind := fun_mk (st := s__law_kind) l__law_kind c__law_kind k__law_kind
  g__law_kind := PySem.W.mg_of X G n__law_kind
  b__law_kind := (fun_mk (st := s__law_kind) l__law_kind c__law_kind k__law_kind).binds (ps := ["error"]) fun _ _ _ _ _ _ us hl => match us, hl with | [_], _ => rfl
  a__law_mixed := a__law_mixed
  d__law_mixed := PySem.W.fnOf "_law_mixed" "_law_mixed" (defArgs s__law_mixed) (defBody s__law_mixed) (defScope s__law_mixed) .none kV__law_mixed dc__law_mixed pm__law_mixed an__law_mixed cd__law_mixed ct__law_mixed
  F__law_mixed := fun_mk (st := s__law_mixed) l__law_mixed c__law_mixed k__law_mixed
  g__law_mixed := PySem.W.mg_of X G n__law_mixed
  b__law_mixed := (fun_mk (st := s__law_mixed) l__law_mixed c__law_mixed k__law_mixed).binds (ps := ["draws", "n"]) fun _ _ _ _ _ _ us hl => match us, hl with | [_, _], _ => rfl
  a__law_circle := a__law_circle
  d__law_circle := PySem.W.fnOf "_law_circle" "_law_circle" (defArgs s__law_circle) (defBody s__law_circle) (defScope s__law_circle) .none kV__law_circle dc__law_circle pm__law_circle an__law_circle cd__law_circle ct__law_circle
  F__law_circle := fun_mk (st := s__law_circle) l__law_circle c__law_circle k__law_circle
  g__law_circle := PySem.W.mg_of X G n__law_circle
  b__law_circle := (fun_mk (st := s__law_circle) l__law_circle c__law_circle k__law_circle).binds (ps := ["n"]) fun _ _ _ _ _ _ us hl => match us, hl with | [_], _ => rfl
  a__law_any_circle := a__law_any_circle
  d__law_any_circle := PySem.W.fnOf "_law_any_circle" "_law_any_circle" (defArgs s__law_any_circle) (defBody s__law_any_circle) (defScope s__law_any_circle) .none kV__law_any_circle dc__law_any_circle pm__law_any_circle an__law_any_circle cd__law_any_circle ct__law_any_circle
  F__law_any_circle := fun_mk (st := s__law_any_circle) l__law_any_circle c__law_any_circle k__law_any_circle
  g__law_any_circle := PySem.W.mg_of X G n__law_any_circle
  b__law_any_circle := (fun_mk (st := s__law_any_circle) l__law_any_circle c__law_any_circle k__law_any_circle).binds (ps := ["n"]) fun _ _ _ _ _ _ us hl => match us, hl with | [_], _ => rfl
  a__law_renamed := a__law_renamed
  d__law_renamed := PySem.W.fnOf "_law_renamed" "_law_renamed" (defArgs s__law_renamed) (defBody s__law_renamed) (defScope s__law_renamed) .none kV__law_renamed dc__law_renamed pm__law_renamed an__law_renamed cd__law_renamed ct__law_renamed
  F__law_renamed := fun_mk (st := s__law_renamed) l__law_renamed c__law_renamed k__law_renamed
  g__law_renamed := PySem.W.mg_of X G n__law_renamed
  b__law_renamed := (fun_mk (st := s__law_renamed) l__law_renamed c__law_renamed k__law_renamed).binds (ps := ["plan", "order"]) fun _ _ _ _ _ _ us hl => match us, hl with | [_, _], _ => rfl
  a__law_plan := a__law_plan
  d__law_plan := PySem.W.fnOf "_law_plan" "_law_plan" (defArgs s__law_plan) (defBody s__law_plan) (defScope s__law_plan) .none kV__law_plan dc__law_plan pm__law_plan an__law_plan cd__law_plan ct__law_plan
  F__law_plan := fun_mk (st := s__law_plan) l__law_plan c__law_plan k__law_plan
  g__law_plan := PySem.W.mg_of X G n__law_plan
  b__law_plan := (fun_mk (st := s__law_plan) l__law_plan c__law_plan k__law_plan).binds (ps := ["draws", "most"]) fun _ _ _ _ _ _ us hl => match us, hl with | [_, _], _ => rfl
  a__law_games := a__law_games
  d__law_games := PySem.W.fnOf "_law_games" "_law_games" (defArgs s__law_games) (defBody s__law_games) (defScope s__law_games) .none kV__law_games dc__law_games pm__law_games an__law_games cd__law_games ct__law_games
  F__law_games := fun_mk (st := s__law_games) l__law_games c__law_games k__law_games
  g__law_games := PySem.W.mg_of X G n__law_games
  b__law_games := (fun_mk (st := s__law_games) l__law_games c__law_games k__law_games).binds (ps := ["plan"]) fun _ _ _ _ _ _ us hl => match us, hl with | [_], _ => rfl
  a__law_troubles := a__law_troubles
  d__law_troubles := PySem.W.fnOf "_law_troubles" "_law_troubles" (defArgs s__law_troubles) (defBody s__law_troubles) (defScope s__law_troubles) .none kV__law_troubles dc__law_troubles pm__law_troubles an__law_troubles cd__law_troubles ct__law_troubles
  F__law_troubles := fun_mk (st := s__law_troubles) l__law_troubles c__law_troubles k__law_troubles
  g__law_troubles := PySem.W.mg_of X G n__law_troubles
  b__law_troubles := (fun_mk (st := s__law_troubles) l__law_troubles c__law_troubles k__law_troubles).binds (ps := ["n", "plan", "double"]) fun _ _ _ _ _ _ us hl => match us, hl with | [_, _, _], _ => rfl
  a__law_pattern := a__law_pattern
  d__law_pattern := PySem.W.fnOf "_law_pattern" "_law_pattern" (defArgs s__law_pattern) (defBody s__law_pattern) (defScope s__law_pattern) .none kV__law_pattern dc__law_pattern pm__law_pattern an__law_pattern cd__law_pattern ct__law_pattern
  F__law_pattern := fun_mk (st := s__law_pattern) l__law_pattern c__law_pattern k__law_pattern
  g__law_pattern := PySem.W.mg_of X G n__law_pattern
  b__law_pattern := (fun_mk (st := s__law_pattern) l__law_pattern c__law_pattern k__law_pattern).binds (ps := ["plan", "team"]) fun _ _ _ _ _ _ us hl => match us, hl with | [_, _], _ => rfl
  a__law_breaks := a__law_breaks
  d__law_breaks := PySem.W.fnOf "_law_breaks" "_law_breaks" (defArgs s__law_breaks) (defBody s__law_breaks) (defScope s__law_breaks) .none kV__law_breaks dc__law_breaks pm__law_breaks an__law_breaks cd__law_breaks ct__law_breaks
  F__law_breaks := fun_mk (st := s__law_breaks) l__law_breaks c__law_breaks k__law_breaks
  g__law_breaks := PySem.W.mg_of X G n__law_breaks
  b__law_breaks := (fun_mk (st := s__law_breaks) l__law_breaks c__law_breaks k__law_breaks).binds (ps := ["entries"]) fun _ _ _ _ _ _ us hl => match us, hl with | [_], _ => rfl
  a__law_run := a__law_run
  d__law_run := PySem.W.fnOf "_law_run" "_law_run" (defArgs s__law_run) (defBody s__law_run) (defScope s__law_run) .none kV__law_run dc__law_run pm__law_run an__law_run cd__law_run ct__law_run
  F__law_run := fun_mk (st := s__law_run) l__law_run c__law_run k__law_run
  g__law_run := PySem.W.mg_of X G n__law_run
  b__law_run := (fun_mk (st := s__law_run) l__law_run c__law_run k__law_run).binds (ps := ["entries"]) fun _ _ _ _ _ _ us hl => match us, hl with | [_], _ => rfl
  a__law_asked := a__law_asked
  d__law_asked := PySem.W.fnOf "_law_asked" "_law_asked" (defArgs s__law_asked) (defBody s__law_asked) (defScope s__law_asked) .none kV__law_asked dc__law_asked pm__law_asked an__law_asked cd__law_asked ct__law_asked
  F__law_asked := fun_mk (st := s__law_asked) l__law_asked c__law_asked k__law_asked
  g__law_asked := PySem.W.mg_of X G n__law_asked
  b__law_asked := (fun_mk (st := s__law_asked) l__law_asked c__law_asked k__law_asked).binds (ps := ["way", "n", "plan", "one"]) fun _ _ _ _ _ _ us hl => match us, hl with | [_, _, _, _], _ => rfl
  a_law := a_law
  d_law := PySem.W.fnOf "law" "law" (defArgs s_law) (defBody s_law) (defScope s_law) .none kV_law dc_law pm_law an_law cd_law ct_law
  F_law := fun_mk (st := s_law) l_law c_law k_law
  g_law := PySem.W.mg_of X G n_law
  b_law := (fun_mk (st := s_law) l_law c_law k_law).binds (ps := ["script"]) fun _ _ _ _ _ _ us hl => match us, hl with | [_], _ => rfl
  z_all := PySem.W.mg_none_of X G z_all
  z_any := PySem.W.mg_none_of X G z_any
  z_enumerate := PySem.W.mg_none_of X G z_enumerate
  z_int := PySem.W.mg_none_of X G z_int
  z_isinstance := PySem.W.mg_none_of X G z_isinstance
  z_len := PySem.W.mg_none_of X G z_len
  z_list := PySem.W.mg_none_of X G z_list
  z_max := PySem.W.mg_none_of X G z_max
  z_range := PySem.W.mg_none_of X G z_range
  z_repr := PySem.W.mg_none_of X G z_repr
  z_sorted := PySem.W.mg_none_of X G z_sorted
  z_tuple := PySem.W.mg_none_of X G z_tuple
  uc_AWAY := .int 1 t_AWAY
  gc_AWAY := PySem.W.mg_of X G n_AWAY
  rc_AWAY := ⟨_, rfl⟩
  uc_FEWEST_TEAMS := .int 2 t_FEWEST_TEAMS
  gc_FEWEST_TEAMS := PySem.W.mg_of X G n_FEWEST_TEAMS
  rc_FEWEST_TEAMS := ⟨_, rfl⟩
  uc_FREE := .int 2 t_FREE
  gc_FREE := PySem.W.mg_of X G n_FREE
  rc_FREE := ⟨_, rfl⟩
  uc_HOME := .int 0 t_HOME
  gc_HOME := PySem.W.mg_of X G n_HOME
  rc_HOME := ⟨_, rfl⟩
  uc_MORE := .str "more" t_MORE
  gc_MORE := PySem.W.mg_of X G n_MORE
  rc_MORE := ⟨_, rfl⟩
  uc_MOST_ROUNDS := .int 200 t_MOST_ROUNDS
  gc_MOST_ROUNDS := PySem.W.mg_of X G n_MOST_ROUNDS
  rc_MOST_ROUNDS := ⟨_, rfl⟩
  uc_MOST_TEAMS := .int 60 t_MOST_TEAMS
  gc_MOST_TEAMS := PySem.W.mg_of X G n_MOST_TEAMS
  rc_MOST_TEAMS := ⟨_, rfl⟩
  uc_NONE := .str "lacks" t_NONE
  gc_NONE := PySem.W.mg_of X G n_NONE
  rc_NONE := ⟨_, rfl⟩
  C_PlanError := C_PlanError
  gC_PlanError := PySem.W.mg_of X G n_PlanError
  C_NotPlan := C_NotPlan
  gC_NotPlan := PySem.W.mg_of X G n_NotPlan
  C_NotResults := C_NotResults
  gC_NotResults := PySem.W.mg_of X G n_NotResults
  C_NotPattern := C_NotPattern
  gC_NotPattern := PySem.W.mg_of X G n_NotPattern
  C_NotPaper := C_NotPaper
  gC_NotPaper := PySem.W.mg_of X G n_NotPaper
  C_BadNumber := C_BadNumber
  gC_BadNumber := PySem.W.mg_of X G n_BadNumber
  C_NoAnswer := C_NoAnswer
  gC_NoAnswer := PySem.W.mg_of X G n_NoAnswer
  C_TooLarge := C_TooLarge
  gC_TooLarge := PySem.W.mg_of X G n_TooLarge
  x_NotPlan := x_NotPlan
  kC_NotPlan := kC_NotPlan
  bs_NotPlan := bs_NotPlan
  ty_NotPlan := ty_NotPlan
  em_NotPlan := M.exm_of bs_PlanError ic_PlanError tt_PlanError sp_NotPlan
  ex_NotPlan := ⟨e1_NotPlan, e2_NotPlan, bs_NotPlan, e4_NotPlan, e5_NotPlan, e6_NotPlan, e7_NotPlan, e8_NotPlan⟩
  k_NotPlan_NotPlan := M.kit_self
  k_NotPlan_NotResults := M.kit_of ne_NotPlan_NotResults ic_NotResults tt_NotResults sb_NotPlan_NotResults
  k_NotPlan_NotPattern := M.kit_of ne_NotPlan_NotPattern ic_NotPattern tt_NotPattern sb_NotPlan_NotPattern
  k_NotPlan_NotPaper := M.kit_of ne_NotPlan_NotPaper ic_NotPaper tt_NotPaper sb_NotPlan_NotPaper
  k_NotPlan_BadNumber := M.kit_of ne_NotPlan_BadNumber ic_BadNumber tt_BadNumber sb_NotPlan_BadNumber
  k_NotPlan_NoAnswer := M.kit_of ne_NotPlan_NoAnswer ic_NoAnswer tt_NoAnswer sb_NotPlan_NoAnswer
  k_NotPlan_TooLarge := M.kit_of ne_NotPlan_TooLarge ic_TooLarge tt_TooLarge sb_NotPlan_TooLarge
  x_BadNumber := x_BadNumber
  kC_BadNumber := kC_BadNumber
  bs_BadNumber := bs_BadNumber
  ty_BadNumber := ty_BadNumber
  em_BadNumber := M.exm_of bs_PlanError ic_PlanError tt_PlanError sp_BadNumber
  ex_BadNumber := ⟨e1_BadNumber, e2_BadNumber, bs_BadNumber, e4_BadNumber, e5_BadNumber, e6_BadNumber, e7_BadNumber, e8_BadNumber⟩
  k_BadNumber_NotPlan := M.kit_of ne_BadNumber_NotPlan ic_NotPlan tt_NotPlan sb_BadNumber_NotPlan
  k_BadNumber_NotResults := M.kit_of ne_BadNumber_NotResults ic_NotResults tt_NotResults sb_BadNumber_NotResults
  k_BadNumber_NotPattern := M.kit_of ne_BadNumber_NotPattern ic_NotPattern tt_NotPattern sb_BadNumber_NotPattern
  k_BadNumber_NotPaper := M.kit_of ne_BadNumber_NotPaper ic_NotPaper tt_NotPaper sb_BadNumber_NotPaper
  k_BadNumber_BadNumber := M.kit_self
  k_BadNumber_NoAnswer := M.kit_of ne_BadNumber_NoAnswer ic_NoAnswer tt_NoAnswer sb_BadNumber_NoAnswer
  k_BadNumber_TooLarge := M.kit_of ne_BadNumber_TooLarge ic_TooLarge tt_TooLarge sb_BadNumber_TooLarge
theorem law_end {P : Program} {w : World} {K : PySem.W.Frag} {mg : PySem.Str → Option Value} {h : Heap} {fa : Addr} (X : K.In h) (G : h.Ns mainGlobals mg) (hfa : mg "law" = some (.ref fa)) (Z : Fx K w mg) :
    ∃ fd : FuncData, (∀ (s : Shared) (v : Value), BindsTo s fd ⟨[v], []⟩ [("script", v)]) ∧ ∀ base : Heap, K.In base → base.Ns mainGlobals mg → FnG P w K mg base 6 fa fd ["script"] (spM ⟨K, mg⟩ f_law) := by
  have e := hfa.symm.trans Z.g_law
  cases e
  refine ⟨Z.d_law, fun s v => ?_, fun base _ _ => ok_law Z⟩
  obtain ⟨oc, od, kV, doc, pm, an, cdv, ct, osl, e, lk, hcd⟩ := Z.F_law.ex
  rw [e]
  exact .of_eq rfl
end G00
open PySem PySem.W PyProof.Rows
set_option maxHeartbeats 0 in
theorem PySem.Challenge.cw_homeandaway_k00_plans_and_patterns_holds : PySem.Challenge.rw_homeandaway_k00_plans_and_patterns.Holds := by
  w_on; o_law; k_head; (case hw => w_witness2)
  k_fill
  refine' M.walkG (l := PySem.Challenge.rw_homeandaway_k00_plans_and_patterns) (k := 6) (x := "script") (g := G00.f_law) rfl rfl ⟨rfl, by decide, by decide⟩ (fun w h Y => PySem.W.kIn_of Y) ?F G00.law_holds
  case F =>
    intro w mg fa h KX G hmg
    refine' G00.law_end KX G hmg (G00.mkFx KX G ?n_is_round ?l_is_round ?c_is_round ?k_is_round ?n_is_plan ?l_is_plan ?c_is_plan ?k_is_plan ?n_check_plan ?l_check_plan ?c_check_plan ?k_check_plan ?n_check_team ?l_check_team ?c_check_team ?k_check_team ?n_counts_of ?l_counts_of ?c_counts_of ?k_counts_of ?n_meetings ?l_meetings ?c_meetings ?k_meetings ?n_trouble_of ?l_trouble_of ?c_trouble_of ?k_trouble_of ?n_single_trouble ?l_single_trouble ?c_single_trouble ?k_single_trouble ?n_double_trouble ?l_double_trouble ?c_double_trouble ?k_double_trouble ?n_tells_trouble ?l_tells_trouble ?c_tells_trouble ?k_tells_trouble ?n_is_single_trouble ?l_is_single_trouble ?c_is_single_trouble ?k_is_single_trouble ?n_is_double_trouble ?l_is_double_trouble ?c_is_double_trouble ?k_is_double_trouble ?n_is_single ?l_is_single ?c_is_single ?k_is_single ?n_is_double ?l_is_double ?c_is_double ?k_is_double ?n_is_full ?l_is_full ?c_is_full ?k_is_full ?n_pattern_of ?l_pattern_of ?c_pattern_of ?k_pattern_of ?n_pattern ?l_pattern ?c_pattern ?k_pattern ?n_breaks_in ?l_breaks_in ?c_breaks_in ?k_breaks_in ?n_breaks ?l_breaks ?c_breaks ?k_breaks ?n_run_in ?l_run_in ?c_run_in ?k_run_in ?n_longest_run ?l_longest_run ?c_longest_run ?k_longest_run ?n__law_number ?l__law_number ?c__law_number ?k__law_number ?n__law_draws ?l__law_draws ?c__law_draws ?k__law_draws ?n__law_flat ?l__law_flat ?c__law_flat ?k__law_flat ?n__law_next ?l__law_next ?c__law_next ?k__law_next ?n__law_more ?l__law_more ?c__law_more ?k__law_more ?n__law_kind ?l__law_kind ?c__law_kind ?k__law_kind ?n__law_mixed ?l__law_mixed ?c__law_mixed ?k__law_mixed ?n__law_circle ?l__law_circle ?c__law_circle ?k__law_circle ?n__law_any_circle ?l__law_any_circle ?c__law_any_circle ?k__law_any_circle ?n__law_renamed ?l__law_renamed ?c__law_renamed ?k__law_renamed ?n__law_plan ?l__law_plan ?c__law_plan ?k__law_plan ?n__law_games ?l__law_games ?c__law_games ?k__law_games ?n__law_troubles ?l__law_troubles ?c__law_troubles ?k__law_troubles ?n__law_pattern ?l__law_pattern ?c__law_pattern ?k__law_pattern ?n__law_breaks ?l__law_breaks ?c__law_breaks ?k__law_breaks ?n__law_run ?l__law_run ?c__law_run ?k__law_run ?n__law_asked ?l__law_asked ?c__law_asked ?k__law_asked ?n_law ?l_law ?c_law ?k_law ?z_all ?z_any ?z_enumerate ?z_int ?z_isinstance ?z_len ?z_list ?z_max ?z_range ?z_repr ?z_sorted ?z_tuple ?n_AWAY ?n_FEWEST_TEAMS ?n_FREE ?n_HOME ?n_MORE ?n_MOST_ROUNDS ?n_MOST_TEAMS ?n_NONE ?n_PlanError ?ic_PlanError ?tt_PlanError ?bs_PlanError ?n_NotPlan ?ic_NotPlan ?tt_NotPlan ?n_NotResults ?ic_NotResults ?tt_NotResults ?n_NotPattern ?ic_NotPattern ?tt_NotPattern ?n_NotPaper ?ic_NotPaper ?tt_NotPaper ?n_BadNumber ?ic_BadNumber ?tt_BadNumber ?n_NoAnswer ?ic_NoAnswer ?tt_NoAnswer ?n_TooLarge ?ic_TooLarge ?tt_TooLarge ?x_NotPlan ?kC_NotPlan ?bs_NotPlan ?ty_NotPlan ?sp_NotPlan ?e1_NotPlan ?e2_NotPlan ?e4_NotPlan ?e5_NotPlan ?e6_NotPlan ?e7_NotPlan ?e8_NotPlan ?ne_NotPlan_NotResults ?sb_NotPlan_NotResults ?ne_NotPlan_NotPattern ?sb_NotPlan_NotPattern ?ne_NotPlan_NotPaper ?sb_NotPlan_NotPaper ?ne_NotPlan_BadNumber ?sb_NotPlan_BadNumber ?ne_NotPlan_NoAnswer ?sb_NotPlan_NoAnswer ?ne_NotPlan_TooLarge ?sb_NotPlan_TooLarge ?x_BadNumber ?kC_BadNumber ?bs_BadNumber ?ty_BadNumber ?sp_BadNumber ?e1_BadNumber ?e2_BadNumber ?e4_BadNumber ?e5_BadNumber ?e6_BadNumber ?e7_BadNumber ?e8_BadNumber ?ne_BadNumber_NotPlan ?sb_BadNumber_NotPlan ?ne_BadNumber_NotResults ?sb_BadNumber_NotResults ?ne_BadNumber_NotPattern ?sb_BadNumber_NotPattern ?ne_BadNumber_NotPaper ?sb_BadNumber_NotPaper ?ne_BadNumber_NoAnswer ?sb_BadNumber_NoAnswer ?ne_BadNumber_TooLarge ?sb_BadNumber_TooLarge)
    case n_is_round => k_is
    case l_is_round => k_is
    case c_is_round => k_is
    case k_is_round => k_is
    case n_is_plan => k_is
    case l_is_plan => k_is
    case c_is_plan => k_is
    case k_is_plan => k_is
    case n_check_plan => k_is
    case l_check_plan => k_is
    case c_check_plan => k_is
    case k_check_plan => k_is
    case n_check_team => k_is
    case l_check_team => k_is
    case c_check_team => k_is
    case k_check_team => k_is
    case n_counts_of => k_is
    case l_counts_of => k_is
    case c_counts_of => k_is
    case k_counts_of => k_is
    case n_meetings => k_is
    case l_meetings => k_is
    case c_meetings => k_is
    case k_meetings => k_is
    case n_trouble_of => k_is
    case l_trouble_of => k_is
    case c_trouble_of => k_is
    case k_trouble_of => k_is
    case n_single_trouble => k_is
    case l_single_trouble => k_is
    case c_single_trouble => k_is
    case k_single_trouble => k_is
    case n_double_trouble => k_is
    case l_double_trouble => k_is
    case c_double_trouble => k_is
    case k_double_trouble => k_is
    case n_tells_trouble => k_is
    case l_tells_trouble => k_is
    case c_tells_trouble => k_is
    case k_tells_trouble => k_is
    case n_is_single_trouble => k_is
    case l_is_single_trouble => k_is
    case c_is_single_trouble => k_is
    case k_is_single_trouble => k_is
    case n_is_double_trouble => k_is
    case l_is_double_trouble => k_is
    case c_is_double_trouble => k_is
    case k_is_double_trouble => k_is
    case n_is_single => k_is
    case l_is_single => k_is
    case c_is_single => k_is
    case k_is_single => k_is
    case n_is_double => k_is
    case l_is_double => k_is
    case c_is_double => k_is
    case k_is_double => k_is
    case n_is_full => k_is
    case l_is_full => k_is
    case c_is_full => k_is
    case k_is_full => k_is
    case n_pattern_of => k_is
    case l_pattern_of => k_is
    case c_pattern_of => k_is
    case k_pattern_of => k_is
    case n_pattern => k_is
    case l_pattern => k_is
    case c_pattern => k_is
    case k_pattern => k_is
    case n_breaks_in => k_is
    case l_breaks_in => k_is
    case c_breaks_in => k_is
    case k_breaks_in => k_is
    case n_breaks => k_is
    case l_breaks => k_is
    case c_breaks => k_is
    case k_breaks => k_is
    case n_run_in => k_is
    case l_run_in => k_is
    case c_run_in => k_is
    case k_run_in => k_is
    case n_longest_run => k_is
    case l_longest_run => k_is
    case c_longest_run => k_is
    case k_longest_run => k_is
    case n__law_number => k_is
    case l__law_number => k_is
    case c__law_number => k_is
    case k__law_number => k_is
    case n__law_draws => k_is
    case l__law_draws => k_is
    case c__law_draws => k_is
    case k__law_draws => k_is
    case n__law_flat => k_is
    case l__law_flat => k_is
    case c__law_flat => k_is
    case k__law_flat => k_is
    case n__law_next => k_is
    case l__law_next => k_is
    case c__law_next => k_is
    case k__law_next => k_is
    case n__law_more => k_is
    case l__law_more => k_is
    case c__law_more => k_is
    case k__law_more => k_is
    case n__law_kind => k_is
    case l__law_kind => k_is
    case c__law_kind => k_is
    case k__law_kind => k_is
    case n__law_mixed => k_is
    case l__law_mixed => k_is
    case c__law_mixed => k_is
    case k__law_mixed => k_is
    case n__law_circle => k_is
    case l__law_circle => k_is
    case c__law_circle => k_is
    case k__law_circle => k_is
    case n__law_any_circle => k_is
    case l__law_any_circle => k_is
    case c__law_any_circle => k_is
    case k__law_any_circle => k_is
    case n__law_renamed => k_is
    case l__law_renamed => k_is
    case c__law_renamed => k_is
    case k__law_renamed => k_is
    case n__law_plan => k_is
    case l__law_plan => k_is
    case c__law_plan => k_is
    case k__law_plan => k_is
    case n__law_games => k_is
    case l__law_games => k_is
    case c__law_games => k_is
    case k__law_games => k_is
    case n__law_troubles => k_is
    case l__law_troubles => k_is
    case c__law_troubles => k_is
    case k__law_troubles => k_is
    case n__law_pattern => k_is
    case l__law_pattern => k_is
    case c__law_pattern => k_is
    case k__law_pattern => k_is
    case n__law_breaks => k_is
    case l__law_breaks => k_is
    case c__law_breaks => k_is
    case k__law_breaks => k_is
    case n__law_run => k_is
    case l__law_run => k_is
    case c__law_run => k_is
    case k__law_run => k_is
    case n__law_asked => k_is
    case l__law_asked => k_is
    case c__law_asked => k_is
    case k__law_asked => k_is
    case n_law => k_is
    case l_law => k_is
    case c_law => k_is
    case k_law => k_is
    case z_all => k_is
    case z_any => k_is
    case z_enumerate => k_is
    case z_int => k_is
    case z_isinstance => k_is
    case z_len => k_is
    case z_list => k_is
    case z_max => k_is
    case z_range => k_is
    case z_repr => k_is
    case z_sorted => k_is
    case z_tuple => k_is
    case n_AWAY => k_is
    case n_FEWEST_TEAMS => k_is
    case n_FREE => k_is
    case n_HOME => k_is
    case n_MORE => k_is
    case n_MOST_ROUNDS => k_is
    case n_MOST_TEAMS => k_is
    case n_NONE => k_is
    case n_PlanError => k_is
    case ic_PlanError => k_is
    case tt_PlanError => k_is
    case bs_PlanError => k_is
    case n_NotPlan => k_is
    case ic_NotPlan => k_is
    case tt_NotPlan => k_is
    case n_NotResults => k_is
    case ic_NotResults => k_is
    case tt_NotResults => k_is
    case n_NotPattern => k_is
    case ic_NotPattern => k_is
    case tt_NotPattern => k_is
    case n_NotPaper => k_is
    case ic_NotPaper => k_is
    case tt_NotPaper => k_is
    case n_BadNumber => k_is
    case ic_BadNumber => k_is
    case tt_BadNumber => k_is
    case n_NoAnswer => k_is
    case ic_NoAnswer => k_is
    case tt_NoAnswer => k_is
    case n_TooLarge => k_is
    case ic_TooLarge => k_is
    case tt_TooLarge => k_is
    case x_NotPlan => k_exc
    case kC_NotPlan => k_is
    case bs_NotPlan => k_is
    case ty_NotPlan => k_is
    case sp_NotPlan => k_is
    case e1_NotPlan => k_is
    case e2_NotPlan => k_is
    case e4_NotPlan => k_is
    case e5_NotPlan => k_is
    case e6_NotPlan => k_is
    case e7_NotPlan => k_is
    case e8_NotPlan => k_is
    case ne_NotPlan_NotResults => rfl
    case sb_NotPlan_NotResults => k_is
    case ne_NotPlan_NotPattern => rfl
    case sb_NotPlan_NotPattern => k_is
    case ne_NotPlan_NotPaper => rfl
    case sb_NotPlan_NotPaper => k_is
    case ne_NotPlan_BadNumber => rfl
    case sb_NotPlan_BadNumber => k_is
    case ne_NotPlan_NoAnswer => rfl
    case sb_NotPlan_NoAnswer => k_is
    case ne_NotPlan_TooLarge => rfl
    case sb_NotPlan_TooLarge => k_is
    case x_BadNumber => k_exc
    case kC_BadNumber => k_is
    case bs_BadNumber => k_is
    case ty_BadNumber => k_is
    case sp_BadNumber => k_is
    case e1_BadNumber => k_is
    case e2_BadNumber => k_is
    case e4_BadNumber => k_is
    case e5_BadNumber => k_is
    case e6_BadNumber => k_is
    case e7_BadNumber => k_is
    case e8_BadNumber => k_is
    case ne_BadNumber_NotPlan => rfl
    case sb_BadNumber_NotPlan => k_is
    case ne_BadNumber_NotResults => rfl
    case sb_BadNumber_NotResults => k_is
    case ne_BadNumber_NotPattern => rfl
    case sb_BadNumber_NotPattern => k_is
    case ne_BadNumber_NotPaper => rfl
    case sb_BadNumber_NotPaper => k_is
    case ne_BadNumber_NoAnswer => rfl
    case sb_BadNumber_NoAnswer => k_is
    case ne_BadNumber_TooLarge => rfl
    case sb_BadNumber_TooLarge => k_is

