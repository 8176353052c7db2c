import PyProof.Rows.All
import HandS.Base
import HandS.Call
import HandS.List
import HandS.Comp
import HandS.Deep
import HandS.Iter
import HandS.Exc
import HandS.CallSlots
import HandS.Wide
import HandS.Gcd
import HandS.IsInst
import HandS.Zip
import KE.KMathG
import HandS.Defaults
import HandS.Words
import HandS.Ends
import HandS.Head0
import HandS.Head1
import HandS.Head2
import HandS.HeadEnd
import HandS.HeadHook1
import HandS.HeadHook2
import PySem.Challenge.RW_soldtoworths_k86_exact_fractions
import Wide.All
import OpenK.AllK
import Wide.FinOn
set_option Elab.async false
set_option linter.all false
set_option maxRecDepth 100000
set_option maxHeartbeats 0
/-! PyiA: data, stores, answers; how a heap bears them. -/
namespace PyI
open PySem L2

/-- data: tuples are values; rol: a list that nobody writes; obj: an object of the store -/
inductive D where
  | non | bl (b : Bool) | int (i : Int) | str (x : Str) | tup (ds : List D) | rol (ds : List D) | obj (i : Nat)

/-- the store's objects -/
inductive O where
  | lst (ds : List D)
  | ins (c : Nat) (fs : List (Str × D))

abbrev Store := List O
/-- an exception: its class, its fields -/
structure Xn where
  c : Nat
  fs : List (Str × D)

inductive R (α : Type) where
  | ok (a : α) (S : Store)
  | exc (x : Xn) (S : Store)
  | bad

def R.bind {α β : Type} (r : R α) (f : α → Store → R β) : R β :=
  match r with
  | .ok a S => f a S
  | .exc x S => .exc x S
  | .bad => .bad
@[simp] theorem R.bind_ok {α β : Type} (a : α) (S : Store) (f : α → Store → R β) : (R.ok a S).bind f = f a S := rfl
@[simp] theorem R.bind_exc {α β : Type} (x : Xn) (S : Store) (f : α → Store → R β) : (R.exc x S).bind f = .exc x S := rfl
@[simp] theorem R.bind_bad {α β : Type} (f : α → Store → R β) : (R.bad : R α).bind f = .bad := rfl

abbrev M (α : Type) := Store → R α
def M.bind {α β : Type} (m : M α) (f : α → M β) : M β := fun S => (m S).bind f
def M.pure {α : Type} (a : α) : M α := fun S => .ok a S
def M.bad {α : Type} : M α := fun _ => .bad
instance : Monad M where
  pure := M.pure
  bind := M.bind
@[simp] theorem M.bind_def {α β : Type} (m : M α) (f : α → M β) (S : Store) : (m >>= f) S = (m S).bind f := rfl
@[simp] theorem M.pure_def {α : Type} (a : α) (S : Store) : (pure a : M α) S = .ok a S := rfl
@[simp] theorem M.pure_def2 {α : Type} (a : α) (S : Store) : (M.pure a : M α) S = .ok a S := rfl
@[simp] theorem M.bad_def {α : Type} (S : Store) : (M.bad : M α) S = .bad := rfl
@[simp] theorem M.bind_def2 {α β : Type} (m : M α) (f : α → M β) (S : Store) : (M.bind m f) S = (m S).bind f := rfl

/-- a new object -/
def alloc (o : O) : M D := fun S => .ok (.obj S.length) (S ++ [o])
def getO (i : Nat) : M O := fun S => match S[i]? with
  | some o => .ok o S
  | none => .bad
def setO (i : Nat) (o : O) : M Unit := fun S => .ok () (S.set i o)

/-! ### the heap bears it -/
section
variable (K : PySem.W.Frag)
/-- a tuple of the written part -/
def KTup (a : Addr) (xs : List V) : Prop := ∃ (o : Obj) (its : Array Value) (n : Nat), K.lookup a = some o ∧ o.cls = .type "tuple" ∧ o.data = .seq its n ∧ its.size ≤ sizeLine ∧ Vals xs its.toList
def KLst (a : Addr) (xs : List V) : Prop := ∃ (o : Obj) (its : Array Value) (n : Nat), K.lookup a = some o ∧ o.cls = .type "list" ∧ o.dict = none ∧ o.data = .seq its n ∧ its.size ≤ sizeLine ∧ Vals xs its.toList
def TupAt (φ : List Addr) (H : Hp) (a : Addr) (xs : List V) : Prop := (H a = some (.tup xs) ∧ a ∉ φ) ∨ KTup K a xs
def RolAt (φ : List Addr) (H : Hp) (a : Addr) (xs : List V) : Prop := ((∃ o, H a = some (.frz o (.lst xs))) ∧ a ∉ φ) ∨ KLst K a xs
mutual
def Rep (φ : List Addr) (H : Hp) : D → V → Prop
  | .non, v => v = .non
  | .bl b, v => v = .bl b
  | .int i, v => v = .int i
  | .str x, v => v = .str x
  | .tup ds, v => ∃ a xs, v = .ref a ∧ TupAt K φ H a xs ∧ Reps φ H ds xs
  | .rol ds, v => ∃ a xs, v = .ref a ∧ RolAt K φ H a xs ∧ Reps φ H ds xs
  | .obj i, v => ∃ a, v = .ref a ∧ φ[i]? = some a
def Reps (φ : List Addr) (H : Hp) : List D → List V → Prop
  | [], vs => vs = []
  | d :: ds, vs => ∃ v r, vs = v :: r ∧ Rep φ H d v ∧ Reps φ H ds r
end
/-- the fields, by name, in order -/
def RepF (φ : List Addr) (H : Hp) : List (Str × D) → List (Str × V) → Prop
  | [], fs => fs = []
  | (f, d) :: r, fs => ∃ v q, fs = (f, v) :: q ∧ Rep K φ H d v ∧ RepF φ H r q
def OkO (cls : Nat → Addr) (φ : List Addr) (H : Hp) (a : Addr) : O → Prop
  | .lst ds => ∃ xs, H a = some (.lst xs) ∧ Reps K φ H ds xs
  | .ins c fs => ∃ dx gs, H a = some (.ins (cls c) dx gs) ∧ RepF K φ H fs gs
structure Ok (cls : Nat → Addr) (φ : List Addr) (H : Hp) (S : Store) : Prop where
  len : φ.length = S.length
  nd : φ.Nodup
  objs : ∀ (i : Nat) (a : Addr) (o : O), φ[i]? = some a → S[i]? = some o → OkO K cls φ H a o
/-- an exception: its class, its dict -/
def XnRep (cls : Nat → Addr) (φ : List Addr) (H : Hp) (x : Xn) (cv : Value) (d : Option Addr) : Prop :=
  cv = .ref (cls x.c) ∧ ((x.fs = [] ∧ d = none) ∨ (x.fs ≠ [] ∧ ∃ dx gs, d = some dx ∧ dx ∉ φ ∧ H dx = some (.xd gs) ∧ RepF K φ H x.fs gs))
/-- later: the store's addresses are longer, what else was tracked stands -/
def Le (φ : List Addr) (H : Hp) (φ' : List Addr) (H' : Hp) : Prop :=
  ∃ ψ, φ' = φ ++ ψ ∧ (∀ a ∈ ψ, H a = none ∧ a ∉ φ) ∧ ∀ b o, H b = some o → b ∉ φ → H' b = some o
end

section
variable {K : PySem.W.Frag} {cls : Nat → Addr} {φ φ1 φ2 : List Addr} {H H1 H2 : Hp}
theorem Le.refl : Le φ H φ H := ⟨[], by simp, by simp, fun b o e _ => e⟩
theorem Le.trans (a : Le φ H φ1 H1) (b : Le φ1 H1 φ2 H2) : Le φ H φ2 H2 := by
  obtain ⟨ψ, rfl, n1, k1⟩ := a
  obtain ⟨χ, rfl, n2, k2⟩ := b
  refine ⟨ψ ++ χ, by simp, fun c hc => ?_, fun c o e nc => ?_⟩
  · rcases List.mem_append.mp hc with hc | hc
    · exact n1 c hc
    · obtain ⟨e, nm⟩ := n2 c hc
      have nφ : c ∉ φ := fun z => nm (List.mem_append_left _ z)
      refine ⟨?_, nφ⟩
      cases q : H c with
      | none => rfl
      | some o =>
        rw [k1 c o q nφ] at e
        cases e
  · refine k2 c o (k1 c o e nc) fun z => ?_
    rcases List.mem_append.mp z with z | z
    · exact nc z
    · rw [(n1 c z).1] at e
      cases e
theorem Le.get (l : Le φ H φ1 H1) {i : Nat} {a : Addr} (h : φ[i]? = some a) : φ1[i]? = some a := by
  obtain ⟨ψ, rfl, _, _⟩ := l
  rw [List.getElem?_append_left (List.getElem?_eq_some_iff.mp h).1]
  exact h
theorem Le.out (l : Le φ H φ1 H1) {b : Addr} {o : HO} (h : H b = some o) (n : b ∉ φ) : H1 b = some o ∧ b ∉ φ1 := by
  obtain ⟨ψ, rfl, n1, k⟩ := l
  refine ⟨k b o h n, fun z => ?_⟩
  rcases List.mem_append.mp z with z | z
  · exact n z
  · rw [(n1 b z).1] at h
    cases h
/-- what never changes where it stands -/
def stillB : HO → Bool
  | .tup _ => true
  | .frz _ _ => true
  | _ => false
/-- what data lean on is kept -/
def Kp (φ : List Addr) (H : Hp) (φ' : List Addr) (H' : Hp) : Prop :=
  (∀ (i : Nat) (a : Addr), φ[i]? = some a → φ'[i]? = some a) ∧ ∀ (a : Addr) (u : HO), stillB u = true → H a = some u → a ∉ φ → H' a = some u ∧ a ∉ φ'
theorem Le.kp (l : Le φ H φ1 H1) : Kp φ H φ1 H1 := ⟨fun _ _ h => l.get h, fun _ _ _ e n => l.out e n⟩
theorem TupAt.kp (l : Kp φ H φ1 H1) {a : Addr} {xs : List V} (h : TupAt K φ H a xs) : TupAt K φ1 H1 a xs := by
  rcases h with ⟨e, n⟩ | h
  · exact .inl (l.2 a _ rfl e n)
  · exact .inr h
theorem RolAt.kp (l : Kp φ H φ1 H1) {a : Addr} {xs : List V} (h : RolAt K φ H a xs) : RolAt K φ1 H1 a xs := by
  rcases h with ⟨⟨o, e⟩, n⟩ | h
  · exact .inl ⟨⟨o, (l.2 a _ rfl e n).1⟩, (l.2 a _ rfl e n).2⟩
  · exact .inr h
theorem TupAt.mono (l : Le φ H φ1 H1) {a : Addr} {xs : List V} (h : TupAt K φ H a xs) : TupAt K φ1 H1 a xs := h.kp l.kp
theorem RolAt.mono (l : Le φ H φ1 H1) {a : Addr} {xs : List V} (h : RolAt K φ H a xs) : RolAt K φ1 H1 a xs := h.kp l.kp
theorem TupAt.sq {a : Addr} {xs : List V} (h : TupAt K φ H a xs) : SqT K H a xs := by
  rcases h with ⟨e, n⟩ | h
  · exact .inl (.inl e)
  · exact .inr h
theorem RolAt.sq {a : Addr} {xs : List V} (h : RolAt K φ H a xs) : SqL K H a xs := by
  rcases h with ⟨⟨o, e⟩, n⟩ | h
  · exact .inl (.inr ⟨o, e⟩)
  · exact .inr h
mutual
theorem Rep.kp (l : Kp φ H φ1 H1) : ∀ (d : D) (v : V), Rep K φ H d v → Rep K φ1 H1 d v
  | .non, _, h => by unfold Rep at h ⊢; exact h
  | .bl _, _, h => by unfold Rep at h ⊢; exact h
  | .int _, _, h => by unfold Rep at h ⊢; exact h
  | .str _, _, h => by unfold Rep at h ⊢; exact h
  | .tup ds, _, h => by
    unfold Rep at h ⊢
    obtain ⟨a, xs, e, t, r⟩ := h
    exact ⟨a, xs, e, t.kp l, Reps.kp l ds xs r⟩
  | .rol ds, _, h => by
    unfold Rep at h ⊢
    obtain ⟨a, xs, e, t, r⟩ := h
    exact ⟨a, xs, e, t.kp l, Reps.kp l ds xs r⟩
  | .obj i, _, h => by
    unfold Rep at h ⊢
    obtain ⟨a, e, t⟩ := h
    exact ⟨a, e, l.1 i a t⟩
theorem Reps.kp (l : Kp φ H φ1 H1) : ∀ (ds : List D) (vs : List V), Reps K φ H ds vs → Reps K φ1 H1 ds vs
  | [], _, h => by unfold Reps at h ⊢; exact h
  | d :: ds, _, h => by
    unfold Reps at h ⊢
    obtain ⟨v, r, e, h1, h2⟩ := h
    exact ⟨v, r, e, Rep.kp l d v h1, Reps.kp l ds r h2⟩
end
theorem RepF.kp (l : Kp φ H φ1 H1) : ∀ {fs : List (Str × D)} {gs : List (Str × V)}, RepF K φ H fs gs → RepF K φ1 H1 fs gs
  | [], _, h => by unfold RepF at h ⊢; exact h
  | (f, d) :: r, _, h => by
    unfold RepF at h ⊢
    obtain ⟨v, q, e, h1, h2⟩ := h
    exact ⟨v, q, e, Rep.kp l d v h1, h2.kp l⟩
theorem Rep.mono (l : Le φ H φ1 H1) (d : D) (v : V) (h : Rep K φ H d v) : Rep K φ1 H1 d v := Rep.kp l.kp d v h
theorem Reps.mono (l : Le φ H φ1 H1) (d : List D) (v : List V) (h : Reps K φ H d v) : Reps K φ1 H1 d v := Reps.kp l.kp d v h
theorem RepF.mono (l : Le φ H φ1 H1) {fs : List (Str × D)} {gs : List (Str × V)} (h : RepF K φ H fs gs) : RepF K φ1 H1 fs gs := h.kp l.kp
theorem kp_adopt {Da : Addr} {u : HO} (h : H Da = some u) (n : stillB u = false) : Kp φ H (φ ++ [Da]) H :=
  ⟨fun i a e => by rw [List.getElem?_append_left (List.getElem?_eq_some_iff.mp e).1]; exact e, fun a w sw e na => ⟨e, fun z => by
    rcases List.mem_append.mp z with z | z
    · exact na z
    · rw [List.mem_singleton.mp z, h] at e
      cases e
      rw [n] at sw
      cases sw⟩⟩
theorem kp_upd {Da : Addr} {u w : HO} (h : H Da = some u) (n : stillB u = false) : Kp φ H φ (upd H Da w) := by
  refine ⟨fun i a e => e, fun a v sv e na => ⟨?_, na⟩⟩
  rw [upd_ne]
  · exact e
  · intro z
    rw [z, h] at e
    cases e
    rw [n] at sv
    cases sv
/-! ### lists of data -/
theorem Reps.length : ∀ {ds : List D} {vs : List V}, Reps K φ H ds vs → vs.length = ds.length
  | [], _, h => by unfold Reps at h; subst h; rfl
  | d :: ds, _, h => by
    unfold Reps at h
    obtain ⟨v, r, rfl, _, h2⟩ := h
    simp [Reps.length h2]
theorem Reps.nil_iff {vs : List V} : Reps K φ H [] vs ↔ vs = [] := by unfold Reps; exact Iff.rfl
theorem Reps.cons {d : D} {ds : List D} {v : V} {vs : List V} (h : Rep K φ H d v) (t : Reps K φ H ds vs) : Reps K φ H (d :: ds) (v :: vs) := by
  unfold Reps; exact ⟨v, vs, rfl, h, t⟩
theorem Reps.nil : Reps K φ H [] [] := by unfold Reps; rfl
theorem Reps.append : ∀ {ds es : List D} {vs ws : List V}, Reps K φ H ds vs → Reps K φ H es ws → Reps K φ H (ds ++ es) (vs ++ ws)
  | [], _, _, _, h, t => by unfold Reps at h; subst h; exact t
  | d :: ds, _, _, _, h, t => by
    unfold Reps at h
    obtain ⟨v, r, rfl, h1, h2⟩ := h
    exact Reps.cons h1 (Reps.append h2 t)
theorem Reps.get : ∀ {ds : List D} {vs : List V} {i : Nat} {d : D}, Reps K φ H ds vs → ds[i]? = some d → ∃ v, vs[i]? = some v ∧ Rep K φ H d v
  | [], _, _, _, h, e => by simp at e
  | d :: ds, _, 0, _, h, e => by
    unfold Reps at h
    obtain ⟨v, r, rfl, h1, h2⟩ := h
    simp at e; subst e
    exact ⟨v, rfl, h1⟩
  | d :: ds, _, i + 1, _, h, e => by
    unfold Reps at h
    obtain ⟨v, r, rfl, h1, h2⟩ := h
    exact Reps.get (i := i) h2 (by simpa using e)
theorem Reps.getV : ∀ {ds : List D} {vs : List V} {i : Nat} {v : V}, Reps K φ H ds vs → vs[i]? = some v → ∃ d, ds[i]? = some d ∧ Rep K φ H d v
  | [], _, _, _, h, e => by unfold Reps at h; subst h; simp at e
  | d :: ds, _, 0, _, h, e => by
    unfold Reps at h
    obtain ⟨v, r, rfl, h1, h2⟩ := h
    simp at e; subst e
    exact ⟨d, rfl, h1⟩
  | d :: ds, _, i + 1, _, h, e => by
    unfold Reps at h
    obtain ⟨v, r, rfl, h1, h2⟩ := h
    exact Reps.getV (i := i) h2 (by simpa using e)
theorem Reps.drop : ∀ {ds : List D} {vs : List V} (n : Nat), Reps K φ H ds vs → Reps K φ H (ds.drop n) (vs.drop n)
  | _, _, 0, h => h
  | [], _, n + 1, h => by unfold Reps at h; subst h; simp [Reps.nil]
  | d :: ds, _, n + 1, h => by
    unfold Reps at h
    obtain ⟨v, r, rfl, h1, h2⟩ := h
    exact Reps.drop n h2
theorem Reps.take : ∀ {ds : List D} {vs : List V} (n : Nat), Reps K φ H ds vs → Reps K φ H (ds.take n) (vs.take n)
  | _, _, 0, h => by simp [Reps.nil]
  | [], _, n + 1, h => by unfold Reps at h; subst h; simp [Reps.nil]
  | d :: ds, _, n + 1, h => by
    unfold Reps at h
    obtain ⟨v, r, rfl, h1, h2⟩ := h
    exact Reps.cons h1 (Reps.take n h2)
theorem Reps.set : ∀ {ds : List D} {vs : List V} (i : Nat) {d : D} {v : V}, Reps K φ H ds vs → Rep K φ H d v → Reps K φ H (ds.set i d) (vs.set i v)
  | [], _, i, _, _, h, _ => by unfold Reps at h; subst h; simp [Reps.nil]
  | e :: ds, _, 0, _, _, h, t => by
    unfold Reps at h
    obtain ⟨v, r, rfl, h1, h2⟩ := h
    exact Reps.cons t h2
  | e :: ds, _, i + 1, _, _, h, t => by
    unfold Reps at h
    obtain ⟨v, r, rfl, h1, h2⟩ := h
    exact Reps.cons h1 (Reps.set i h2 t)
theorem Reps.eraseIdx : ∀ {ds : List D} {vs : List V} (i : Nat), Reps K φ H ds vs → Reps K φ H (ds.eraseIdx i) (vs.eraseIdx i)
  | [], _, i, h => by unfold Reps at h; subst h; simp [Reps.nil]
  | e :: ds, _, 0, h => by
    unfold Reps at h
    obtain ⟨v, r, rfl, h1, h2⟩ := h
    exact h2
  | e :: ds, _, i + 1, h => by
    unfold Reps at h
    obtain ⟨v, r, rfl, h1, h2⟩ := h
    exact Reps.cons h1 (Reps.eraseIdx i h2)
theorem Reps.one {d : D} {v : V} (h : Rep K φ H d v) : Reps K φ H [d] [v] := .cons h .nil
theorem Reps.dropLast {ds : List D} {vs : List V} (h : Reps K φ H ds vs) : Reps K φ H ds.dropLast vs.dropLast := by
  rw [List.dropLast_eq_take, List.dropLast_eq_take, h.length]
  exact h.take _
theorem Reps.reverse : ∀ {ds : List D} {vs : List V}, Reps K φ H ds vs → Reps K φ H ds.reverse vs.reverse
  | [], _, h => by unfold Reps at h; subst h; exact .nil
  | d :: ds, _, h => by
    unfold Reps at h
    obtain ⟨v, r, rfl, h1, h2⟩ := h
    simp only [List.reverse_cons]
    exact (Reps.reverse h2).append (.one h1)
/-! ### the state: new objects, writes -/
theorem OkO.tracked {a : Addr} {o : O} (h : OkO K cls φ H a o) : ∃ u, H a = some u := by
  cases o with
  | lst ds => obtain ⟨xs, e, _⟩ := h; exact ⟨_, e⟩
  | ins c fs => obtain ⟨dx, gs, e, _⟩ := h; exact ⟨_, e⟩
theorem Ok.tracked {S : Store} (k : Ok K cls φ H S) {a : Addr} (h : a ∈ φ) : ∃ u, H a = some u := by
  obtain ⟨i, hi, e⟩ := List.getElem_of_mem h
  have h1 : φ[i]? = some a := by rw [List.getElem?_eq_getElem hi, e]
  have h2 : i < S.length := by rw [← k.len]; exact hi
  exact (k.objs i a _ h1 (List.getElem?_eq_getElem h2)).tracked
theorem Ok.fresh {S : Store} (k : Ok K cls φ H S) {p : Addr} (h : H p = none) : p ∉ φ := fun z => by
  obtain ⟨u, e⟩ := k.tracked z
  rw [h] at e; cases e
theorem OkO.mono {a : Addr} {o : O} (l : Le φ H φ1 H1) (e : H1 a = H a) (h : OkO K cls φ H a o) : OkO K cls φ1 H1 a o := by
  cases o with
  | lst ds => obtain ⟨xs, q, r⟩ := h; exact ⟨xs, e.trans q, r.mono l⟩
  | ins c fs => obtain ⟨dx, gs, q, r⟩ := h; exact ⟨dx, gs, e.trans q, r.mono l⟩
theorem OkO.kp {a : Addr} {o : O} (l : Kp φ H φ1 H1) (e : H1 a = H a) (h : OkO K cls φ H a o) : OkO K cls φ1 H1 a o := by
  cases o with
  | lst ds => obtain ⟨xs, q, r⟩ := h; exact ⟨xs, e.trans q, Reps.kp l _ _ r⟩
  | ins c fs => obtain ⟨dx, gs, q, r⟩ := h; exact ⟨dx, gs, e.trans q, r.kp l⟩
theorem OkO.notStill {a : Addr} {o : O} (h : OkO K cls φ H a o) : ∃ u, H a = some u ∧ stillB u = false := by
  cases o with
  | lst ds => obtain ⟨xs, e, _⟩ := h; exact ⟨_, e, rfl⟩
  | ins c fs => obtain ⟨dx, gs, e, _⟩ := h; exact ⟨_, e, rfl⟩
theorem le_new {p : Addr} {o : HO} (h : H p = none) : Le φ H φ (upd H p o) :=
  ⟨[], by simp, by simp, fun b u e _ => by rw [upd_ne (ne_of_none e h)]; exact e⟩
theorem le_alloc {p : Addr} {o : HO} (h : H p = none) (n : p ∉ φ) : Le φ H (φ ++ [p]) (upd H p o) :=
  ⟨[p], rfl, fun a ha => by rw [List.mem_singleton.mp ha]; exact ⟨h, n⟩, fun b u e _ => by rw [upd_ne (ne_of_none e h)]; exact e⟩
/-- a tracked thing that the store does not know is laid -/
theorem Ok.new {S : Store} (k : Ok K cls φ H S) {p : Addr} {o : HO} (h : H p = none) : Ok K cls φ (upd H p o) S :=
  ⟨k.len, k.nd, fun i a u e1 e2 => by
    have t := k.objs i a u e1 e2
    obtain ⟨x, q⟩ := t.tracked
    exact t.mono (le_new h) (upd_ne (ne_of_none q h))⟩
/-- a new object of the store -/
theorem Ok.alloc {S : Store} (k : Ok K cls φ H S) {p : Addr} {u : HO} {o : O} (h : H p = none) (new : OkO K cls (φ ++ [p]) (upd H p u) p o) : Ok K cls (φ ++ [p]) (upd H p u) (S ++ [o]) := by
  have n := k.fresh h
  refine ⟨by simp [k.len], List.nodup_append.mpr ⟨k.nd, by simp, fun a ha b hb => by rw [List.mem_singleton.mp hb]; exact fun z => n (z ▸ ha)⟩, fun i a w e1 e2 => ?_⟩
  by_cases hi : i < φ.length
  · rw [List.getElem?_append_left hi] at e1
    rw [List.getElem?_append_left (by rw [← k.len]; exact hi)] at e2
    have t := k.objs i a w e1 e2
    obtain ⟨x, q⟩ := t.tracked
    exact t.mono (le_alloc h n) (upd_ne (ne_of_none q h))
  · have hi2 : i = φ.length := by
      have := (List.getElem?_eq_some_iff.mp e1).1
      simp at this
      omega
    subst hi2
    rw [List.getElem?_append_right (Nat.le_refl _)] at e1
    rw [List.getElem?_append_right (by rw [k.len]; exact Nat.le_refl _)] at e2
    simp [k.len] at e1 e2
    subst e1; subst e2
    exact new
theorem Ok.lst {S : Store} (k : Ok K cls φ H S) {i : Nat} {a : Addr} {ds : List D} (h : φ[i]? = some a) (e : S[i]? = some (.lst ds)) : ∃ xs, H a = some (.lst xs) ∧ Reps K φ H ds xs := k.objs i a _ h e
theorem Ok.addr {S : Store} (k : Ok K cls φ H S) {i : Nat} {o : O} (e : S[i]? = some o) : ∃ a, φ[i]? = some a := by
  have h := (List.getElem?_eq_some_iff.mp e).1
  rw [← k.len] at h
  exact ⟨_, List.getElem?_eq_getElem h⟩
theorem le_write {a : Addr} {u : HO} (h : a ∈ φ) : Le φ H φ (upd H a u) :=
  ⟨[], by simp, by simp, fun b o e n => by rw [upd_ne (fun z : b = a => n (by rw [z]; exact h))]; exact e⟩
/-- an object of the store is written -/
theorem Ok.write {S : Store} (k : Ok K cls φ H S) {i : Nat} {a : Addr} {u : HO} {o : O} (h : φ[i]? = some a) (new : OkO K cls φ (upd H a u) a o) : Ok K cls φ (upd H a u) (S.set i o) := by
  have hm : a ∈ φ := List.mem_of_getElem? h
  refine ⟨by simp [k.len], k.nd, fun j b w e1 e2 => ?_⟩
  by_cases hj : j = i
  · subst hj
    rw [h] at e1; cases e1
    have hl : j < S.length := by rw [← k.len]; exact (List.getElem?_eq_some_iff.mp h).1
    rw [List.getElem?_set_self hl] at e2
    cases e2
    exact new
  · rw [List.getElem?_set_ne (Ne.symm hj)] at e2
    have ne : b ≠ a := fun z => by
      subst z
      obtain ⟨h1, q1⟩ := List.getElem?_eq_some_iff.mp e1
      obtain ⟨h2, q2⟩ := List.getElem?_eq_some_iff.mp h
      exact hj ((List.getElem_inj k.nd).mp (q1.trans q2.symm))
    exact (k.objs j b w e1 e2).mono (le_write hm) (upd_ne ne)
/-- a list beside the store is written -/
theorem Ok.over {S : Store} (k : Ok K cls φ H S) {Da : Addr} {u w : HO} (h : H Da = some u) (n : stillB u = false) (nm : Da ∉ φ) : Ok K cls φ (upd H Da w) S :=
  ⟨k.len, k.nd, fun i a o e1 e2 => (k.objs i a o e1 e2).kp (kp_upd h n) (upd_ne fun z => nm (by rw [← z]; exact List.mem_of_getElem? e1))⟩
/-- a list beside the store becomes one of its objects -/
theorem Ok.adopt {S : Store} (k : Ok K cls φ H S) {Da : Addr} {u : HO} {o : O} (h : H Da = some u) (n : stillB u = false) (nm : Da ∉ φ) (new : OkO K cls (φ ++ [Da]) H Da o) : Ok K cls (φ ++ [Da]) H (S ++ [o]) := by
  refine ⟨by simp [k.len], List.nodup_append.mpr ⟨k.nd, by simp, fun a ha b hb => by rw [List.mem_singleton.mp hb]; exact fun z => nm (z ▸ ha)⟩, fun i a w e1 e2 => ?_⟩
  by_cases hi : i < φ.length
  · rw [List.getElem?_append_left hi] at e1
    rw [List.getElem?_append_left (by rw [← k.len]; exact hi)] at e2
    exact (k.objs i a w e1 e2).kp (kp_adopt h n) rfl
  · have hi2 : i = φ.length := by
      have := (List.getElem?_eq_some_iff.mp e1).1
      simp at this
      omega
    subst hi2
    rw [List.getElem?_append_right (Nat.le_refl _)] at e1
    rw [List.getElem?_append_right (by rw [k.len]; exact Nat.le_refl _)] at e2
    simp [k.len] at e1 e2
    subst e1; subst e2
    exact new
theorem le_over {Da : Addr} {w : HO} (l : Le φ H φ1 H1) (h : H Da = none) : Le φ H φ1 (upd H1 Da w) := by
  obtain ⟨ψ, rfl, n, k⟩ := l
  exact ⟨ψ, rfl, n, fun b o e nb => by rw [upd_ne (ne_of_none e h)]; exact k b o e nb⟩
theorem le_adopt {Da : Addr} (l : Le φ H φ1 H1) (h : H Da = none) (n : Da ∉ φ) : Le φ H (φ1 ++ [Da]) H1 := by
  obtain ⟨ψ, rfl, nn, k⟩ := l
  refine ⟨ψ ++ [Da], by simp, fun a ha => ?_, k⟩
  rcases List.mem_append.mp ha with ha | ha
  · exact nn a ha
  · rw [List.mem_singleton.mp ha]; exact ⟨h, n⟩
end

/-! ### what is wanted of an answer -/
section
variable {K : PySem.W.Frag} {cls : Nat → Addr}
def Post (K : PySem.W.Frag) (cls : Nat → Addr) (W : WX) (σ : St) {α : Type} (φ : List Addr) (H : Hp) (r : R α) (P : α → Store → List Addr → Hp → Prop) : Prop :=
  match r with
  | .ok a S' => ∀ φ' H', Le φ H φ' H' → Ok K cls φ' H' S' → P a S' φ' H'
  | .exc x S' => ∀ cv dx φ' H', Le φ H φ' H' → Ok K cls φ' H' S' → XnRep K cls φ' H' x cv dx → W cv dx σ H'
  | .bad => False
variable {W : WX} {σ : St} {α β : Type} {φ : List Addr} {H : Hp} {r : R α} {P P' : α → Store → List Addr → Hp → Prop}
theorem Post.imp (h : Post K cls W σ φ H r P) (f : ∀ a S' φ' H', Le φ H φ' H' → Ok K cls φ' H' S' → P a S' φ' H' → P' a S' φ' H') : Post K cls W σ φ H r P' := by
  cases r with
  | ok a S' => exact fun φ' H' l k => f a S' φ' H' l k (h φ' H' l k)
  | exc x S' => exact h
  | bad => exact h
theorem Post.later {φ1 : List Addr} {H1 : Hp} (l : Le φ H φ1 H1) (h : Post K cls W σ φ H r P) : Post K cls W σ φ1 H1 r P := by
  cases r with
  | ok a S' => exact fun φ' H' l' k => h φ' H' (l.trans l') k
  | exc x S' => exact fun cv dx φ' H' l' k => h cv dx φ' H' (l.trans l') k
  | bad => exact h
theorem Post.bind {f : α → Store → R β} {Q : β → Store → List Addr → Hp → Prop} (h : Post K cls W σ φ H (r.bind f) Q) : Post K cls W σ φ H r (fun a S1 φ1 H1 => Post K cls W σ φ1 H1 (f a S1) Q) := by
  cases r with
  | ok a S' => exact fun φ' H' l k => h.later l
  | exc x S' => exact h
  | bad => exact h
theorem Post.ok {a : α} {S' : Store} (h : Post K cls W σ φ H (.ok a S') P) (k : Ok K cls φ H S') : P a S' φ H := h φ H .refl k
end
theorem Post.bindB {K : PySem.W.Frag} {cls : Nat → Addr} {W : WX} {σ : St} {α β : Type} {φ φ1 : List Addr} {H H1 : Hp} {r : R α} {f : α → Store → R β} {Q : β → Store → List Addr → Hp → Prop} (l : Le φ1 H1 φ H)
    (h : Post K cls W σ φ1 H1 (r.bind f) Q) : Post K cls W σ φ H r (fun a S1 _ _ => Post K cls W σ φ1 H1 (f a S1) Q) := by
  cases r with
  | ok a S' => exact fun φ' H' _ _ => h
  | exc x S' => exact fun cv dx φ' H' l' k => h cv dx φ' H' (l.trans l') k
  | bad => exact h
theorem R.bind_assoc {α β γ : Type} (r : R α) (f : α → Store → R β) (g : β → Store → R γ) : (r.bind f).bind g = r.bind fun a S => (f a S).bind g := by cases r <;> rfl
/-- slots -/
def EnvRep (K : PySem.W.Frag) (φ : List Addr) (H : Hp) (env : List (Option D)) (σ : St) : Prop :=
  env.length = σ.length ∧ ∀ (i : Nat) (d : D), env[i]? = some (some d) → ∃ v, σ[i]? = some (some v) ∧ Rep K φ H d v
theorem EnvRep.mono {K : PySem.W.Frag} {φ φ1 : List Addr} {H H1 : Hp} {env : List (Option D)} {σ : St} (l : Le φ H φ1 H1) (h : EnvRep K φ H env σ) : EnvRep K φ1 H1 env σ :=
  ⟨h.1, fun i d e => let ⟨v, e1, r⟩ := h.2 i d e; ⟨v, e1, r.mono l⟩⟩
theorem EnvRep.kp {K : PySem.W.Frag} {φ φ1 : List Addr} {H H1 : Hp} {env : List (Option D)} {σ : St} (l : Kp φ H φ1 H1) (h : EnvRep K φ H env σ) : EnvRep K φ1 H1 env σ :=
  ⟨h.1, fun i d e => let ⟨v, e1, r⟩ := h.2 i d e; ⟨v, e1, Rep.kp l d v r⟩⟩
theorem EnvRep.set {K : PySem.W.Frag} {φ : List Addr} {H : Hp} {env : List (Option D)} {σ : St} (h : EnvRep K φ H env σ) (i : Nat) {d : D} {v : V} (r : Rep K φ H d v) : EnvRep K φ H (env.set i (some d)) (σ.set i (some v)) := by
  refine ⟨by simp [h.1], fun j e q => ?_⟩
  by_cases hj : j = i
  · subst hj
    by_cases hl : j < env.length
    · rw [List.getElem?_set_self hl] at q
      cases q
      exact ⟨v, by rw [List.getElem?_set_self (by rw [← h.1]; exact hl)], r⟩
    · rw [List.getElem?_eq_none (by simpa using hl)] at q
      cases q
  · rw [List.getElem?_set_ne (Ne.symm hj)] at q
    obtain ⟨w, e1, r1⟩ := h.2 j e q
    exact ⟨w, by rw [List.getElem?_set_ne (Ne.symm hj)]; exact e1, r1⟩
theorem EnvRep.unset {K : PySem.W.Frag} {φ : List Addr} {H : Hp} {env : List (Option D)} {σ : St} (h : EnvRep K φ H env σ) (i : Nat) : EnvRep K φ H (env.set i none) (σ.set i none) := by
  refine ⟨by simp [h.1], fun j e q => ?_⟩
  by_cases hj : j = i
  · subst hj
    by_cases hl : j < env.length
    · rw [List.getElem?_set_self hl] at q
      cases q
    · rw [List.getElem?_eq_none (by simpa using hl)] at q
      cases q
  · rw [List.getElem?_set_ne (Ne.symm hj)] at q
    obtain ⟨w, e1, r1⟩ := h.2 j e q
    exact ⟨w, by rw [List.getElem?_set_ne (Ne.symm hj)]; exact e1, r1⟩
abbrev Env' := List (Option D)
def wipeE (env : Env') : List Nat → Env'
  | [] => env
  | v :: vs => (wipeE env vs).set v none
theorem EnvRep.wipe {K : PySem.W.Frag} {φ : List Addr} {H : Hp} {env : Env'} {σ : St} (h : EnvRep K φ H env σ) : ∀ vs : List Nat, EnvRep K φ H (wipeE env vs) (L2.wipe σ vs)
  | [] => h
  | v :: vs => by
    unfold wipeE L2.wipe
    exact (EnvRep.wipe h vs).unset v
/-! ### readings by programs -/
section
variable (K : PySem.W.Frag) (cls : Nat → Addr) (W : WX)
def tE (m : Env' → M D) : TE := fun σ H Q => ∃ φ S env, EnvRep K φ H env σ ∧ Ok K cls φ H S ∧ Post K cls W σ φ H (m env S) (fun d _ φ' H' => ∀ v, Rep K φ' H' d v → Q v H')
def tT (m : Env' → M Bool) : TT := fun σ H Q => ∃ φ S env, EnvRep K φ H env σ ∧ Ok K cls φ H S ∧ Post K cls W σ φ H (m env S) (fun b _ _ H' => Q b H')
def tA (m : Env' → M (List D)) : TA := fun σ H Q => ∃ φ S env, EnvRep K φ H env σ ∧ Ok K cls φ H S ∧ Post K cls W σ φ H (m env S) (fun ds _ φ' H' => ∀ vs, Reps K φ' H' ds vs → Q vs H')
def tO (m : Env' → M (Option Int)) : TO := fun σ H Q => ∃ φ S env, EnvRep K φ H env σ ∧ Ok K cls φ H S ∧ Post K cls W σ φ H (m env S) (fun o _ _ H' => Q o H')
end
end PyI
/-! PyiB: the small language and its interpreter. -/
namespace PyI
open PySem L2

/-! ### the language -/
inductive Tg where
  | nm (i : Nat)
  | tp (is : List Nat)
  deriving DecidableEq
inductive Bn where
  | len | abs | int | list | tuple | gcd | lcm
  deriving DecidableEq
inductive Mn where
  | append
  deriving DecidableEq
/-- the built-in classes that isinstance is asked about -/
inductive Ty where
  | int | bool | str | tuple | list
  deriving DecidableEq
mutual
inductive Ex where
  | var (i : Nat) | int (i : Int) | bl (b : Bool) | non | str (x : Str)
  | glob (x : Str) (d : D)
  | bin (op : Operator) (a b : Ex) | neg (a : Ex)
  | cmp (op : CmpOp) (a b : Ex)
  | chain (op op' : CmpOp) (a b c : Ex)
  | and (a b : Ex) | or (a b : Ex) | one (a : Ex)
  | not (a : Ex) | ite (t a b : Ex)
  | tup (es : Exs) | lst (es : Exs)
  | ix (a b : Ex) | sl (a : Ex) (lo hi : OEx)
  | call (f : Nat) (es : Exs)
  | blt (b : Bn) (es : Exs)
  | isi (a : Ex) (t : Ty)
  | lc (own : List (Str × Nat)) (tg : Tg) (it : Iu) (cond : OEx) (e : Ex)
  | mth (m : Mn) (o : Ex) (es : Exs)
inductive Exs where
  | nil
  | cons (e : Ex) (r : Exs)
inductive OEx where
  | no
  | yes (e : Ex)
inductive Iu where
  | seq (e : Ex)
  | rng1 (a : Ex)
  | rng2 (a b : Ex)
  | zip (a b : Ex)
  | enum (a : Ex)
end
mutual
inductive Sm where
  | skip
  | expr (e : Ex)
  | set (i : Nat) (e : Ex)
  | unp (tg : Tg) (e : Ex)
  | setIx (o i e : Ex)
  | ret (e : Ex)
  | retN
  | ite (t : Ex) (a b : Sms)
  | for_ (tg : Tg) (it : Iu) (body : Sms)
  | while_ (t : Ex) (body : Sms)
  | brk | cont
inductive Sms where
  | nil
  | cons (s : Sm) (r : Sms)
end
/-- a def: its parameters, its names by slot, its body -/
structure Fd where
  np : Nat
  n : Nat
  body : Sms

/-! ### the same data -/
mutual
def beqD : D → D → Bool
  | .non, .non => true
  | .bl a, .bl b => a == b
  | .int a, .int b => decide (a = b)
  | .str a, .str b => decide (a = b)
  | .tup a, .tup b => beqDs a b
  | .rol a, .rol b => beqDs a b
  | .obj a, .obj b => a == b
  | _, _ => false
def beqDs : List D → List D → Bool
  | [], [] => true
  | a :: as, b :: bs => beqD a b && beqDs as bs
  | _, _ => false
end
mutual
theorem beqD_eq : ∀ a b : D, beqD a b = true → a = b
  | .non, b, h => by cases b <;> simp [beqD] at h; rfl
  | .bl a, b, h => by cases b <;> simp [beqD] at h; rw [h]
  | .int a, b, h => by cases b <;> simp [beqD] at h; rw [h]
  | .str a, b, h => by cases b <;> simp [beqD] at h; rw [h]
  | .obj a, b, h => by cases b <;> simp [beqD] at h; rw [h]
  | .tup a, b, h => by cases b <;> simp [beqD] at h; rw [beqDs_eq a _ h]
  | .rol a, b, h => by cases b <;> simp [beqD] at h; rw [beqDs_eq a _ h]
theorem beqDs_eq : ∀ a b : List D, beqDs a b = true → a = b
  | [], b, h => by cases b <;> simp [beqDs] at h; rfl
  | a :: as, b, h => by
    cases b with
    | nil => simp [beqDs] at h
    | cons b bs =>
      simp [beqDs] at h
      rw [beqD_eq a b h.1, beqDs_eq as bs h.2]
end
mutual
theorem beqD_refl : ∀ a : D, beqD a a = true
  | .non => rfl
  | .bl a => by simp [beqD]
  | .int a => by simp [beqD]
  | .str a => by simp [beqD]
  | .obj a => by simp [beqD]
  | .tup a => by unfold beqD; exact beqDs_refl a
  | .rol a => by unfold beqD; exact beqDs_refl a
theorem beqDs_refl : ∀ a : List D, beqDs a a = true
  | [] => rfl
  | a :: as => by simp [beqDs, beqD_refl a, beqDs_refl as]
end
/-- data as the model's own data, for == -/
def toPy (S : Store) : Nat → D → Option PyData
  | 0, _ => none
  | _ + 1, .non => some .none
  | _ + 1, .bl b => some (.bool b)
  | _ + 1, .int i => some (.int i)
  | _ + 1, .str x => some (.str x)
  | n + 1, .tup ds => (ds.mapM (toPy S n)).map .tuple
  | n + 1, .rol ds => (ds.mapM (toPy S n)).map .list
  | n + 1, .obj i => match S[i]? with
    | some (.lst ds) => (ds.mapM (toPy S n)).map .list
    | _ => none
abbrev deepest : Nat := 66
def eqD (a b : D) : M Bool := fun S => match toPy S deepest a, toPy S deepest b with
  | some p, some q => if (SeqAt.shaped p && SeqAt.shaped q) = true then .ok (PyData.eqv p q) S else .bad
  | _, _ => .bad
/-- the items of a list or a tuple -/
def seqOf (S : Store) : D → Option (List D)
  | .tup ds => some ds
  | .rol ds => some ds
  | .obj i => match S[i]? with
    | some (.lst ds) => some ds
    | _ => none
  | _ => none
/-! ### operators -/
def mulOk (i j : Int) : Bool := decide (i.natAbs < 2 ^ 64) || decide (j.natAbs < 2 ^ 64) || decide (i.natAbs.log2 + j.natAbs.log2 < 1000000)
def addD : D → D → M D
  | .int i, .int j => fun S => .ok (.int (i + j)) S
  | .str x, .str y => fun S => if x.length + y.length ≤ sizeLine then .ok (.str (x ++ y)) S else .bad
  | .tup xs, .tup ys => fun S => if xs.isEmpty = false ∧ xs.length + ys.length ≤ sizeLine then .ok (.tup (xs ++ ys)) S else .bad
  | .obj i, .obj j => fun S => match S[i]?, S[j]? with
    | some (.lst xs), some (.lst ys) => if xs.length + ys.length ≤ sizeLine then alloc (.lst (xs ++ ys)) S else .bad
    | _, _ => .bad
  | _, _ => M.bad
def subD : D → D → M D
  | .int i, .int j => fun S => .ok (.int (i - j)) S
  | _, _ => M.bad
def mulD : D → D → M D
  | .int i, .int j => fun S => if mulOk i j = true then .ok (.int (i * j)) S else .bad
  | .obj i, .int k => fun S => match S[i]? with
    | some (.lst xs) => if -(2 ^ 63) ≤ k ∧ k < 2 ^ 63 ∧ xs.length * k.toNat ≤ sizeLine then alloc (.lst (List.replicate k.toNat xs).flatten) S else .bad
    | _ => .bad
  | _, _ => M.bad
def fdivD : D → D → M D
  | .int i, .int j => fun S => if 0 < j ∧ j.natAbs.log2 < 9000 then .ok (.int (i / j)) S else .bad
  | _, _ => M.bad
def modD : D → D → M D
  | .int i, .int j => fun S => if 0 < j then .ok (.int (i % j)) S else .bad
  | _, _ => M.bad
def powD : D → D → M D
  | .int i, .int j => fun S => if 0 ≤ j ∧ j ≤ 1000000 ∧ i.natAbs < 2 ^ 64 then .ok (.int (i ^ j.toNat)) S else .bad
  | _, _ => M.bad
def binD : Operator → D → D → M D
  | .Add => addD
  | .Sub => subD
  | .Mult => mulD
  | .FloorDiv => fdivD
  | .Mod => modD
  | .Pow => powD
  | _ => fun _ _ => M.bad
def negD : D → M D
  | .int i => fun S => .ok (.int (-i)) S
  | _ => M.bad
/-! ### comparisons -/
def ltD : D → D → M Bool
  | .int i, .int j => fun S => .ok (decide (i < j)) S
  | _, _ => M.bad
def leD : D → D → M Bool
  | .int i, .int j => fun S => .ok (decide (i ≤ j)) S
  | _, _ => M.bad
def isNonD : D → Bool
  | .non => true
  | _ => false
/-- x in y -/
def inD (x y : D) : M Bool := fun S => match y with
  | .str z => match x with
    | .str u => .ok (!(Builtin.Str.occurrences z u 0 z.length 1).isEmpty) S
    | _ => .bad
  | .tup _ => .bad
  | y => match toPy S deepest x, toPy S deepest y with
    | some p, some (.list qs) => if (SeqAt.shaped p && SeqAt.shaped (.list qs)) = true then .ok (qs.any fun z => PyData.eqv z p) S else .bad
    | _, _ => .bad
def cmpD : CmpOp → D → D → M Bool
  | .Eq, a, b => eqD a b
  | .NotEq, a, b => fun S => (eqD a b S).bind fun k S => .ok (!k) S
  | .Lt, a, b => ltD a b
  | .LtE, a, b => leD a b
  | .Gt, a, b => ltD b a
  | .GtE, a, b => leD b a
  | .Is, a, .non => fun S => .ok (isNonD a) S
  | .IsNot, a, .non => fun S => .ok (!isNonD a) S
  | .In, a, b => inD a b
  | .NotIn, a, b => fun S => (inD a b S).bind fun k S => .ok (!k) S
  | _, _, _ => M.bad
/-! ### truth -/
def truD : D → M Bool
  | .non => fun S => .ok false S
  | .bl b => fun S => .ok b S
  | .int i => fun S => .ok (i != 0) S
  | .str x => fun S => if x.length ≤ sizeLine then .ok ((x.length : Int) != 0) S else .bad
  | .tup ds => fun S => .ok (!ds.isEmpty) S
  | .rol ds => fun S => .ok (!ds.isEmpty) S
  | .obj i => fun S => match S[i]? with
    | some (.lst ds) => .ok (!ds.isEmpty) S
    | _ => .bad
/-! ### subscripts -/
def cutD {α : Type} (xs : List α) (lo hi : Option Int) : List α := (xs.drop (HT.sIx xs.length 0 lo)).take (HT.sIx xs.length xs.length hi - HT.sIx xs.length 0 lo)
def ixD : D → D → M D
  | .str z, .int i => fun S => if z.length ≤ sizeLine then (match atI z.cps.toList i with
    | some c => .ok (.str ⟨#[c]⟩) S
    | none => .bad) else .bad
  | a, .int i => fun S => match seqOf S a with
    | some ds => (match atI ds i with
      | some d => .ok d S
      | none => .bad)
    | none => .bad
  | _, _ => M.bad
def slD : D → Option Int → Option Int → M D
  | .tup ds, lo, hi => fun S => if HT.sIx ds.length 0 lo = 0 ∧ HT.sIx ds.length ds.length hi = ds.length then .bad else .ok (.tup (cutD ds lo hi)) S
  | .str _, _, _ => M.bad
  | a, lo, hi => fun S => match seqOf S a with
    | some ds => alloc (.lst (cutD ds lo hi)) S
    | none => .bad
/-- o[i] = d -/
def putIx : D → D → D → M Unit
  | .obj o, .int i, d => fun S => match S[o]? with
    | some (.lst ds) => (match ixN ds.length i with
      | some j => .ok () (S.set o (.lst (ds.set j d)))
      | none => .bad)
    | _ => .bad
  | _, _, _ => M.bad
/-! ### built-in functions -/
def intV : D → M D
  | .int i => fun S => .ok (.int i) S
  | .bl b => fun S => .ok (.int (if b then 1 else 0)) S
  | _ => M.bad
def lenD : D → M D
  | .str x => fun S => if x.length ≤ sizeLine then .ok (.int x.length) S else .bad
  | a => fun S => match seqOf S a with
    | some ds => .ok (.int ds.length) S
    | none => .bad
def one1 (f : D → M D) : List D → M D
  | [a] => f a
  | _ => M.bad
def two2 (f : D → D → M D) : List D → M D
  | [a, b] => f a b
  | _ => M.bad
def absD : D → M D
  | .int i => fun S => .ok (.int (if i < 0 then -i else i)) S
  | _ => M.bad
def listD (a : D) : M D := fun S => match seqOf S a with
  | some ds => alloc (.lst ds) S
  | none => .bad
def tupleD (a : D) : M D := fun S => match seqOf S a with
  | some ds => .ok (.tup ds) S
  | none => .bad
def gcdD : D → D → M D
  | .int i, .int j => fun S => .ok (.int (Nat.gcd i.natAbs j.natAbs : Nat)) S
  | _, _ => M.bad
def lcmD : D → D → M D
  | .int i, .int j => fun S => if i.natAbs.log2 ≤ 13000 ∧ j.natAbs.log2 ≤ 13000 then .ok (.int (Nat.lcm i.natAbs j.natAbs : Nat)) S else .bad
  | _, _ => M.bad
def bltD : Bn → List D → M D
  | .len => one1 lenD
  | .abs => one1 absD
  | .int => one1 intV
  | .list => one1 listD
  | .tuple => one1 tupleD
  | .gcd => two2 gcdD
  | .lcm => two2 lcmD
def isiD (S : Store) : D → Ty → Option Bool
  | .non, _ => some false
  | .int _, t => some (decide (t = .int))
  | .bl _, t => some (decide (t = .int) || decide (t = .bool))
  | .str _, t => some (decide (t = .str))
  | .tup _, t => some (decide (t = .tuple))
  | .rol _, t => some (decide (t = .list))
  | .obj i, t => match S[i]? with
    | some (.lst _) => some (decide (t = .list))
    | _ => none
def mthD : Mn → D → List D → M D
  | .append, .obj o, [d] => fun S => match S[o]? with
    | some (.lst ds) => if ds.length < sizeLine then .ok .non (S.set o (.lst (ds ++ [d]))) else .bad
    | _ => .bad
  | _, _, _ => M.bad
/-- the built-in type whose method it is -/
def Mn.isTy (S : Store) : Mn → D → Bool
  | .append, .obj o => (match S[o]? with
    | some (.lst _) => true
    | _ => false)
  | _, _ => false
/-! ### targets -/
def sets (env : Env') : List Nat → List D → Env'
  | i :: is, d :: ds => sets (env.set i (some d)) is ds
  | _, _ => env
def assign (tg : Tg) (d : D) (env : Env') : M Env' := match tg with
  | .nm i => fun S => .ok (env.set i (some d)) S
  | .tp is => match d with
    | .tup ds => fun S => if ds.length = is.length then .ok (sets env is ds) S else .bad
    | _ => M.bad
/-! ### what is walked -/
structure Src where
  deps : List (Nat × List D)
  items : List D
def depsOk (S : Store) (deps : List (Nat × List D)) : Bool := deps.all fun p => match S[p.1]? with
  | some (.lst ds) => beqDs ds p.2
  | _ => false
def srcOf (S : Store) : D → Option Src
  | .tup ds => some ⟨[], ds⟩
  | .rol ds => some ⟨[], ds⟩
  | .obj i => match S[i]? with
    | some (.lst ds) => some ⟨[(i, ds)], ds⟩
    | _ => none
  | .str z => some ⟨[], z.cps.toList.map fun c => .str ⟨#[c]⟩⟩
  | _ => none
/-- lists alone -/
def srcL (S : Store) : D → Option Src
  | .rol ds => some ⟨[], ds⟩
  | .obj i => match S[i]? with
    | some (.lst ds) => some ⟨[(i, ds)], ds⟩
    | _ => none
  | _ => none
def rngI (lo : Int) (n : Nat) : List D := (List.range n).map fun i => .int (lo + (i : Nat))
def enumI (ds : List D) : List D := ds.zipIdx.map fun p => .tup [.int (p.2 : Nat), p.1]
/-! ### expressions -/
section
variable (F : Nat → List D → M D)
/-- a comprehension's items, one by one -/
def lcL (deps : List (Nat × List D)) (turn : D → M (Option D)) : List D → List D → M D
  | [], acc => fun S => if depsOk S deps = true then alloc (.lst acc) S else .bad
  | d :: ds, acc => fun S => if depsOk S deps = true then (turn d S).bind fun o S1 => match o with
    | none => lcL deps turn ds acc S1
    | some x => if acc.length < sizeLine then lcL deps turn ds (acc ++ [x]) S1 else .bad
    else .bad
/-- no exception leaves a comprehension here -/
def nox {α : Type} (r : R α) : R α := match r with
  | .exc _ _ => .bad
  | r => r
mutual
def eval : Ex → Env' → M D
  | .var i, env => fun S => match env[i]? with
    | some (some d) => .ok d S
    | _ => .bad
  | .int i, _ => fun S => .ok (.int i) S
  | .bl b, _ => fun S => .ok (.bl b) S
  | .non, _ => fun S => .ok .non S
  | .str x, _ => fun S => .ok (.str x) S
  | .glob _ d, _ => fun S => .ok d S
  | .bin op a b, env => fun S => (eval a env S).bind fun x S => (eval b env S).bind fun y S => binD op x y S
  | .neg a, env => fun S => (eval a env S).bind fun x S => negD x S
  | .cmp op a b, env => fun S => (eval a env S).bind fun x S => (eval b env S).bind fun y S => (cmpD op x y S).bind fun k S => .ok (.bl k) S
  | .chain op op' a b c, env => fun S => (eval a env S).bind fun x S => (eval b env S).bind fun y S => (cmpD op x y S).bind fun k S =>
      if k = true then (eval c env S).bind fun z S => (cmpD op' y z S).bind fun k S => .ok (.bl k) S else .ok (.bl false) S
  | .and a b, env => fun S => (eval a env S).bind fun x S => match x with
    | .bl k => if k = true then eval b env S else .ok (.bl false) S
    | _ => .bad
  | .or a b, env => fun S => (eval a env S).bind fun x S => match x with
    | .bl k => if k = true then .ok (.bl true) S else eval b env S
    | _ => .bad
  | .one a, env => eval a env
  | .not a, env => fun S => (eval a env S).bind fun x S => match x with
    | .bl k => .ok (.bl (!k)) S
    | _ => .bad
  | .ite t a b, env => fun S => (test t env S).bind fun k S => if k = true then eval a env S else eval b env S
  | .tup es, env => fun S => (evals es env S).bind fun ds S => if ds.length ≤ sizeLine then .ok (.tup ds) S else .bad
  | .lst es, env => fun S => (evals es env S).bind fun ds S => if ds.length ≤ sizeLine then alloc (.lst ds) S else .bad
  | .ix a b, env => fun S => (eval a env S).bind fun x S => (eval b env S).bind fun y S => ixD x y S
  | .sl a lo hi, env => fun S => (eval a env S).bind fun x S => (evalO lo env S).bind fun l S => (evalO hi env S).bind fun h S => slD x l h S
  | .call f es, env => fun S => (evals es env S).bind fun ds S => F f ds S
  | .blt b es, env => fun S => (evals es env S).bind fun ds S => bltD b ds S
  | .isi a t, env => fun S => (eval a env S).bind fun x S => match isiD S x t with
    | some k => .ok (.bl k) S
    | none => .bad
  | .lc own tg it cond e, env => fun S => (src it env S).bind fun s S => nox (lcL s.deps (fun d S => (assign tg d (wipeE env (own.map (·.2))) S).bind fun env2 S =>
      (tests cond env2 S).bind fun k S => if k = true then (eval e env2 S).bind fun x S => .ok (some x) S else .ok none S) s.items [] S)
  | .mth m o es, env => fun S => (eval o env S).bind fun x S => if m.isTy S x = true then (evals es env S).bind fun ds S => mthD m x ds S else .bad
def test : Ex → Env' → M Bool
  | .and a b, env => fun S => (test a env S).bind fun k S => if k = true then test b env S else .ok false S
  | .or a b, env => fun S => (test a env S).bind fun k S => if k = true then .ok true S else test b env S
  | .one a, env => test a env
  | .not a, env => fun S => (test a env S).bind fun k S => .ok (!k) S
  | .cmp op a b, env => fun S => (eval a env S).bind fun x S => (eval b env S).bind fun y S => cmpD op x y S
  | .chain op op' a b c, env => fun S => (eval a env S).bind fun x S => (eval b env S).bind fun y S => (cmpD op x y S).bind fun k S =>
      if k = true then (eval c env S).bind fun z S => cmpD op' y z S else .ok false S
  | .var i, env => fun S => match env[i]? with
    | some (some d) => truD d S
    | _ => .bad
  | .bl b, _ => fun S => .ok b S
  | .ix a b, env => fun S => (eval a env S).bind fun x S => (eval b env S).bind fun y S => (ixD x y S).bind fun d S => truD d S
  | .call f es, env => fun S => (evals es env S).bind fun ds S => (F f ds S).bind fun d S => truD d S
  | .isi a t, env => fun S => (eval a env S).bind fun x S => match isiD S x t with
    | some k => .ok k S
    | none => .bad
  | _, _ => M.bad
def evals : Exs → Env' → M (List D)
  | .nil, _ => fun S => .ok [] S
  | .cons e r, env => fun S => (eval e env S).bind fun d S => (evals r env S).bind fun ds S => .ok (d :: ds) S
def evalO : OEx → Env' → M (Option Int)
  | .no, _ => fun S => .ok none S
  | .yes e, env => fun S => (eval e env S).bind fun d S => match d with
    | .int i => .ok (some i) S
    | _ => .bad
/-- a clause's test, True if none is written -/
def tests : OEx → Env' → M Bool
  | .no, _ => fun S => .ok true S
  | .yes e, env => test e env
def src : Iu → Env' → M Src
  | .seq e, env => fun S => (eval e env S).bind fun d S => match srcOf S d with
    | some s => .ok s S
    | none => .bad
  | .rng1 a, env => fun S => (eval a env S).bind fun d S => match d with
    | .int j => if -(2 ^ 62) ≤ j ∧ j < 2 ^ 62 then .ok ⟨[], rngI 0 j.toNat⟩ S else .bad
    | _ => .bad
  | .rng2 a b, env => fun S => (eval a env S).bind fun d S => (eval b env S).bind fun d2 S => match d, d2 with
    | .int i, .int j => if (-(2 ^ 62) ≤ i ∧ i < 2 ^ 62) ∧ -(2 ^ 62) ≤ j ∧ j < 2 ^ 62 then .ok ⟨[], rngI i (j - i).toNat⟩ S else .bad
    | _, _ => .bad
  | .zip a b, env => fun S => (eval a env S).bind fun d S => (eval b env S).bind fun d2 S => match srcL S d, srcL S d2 with
    | some s, some s2 => .ok ⟨s.deps ++ s2.deps, List.zipWith (fun x y => .tup [x, y]) s.items s2.items⟩ S
    | _, _ => .bad
  | .enum a, env => fun S => (eval a env S).bind fun d S => match srcL S d with
    | some s => .ok ⟨s.deps, enumI s.items⟩ S
    | _ => .bad
end
/-! ### statements -/
inductive Fl where
  | next (env : Env') | ret (d : D) | brk (env : Env') | cont (env : Env') | exc (x : Xn) (env : Env')
/-- an expression within a statement: what it raises is raised at these slots -/
def run {α : Type} (r : R α) (env : Env') (k : α → Store → R Fl) : R Fl := match r with
  | .ok a S => k a S
  | .exc x S => .ok (.exc x env) S
  | .bad => .bad
/-- behind a turn of a loop: a break ends it -/
def turn (fl : Fl) (again : Env' → M Fl) : M Fl := match fl with
  | .next e => again e
  | .cont e => again e
  | .brk e => fun S => .ok (.next e) S
  | .ret d => fun S => .ok (.ret d) S
  | .exc x e => fun S => .ok (.exc x e) S
def forL (deps : List (Nat × List D)) (tg : Tg) (body : Env' → M Fl) : List D → Env' → M Fl
  | [], env => fun S => if depsOk S deps = true then .ok (.next env) S else .bad
  | d :: ds, env => fun S => if depsOk S deps = true then (run (assign tg d env S) env fun e1 S1 => (body e1 S1).bind fun fl S2 => turn fl (forL deps tg body ds) S2) else .bad
def whileL (t : Env' → M Bool) (body : Env' → M Fl) : Nat → Env' → M Fl
  | 0, _ => M.bad
  | n + 1, env => fun S => run (t env S) env fun k S1 => if k = true then (body env S1).bind fun fl S2 => turn fl (whileL t body n) S2 else .ok (.next env) S1
/-- more turns than any loop here takes -/
def manyTurns : Nat := 1000000000
mutual
def exec : Sm → Env' → M Fl
  | .skip, env => fun S => .ok (.next env) S
  | .expr e, env => fun S => run (eval F e env S) env fun _ S => .ok (.next env) S
  | .set i e, env => fun S => run (eval F e env S) env fun d S => .ok (.next (env.set i (some d))) S
  | .unp tg e, env => fun S => run (eval F e env S) env fun d S => run (assign tg d env S) env fun e1 S => .ok (.next e1) S
  | .setIx o i e, env => fun S => run (eval F e env S) env fun d S => run (eval F o env S) env fun x S => run (eval F i env S) env fun y S => run (putIx x y d S) env fun _ S => .ok (.next env) S
  | .ret e, env => fun S => run (eval F e env S) env fun d S => .ok (.ret d) S
  | .retN, _ => fun S => .ok (.ret .non) S
  | .ite t a b, env => fun S => run (test F t env S) env fun k S => if k = true then execs a env S else execs b env S
  | .for_ tg it body, env => fun S => run (src F it env S) env fun s S => forL s.deps tg (execs body) s.items env S
  | .while_ t body, env => whileL (test F t) (execs body) manyTurns env
  | .brk, env => fun S => .ok (.brk env) S
  | .cont, env => fun S => .ok (.cont env) S
def execs : Sms → Env' → M Fl
  | .nil, env => fun S => .ok (.next env) S
  | .cons s r, env => fun S => (exec s env S).bind fun fl S => match fl with
    | .next e => execs r e S
    | fl => .ok fl S
end
/-- a def is run -/
def runFd (fd : Fd) (args : List D) : M D := fun S => if args.length = fd.np then (nox (execs F fd.body (args.map some ++ List.replicate (fd.n - fd.np) none) S)).bind fun fl S => match fl with
  | .next _ => .ok .non S
  | .ret d => .ok d S
  | .exc x _ => .exc x S
  | _ => .bad
  else .bad
end
/-- the defs, called k deep -/
def callN (fns : List Fd) : Nat → Nat → List D → M D
  | 0, _, _ => M.bad
  | k + 1, f, args => match fns[f]? with
    | some fd => runFd (callN fns k) fd args
    | none => M.bad
end PyI
/-! PyiC: the operations' rules: what the interpreter answers, the machine does. -/
namespace PyI
open PySem L2
section
variable {K : PySem.W.Frag} {cls : Nat → Addr} {φ : List Addr} {H : Hp} {v : V}
@[simp] theorem rep_non : Rep K φ H .non v ↔ v = .non := by unfold Rep; exact Iff.rfl
@[simp] theorem rep_bl {b : Bool} : Rep K φ H (.bl b) v ↔ v = .bl b := by unfold Rep; exact Iff.rfl
@[simp] theorem rep_int {i : Int} : Rep K φ H (.int i) v ↔ v = .int i := by unfold Rep; exact Iff.rfl
@[simp] theorem rep_str {x : Str} : Rep K φ H (.str x) v ↔ v = .str x := by unfold Rep; exact Iff.rfl
theorem rep_tup {ds : List D} : Rep K φ H (.tup ds) v ↔ ∃ a xs, v = .ref a ∧ TupAt K φ H a xs ∧ Reps K φ H ds xs := by unfold Rep; exact Iff.rfl
theorem rep_rol {ds : List D} : Rep K φ H (.rol ds) v ↔ ∃ a xs, v = .ref a ∧ RolAt K φ H a xs ∧ Reps K φ H ds xs := by unfold Rep; exact Iff.rfl
theorem rep_obj {i : Nat} : Rep K φ H (.obj i) v ↔ ∃ a, v = .ref a ∧ φ[i]? = some a := by unfold Rep; exact Iff.rfl
theorem reps_one {d : D} {vs : List V} : Reps K φ H [d] vs ↔ ∃ v, vs = [v] ∧ Rep K φ H d v := by
  constructor
  · intro h
    unfold Reps at h
    obtain ⟨v, r, rfl, h1, h2⟩ := h
    unfold Reps at h2
    subst h2
    exact ⟨v, rfl, h1⟩
  · rintro ⟨v, rfl, h⟩
    exact .one h
theorem reps_two {d e : D} {vs : List V} : Reps K φ H [d, e] vs ↔ ∃ v u, vs = [v, u] ∧ Rep K φ H d v ∧ Rep K φ H e u := by
  constructor
  · intro h
    unfold Reps at h
    obtain ⟨v, r, rfl, h1, h2⟩ := h
    obtain ⟨u, rfl, h3⟩ := reps_one.mp h2
    exact ⟨v, u, rfl, h1, h3⟩
  · rintro ⟨v, u, rfl, h, h2⟩
    exact .cons h (.one h2)
/-- the two shapes of a list that is read -/
theorem seqOf_ok {S : Store} {d : D} {ds : List D} (k : Ok K cls φ H S) (r : Rep K φ H d v) (e : seqOf S d = some ds) :
    ∃ a xs, v = .ref a ∧ Reps K φ H ds xs ∧ ((SqL K H a xs ∧ (∀ es, d ≠ .tup es)) ∨ (SqT K H a xs ∧ d = .tup ds)) := by
  cases d with
  | tup es =>
    cases e
    obtain ⟨a, xs, rfl, t, q⟩ := rep_tup.mp r
    exact ⟨a, xs, rfl, q, .inr ⟨t.sq, rfl⟩⟩
  | rol es =>
    cases e
    obtain ⟨a, xs, rfl, t, q⟩ := rep_rol.mp r
    exact ⟨a, xs, rfl, q, .inl ⟨t.sq, fun _ z => nomatch z⟩⟩
  | obj i =>
    obtain ⟨a, rfl, t⟩ := rep_obj.mp r
    unfold seqOf at e
    dsimp only at e
    split at e
    · rename_i es he
      cases e
      obtain ⟨xs, h1, h2⟩ := k.lst t he
      exact ⟨a, xs, rfl, h2, .inl ⟨.inl (.inl h1), fun _ z => nomatch z⟩⟩
    · cases e
  | non => cases e
  | bl _ => cases e
  | int _ => cases e
  | str _ => cases e
/-! ### data for == -/
theorem dpAll_of {n : Nat} {S : Store} (ih : ∀ (d : D) (v : V) (p : PyData), Rep K φ H d v → toPy S n d = some p → Dp K H v p) :
    ∀ (ds : List D) (vs : List V) (ps : List PyData), Reps K φ H ds vs → ds.mapM (toPy S n) = some ps → DpAll K H vs ps
  | [], vs, ps, h, e => by
    unfold Reps at h
    subst h
    simp at e
    subst e
    exact .nil
  | d :: ds, vs, ps, h, e => by
    unfold Reps at h
    obtain ⟨v, r, rfl, h1, h2⟩ := h
    rw [List.mapM_cons] at e
    cases q : toPy S n d with
    | none => rw [q] at e; cases e
    | some p =>
      rw [q] at e
      cases q2 : ds.mapM (toPy S n) with
      | none => rw [q2] at e; cases e
      | some ps2 =>
        rw [q2] at e
        have e' : ps = p :: ps2 := (Option.some.inj e).symm
        subst e'
        exact .cons (ih d v p h1 q) (dpAll_of ih ds r ps2 h2 q2)
theorem dp_of {S : Store} (k : Ok K cls φ H S) : ∀ (n : Nat) (d : D) (v : V) (p : PyData), Rep K φ H d v → toPy S n d = some p → Dp K H v p
  | 0, _, _, _, _, e => by simp [toPy] at e
  | n + 1, .non, v, p, r, e => by
    have := rep_non.mp r; subst this
    simp [toPy] at e; subst e; exact .non
  | n + 1, .bl b, v, p, r, e => by
    have := rep_bl.mp r; subst this
    simp [toPy] at e; subst e; exact .bl b
  | n + 1, .int b, v, p, r, e => by
    have := rep_int.mp r; subst this
    simp [toPy] at e; subst e; exact .int b
  | n + 1, .str b, v, p, r, e => by
    have := rep_str.mp r; subst this
    simp [toPy] at e; subst e; exact .str b
  | n + 1, .tup ds, v, p, r, e => by
    obtain ⟨a, xs, rfl, t, q⟩ := rep_tup.mp r
    unfold toPy at e
    obtain ⟨ps, e1, rfl⟩ := Option.map_eq_some_iff.mp e
    exact .tup t.sq (dpAll_of (dp_of k n) ds xs ps q e1)
  | n + 1, .rol ds, v, p, r, e => by
    obtain ⟨a, xs, rfl, t, q⟩ := rep_rol.mp r
    unfold toPy at e
    obtain ⟨ps, e1, rfl⟩ := Option.map_eq_some_iff.mp e
    exact .lst t.sq (dpAll_of (dp_of k n) ds xs ps q e1)
  | n + 1, .obj i, v, p, r, e => by
    obtain ⟨a, rfl, t⟩ := rep_obj.mp r
    unfold toPy at e
    split at e
    · rename_i ds he
      obtain ⟨ps, e1, rfl⟩ := Option.map_eq_some_iff.mp e
      obtain ⟨xs, h1, h2⟩ := k.lst t he
      exact .lst (.inl (.inl h1)) (dpAll_of (dp_of k n) ds xs ps h2 e1)
    · cases e
end

/-! ### an answer given at once -/
section
variable {K : PySem.W.Frag} {cls : Nat → Addr} {W : WX} {σ : St} {φ : List Addr} {H : Hp} {S : Store}
abbrev PD (K : PySem.W.Frag) (Q : VK) : D → Store → List Addr → Hp → Prop := fun d _ φ' H' => ∀ v, Rep K φ' H' d v → Q v H'
/-- a new list -/
theorem post_alloc {ds : List D} {xs : List V} {Q : VK} {p : Addr} (k : Ok K cls φ H S) (r : Reps K φ H ds xs) (hp : H p = none) (h : Post K cls W σ φ H (alloc (.lst ds) S) (PD K Q)) : Q (.ref p) (upd H p (.lst xs)) := by
  have n := k.fresh hp
  refine h _ _ (le_alloc hp n) (k.alloc hp ⟨xs, upd_same, r.mono (le_alloc hp n)⟩) (.ref p) ?_
  refine rep_obj.mpr ⟨p, rfl, ?_⟩
  rw [← k.len, List.getElem?_append_right (Nat.le_refl _)]
  simp
theorem post_tup {ds : List D} {xs : List V} {Q : VK} {p : Addr} (k : Ok K cls φ H S) (r : Reps K φ H ds xs) (hp : H p = none) (h : Post K cls W σ φ H (.ok (.tup ds) S) (PD K Q)) : Q (.ref p) (upd H p (.tup xs)) :=
  h _ _ (le_new hp) (k.new hp) (.ref p) (rep_tup.mpr ⟨p, xs, rfl, .inl ⟨upd_same, k.fresh hp⟩, r.mono (le_new hp)⟩)
theorem post_val {d : D} {v : V} {Q : VK} (k : Ok K cls φ H S) (r : Rep K φ H d v) (h : Post K cls W σ φ H (.ok d S) (PD K Q)) : Q v H := h _ _ .refl k v r
theorem post_bool {b : Bool} {Q : Bool → Hp → Prop} (k : Ok K cls φ H S) (h : Post K cls W σ φ H (.ok b S) (fun b _ _ H' => Q b H')) : Q b H := h _ _ .refl k
end

/-! ### two-place operators -/
def rOf2 (K : PySem.W.Frag) (cls : Nat → Addr) (f : D → D → M D) : R2 := fun x y H Q => ∃ (W : WX) (σ : St) (φ : List Addr) (S : Store) (d1 d2 : D), Ok K cls φ H S ∧ Rep K φ H d1 x ∧ Rep K φ H d2 y ∧ Post K cls W σ φ H (f d1 d2 S) (PD K Q)
section
variable {X : Cx} {cls : Nat → Addr}
theorem OpR.imp {f : Value → Value → Sem Value} {r r' : R2} (h : OpR X f r) (i : ∀ x y H Q, r' x y H Q → r x y H Q) : OpR X f r' := fun pins s σ H x y v u Q I rx ry q => h pins s σ H x y v u Q I rx ry (i x y H Q q)
theorem addR : OpR X (binaryOp .Add) (rOf2 X.K cls addD) := by
  refine OpR.imp (OpR.or op_add (OpR.or op_add_str (OpR.or op_catT op_cat))) ?_
  rintro x y H Q ⟨W, σ, φ, S, d1, d2, k, r1, r2, h⟩
  cases d1 <;> cases d2 <;> try exact h.elim
  · rename_i i j
    rw [rep_int] at r1 r2
    exact .inl ⟨i, j, r1, r2, post_val k (rep_int.mpr rfl) h⟩
  · rename_i i j
    rw [rep_str] at r1 r2
    unfold addD at h
    dsimp only at h
    split at h
    · rename_i hl
      exact .inr (.inl ⟨i, j, r1, r2, hl, post_val k (rep_str.mpr rfl) h⟩)
    · exact h.elim
  · rename_i ds es
    obtain ⟨a, xs, e1, t1, q1⟩ := rep_tup.mp r1
    obtain ⟨b, ys, e2, t2, q2⟩ := rep_tup.mp r2
    unfold addD at h
    dsimp only at h
    split at h
    · rename_i hl
      refine .inr (.inr (.inl ⟨a, b, xs, ys, e1, e2, t1.sq, t2.sq, ?_, by rw [q1.length, q2.length]; exact hl.2, fun z => ?_, fun _ p hp => post_tup k (q1.append q2) hp h⟩))
      · intro z
        have := q1.length
        rw [z] at this
        have e0 : ds = [] := List.length_eq_zero_iff.mp this.symm
        rw [e0] at hl
        simp at hl
      · subst z
        have := q2.length
        have e0 : es = [] := List.length_eq_zero_iff.mp this.symm
        subst e0
        rw [List.append_nil] at h
        exact post_val k (rep_tup.mpr ⟨a, xs, rfl, t1, q1⟩) h
    · exact h.elim
  · rename_i i j
    obtain ⟨a, e1, t1⟩ := rep_obj.mp r1
    obtain ⟨b, e2, t2⟩ := rep_obj.mp r2
    unfold addD at h
    dsimp only at h
    split at h
    · rename_i xs ys h1 h2
      split at h
      · rename_i hl
        obtain ⟨vs, g1, q1⟩ := k.lst t1 h1
        obtain ⟨ws, g2, q2⟩ := k.lst t2 h2
        exact .inr (.inr (.inr ⟨a, b, vs, ws, e1, e2, g1, g2, by rw [q1.length, q2.length]; exact hl, fun p hp => post_alloc k (q1.append q2) hp h⟩))
      · exact h.elim
    · exact h.elim
theorem subR : OpR X (binaryOp .Sub) (rOf2 X.K cls subD) := by
  refine OpR.imp op_sub ?_
  rintro x y H Q ⟨W, σ, φ, S, d1, d2, k, r1, r2, h⟩
  cases d1 <;> cases d2 <;> try exact h.elim
  rename_i i j
  rw [rep_int] at r1 r2
  exact ⟨i, j, r1, r2, post_val k (rep_int.mpr rfl) h⟩
theorem mulOk_ok {i j : Int} (h : mulOk i j = true) : CMul i j ∨ CMulW i j := by
  unfold mulOk at h
  simp only [Bool.or_eq_true, decide_eq_true_eq] at h
  rcases h with (h | h) | h
  · exact .inl (.inl (by omega))
  · exact .inl (.inr (by omega))
  · exact .inr h
theorem Reps.rep {K : PySem.W.Frag} {φ : List Addr} {H : Hp} {ds : List D} {vs : List V} (h : Reps K φ H ds vs) : ∀ k : Nat, Reps K φ H (List.replicate k ds).flatten (List.replicate k vs).flatten
  | 0 => .nil
  | k + 1 => by
    rw [List.replicate_succ, List.replicate_succ, List.flatten_cons, List.flatten_cons]
    exact h.append (Reps.rep h k)
theorem mulR : OpR X (binaryOp .Mult) (rOf2 X.K cls mulD) := by
  refine OpR.imp (OpR.or op_mul (OpR.or op_mulW op_rep)) ?_
  rintro x y H Q ⟨W, σ, φ, S, d1, d2, k, r1, r2, h⟩
  cases d1 <;> cases d2 <;> try exact h.elim
  · rename_i i j
    rw [rep_int] at r1 r2
    unfold mulD at h
    dsimp only at h
    split at h
    · rename_i hm
      rcases mulOk_ok hm with c | c
      · exact .inl ⟨i, j, r1, r2, c, post_val k (rep_int.mpr rfl) h⟩
      · exact .inr (.inl ⟨i, j, r1, r2, c, post_val k (rep_int.mpr rfl) h⟩)
    · exact h.elim
  · rename_i i j
    obtain ⟨a, e1, t1⟩ := rep_obj.mp r1
    rw [rep_int] at r2
    unfold mulD at h
    dsimp only at h
    split at h
    · rename_i xs h1
      split at h
      · rename_i hl
        obtain ⟨vs, g1, q1⟩ := k.lst t1 h1
        exact .inr (.inr ⟨a, j, vs, e1, r2, g1, hl.1, hl.2.1, by rw [q1.length]; exact hl.2.2, fun p hp => post_alloc k (q1.rep _) hp h⟩)
      · exact h.elim
    · exact h.elim
theorem fdivR : OpR X (binaryOp .FloorDiv) (rOf2 X.K cls fdivD) := by
  refine OpR.imp op_fdivW ?_
  rintro x y H Q ⟨W, σ, φ, S, d1, d2, k, r1, r2, h⟩
  cases d1 <;> cases d2 <;> try exact h.elim
  rename_i i j
  rw [rep_int] at r1 r2
  unfold fdivD at h
  dsimp only at h
  split at h
  · rename_i hm
    exact ⟨i, j, r1, r2, hm, post_val k (rep_int.mpr rfl) h⟩
  · exact h.elim
theorem modR : OpR X (binaryOp .Mod) (rOf2 X.K cls modD) := by
  refine OpR.imp op_mod ?_
  rintro x y H Q ⟨W, σ, φ, S, d1, d2, k, r1, r2, h⟩
  cases d1 <;> cases d2 <;> try exact h.elim
  rename_i i j
  rw [rep_int] at r1 r2
  unfold modD at h
  dsimp only at h
  split at h
  · rename_i hm
    exact ⟨i, j, r1, r2, hm, post_val k (rep_int.mpr rfl) h⟩
  · exact h.elim
theorem powR : OpR X (binaryOp .Pow) (rOf2 X.K cls powD) := by
  refine OpR.imp op_pow ?_
  rintro x y H Q ⟨W, σ, φ, S, d1, d2, k, r1, r2, h⟩
  cases d1 <;> cases d2 <;> try exact h.elim
  rename_i i j
  rw [rep_int] at r1 r2
  unfold powD at h
  dsimp only at h
  split at h
  · rename_i hm
    exact ⟨i, j, r1, r2, hm, post_val k (rep_int.mpr rfl) h⟩
  · exact h.elim
theorem noR {f : Value → Value → Sem Value} : OpR X f (rOf2 X.K cls fun _ _ => M.bad) := by
  rintro pins s σ H x y v u Q I rx ry ⟨W, σ, φ, S, d1, d2, k, r1, r2, h⟩
  exact h.elim
theorem binR : ∀ op : Operator, OpR X (binaryOp op) (rOf2 X.K cls (binD op))
  | .Add => addR
  | .Sub => subR
  | .Mult => mulR
  | .FloorDiv => fdivR
  | .Mod => modR
  | .Pow => powR
  | .MatMult => noR
  | .Div => noR
  | .LShift => noR
  | .RShift => noR
  | .BitOr => noR
  | .BitXor => noR
  | .BitAnd => noR
def rOf1 (K : PySem.W.Frag) (cls : Nat → Addr) (f : D → M D) : V → Hp → VK → Prop := fun x H Q => ∃ (W : WX) (σ : St) (φ : List Addr) (S : Store) (d : D), Ok K cls φ H S ∧ Rep K φ H d x ∧ Post K cls W σ φ H (f d S) (PD K Q)
theorem negR : UnR X (unaryOp .USub) (rOf1 X.K cls negD) := by
  rintro pins s σ H x v Q I rx ⟨W, σ', φ, S, d, k, r, h⟩
  cases d <;> try exact h.elim
  rename_i i
  rw [rep_int] at r
  exact un_neg pins s σ H x v Q I rx ⟨i, r, post_val k (rep_int.mpr rfl) h⟩
/-! ### comparisons -/
abbrev asB (f : D → D → M Bool) : D → D → M D := fun a b S => (f a b S).bind fun k S => .ok (.bl k) S
theorem post_blB {K : PySem.W.Frag} {W : WX} {σ : St} {φ : List Addr} {H : Hp} {S : Store} {b : Bool} {Q : VK} (k : Ok K cls φ H S) (h : Post K cls W σ φ H ((R.ok b S : R Bool).bind fun k S => .ok (.bl k) S) (PD K Q)) : Q (.bl b) H := post_val k (rep_bl.mpr rfl) h
theorem eqR (hu : X.A.units + 65 < cLine) : OpR X (compareOp .Eq) (rOf2 X.K cls (asB eqD)) := by
  refine OpR.imp (op_eqD (by omega)) ?_
  rintro x y H Q ⟨W, σ, φ, S, d1, d2, k, r1, r2, h⟩
  unfold asB eqD at h
  split at h
  · rename_i p q h1 h2
    split at h
    · rename_i hs
      rw [Bool.and_eq_true] at hs
      exact ⟨p, q, dp_of k _ d1 x p r1 h1, dp_of k _ d2 y q r2 h2, hs.1, hs.2, post_blB k h⟩
    · exact h.elim
  · exact h.elim
theorem neR (hu : X.A.units + 65 < cLine) : OpR X (compareOp .NotEq) (rOf2 X.K cls (asB (cmpD .NotEq))) := by
  refine OpR.imp (op_neD (by omega)) ?_
  rintro x y H Q ⟨W, σ, φ, S, d1, d2, k, r1, r2, h⟩
  unfold asB cmpD eqD at h
  dsimp only at h
  split at h
  · rename_i p q h1 h2
    split at h
    · rename_i hs
      rw [Bool.and_eq_true] at hs
      exact ⟨p, q, dp_of k _ d1 x p r1 h1, dp_of k _ d2 y q r2 h2, hs.1, hs.2, post_blB k h⟩
    · exact h.elim
  · exact h.elim
theorem ltR : OpR X (compareOp .Lt) (rOf2 X.K cls (asB ltD)) := by
  refine OpR.imp op_lt ?_
  rintro x y H Q ⟨W, σ, φ, S, d1, d2, k, r1, r2, h⟩
  cases d1 <;> cases d2 <;> try exact h.elim
  rename_i i j
  rw [rep_int] at r1 r2
  exact ⟨i, j, r1, r2, post_blB k h⟩
theorem leR : OpR X (compareOp .LtE) (rOf2 X.K cls (asB leD)) := by
  refine OpR.imp op_le ?_
  rintro x y H Q ⟨W, σ, φ, S, d1, d2, k, r1, r2, h⟩
  cases d1 <;> cases d2 <;> try exact h.elim
  rename_i i j
  rw [rep_int] at r1 r2
  exact ⟨i, j, r1, r2, post_blB k h⟩
theorem gtR : OpR X (compareOp .Gt) (rOf2 X.K cls (asB (cmpD .Gt))) := by
  refine OpR.imp op_gt ?_
  rintro x y H Q ⟨W, σ, φ, S, d1, d2, k, r1, r2, h⟩
  cases d1 <;> cases d2 <;> try exact h.elim
  rename_i i j
  rw [rep_int] at r1 r2
  exact ⟨i, j, r1, r2, post_blB k h⟩
theorem geR : OpR X (compareOp .GtE) (rOf2 X.K cls (asB (cmpD .GtE))) := by
  refine OpR.imp op_ge ?_
  rintro x y H Q ⟨W, σ, φ, S, d1, d2, k, r1, r2, h⟩
  cases d1 <;> cases d2 <;> try exact h.elim
  rename_i i j
  rw [rep_int] at r1 r2
  exact ⟨i, j, r1, r2, post_blB k h⟩
theorem isNon_rep {K : PySem.W.Frag} {φ : List Addr} {H : Hp} {d : D} {x : V} (r : Rep K φ H d x) : decide (x = .non) = isNonD d := by
  cases d with
  | non => rw [rep_non] at r; subst r; rfl
  | bl _ => rw [rep_bl] at r; subst r; rfl
  | int _ => rw [rep_int] at r; subst r; rfl
  | str _ => rw [rep_str] at r; subst r; rfl
  | tup _ => obtain ⟨a, _, rfl, _⟩ := rep_tup.mp r; rfl
  | rol _ => obtain ⟨a, _, rfl, _⟩ := rep_rol.mp r; rfl
  | obj _ => obtain ⟨a, rfl, _⟩ := rep_obj.mp r; rfl
theorem isR : OpR X (compareOp .Is) (rOf2 X.K cls (asB (cmpD .Is))) := by
  refine OpR.imp op_isN ?_
  rintro x y H Q ⟨W, σ, φ, S, d1, d2, k, r1, r2, h⟩
  cases d2 <;> try exact h.elim
  rw [rep_non] at r2
  exact ⟨r2, by rw [isNon_rep r1]; exact post_blB k h⟩
theorem isnotR : OpR X (compareOp .IsNot) (rOf2 X.K cls (asB (cmpD .IsNot))) := by
  refine OpR.imp op_notN ?_
  rintro x y H Q ⟨W, σ, φ, S, d1, d2, k, r1, r2, h⟩
  cases d2 <;> try exact h.elim
  rw [rep_non] at r2
  exact ⟨r2, by rw [isNon_rep r1]; exact post_blB k h⟩
/-- what in is asked of -/
theorem inD_str {S : Store} {x : D} {z : Str} {r : R Bool} (h : inD x (.str z) S = r) : (∃ u, x = .str u ∧ r = .ok (!(Builtin.Str.occurrences z u 0 z.length 1).isEmpty) S) ∨ r = .bad := by
  unfold inD at h
  dsimp only at h
  split at h
  · exact .inl ⟨_, rfl, h.symm⟩
  · exact .inr h.symm
theorem inD_lst {S : Store} {x y : D} (hy : ∀ z, y ≠ .str z) {r : R Bool} (h : inD x y S = r) :
    (∃ p qs, toPy S deepest x = some p ∧ toPy S deepest y = some (.list qs) ∧ SeqAt.shaped p = true ∧ SeqAt.shaped (.list qs) = true ∧ r = .ok (qs.any fun z => PyData.eqv z p) S) ∨ r = .bad := by
  unfold inD at h
  split at h
  · exact absurd rfl (hy _)
  · exact .inr h.symm
  · split at h
    · rename_i p qs h1 h2
      split at h
      · rename_i hs
        rw [Bool.and_eq_true] at hs
        exact .inl ⟨p, qs, h1, h2, hs.1, hs.2, h.symm⟩
      · exact .inr h.symm
    · exact .inr h.symm
theorem inR (hu : X.A.units + 65 < cLine) : OpR X (compareOp .In) (rOf2 X.K cls (asB inD)) := by
  refine OpR.imp (OpR.or op_in_str (op_inD hu)) ?_
  rintro x y H Q ⟨W, σ, φ, S, d1, d2, k, r1, r2, h⟩
  unfold asB at h
  by_cases hy : ∃ z, d2 = .str z
  · obtain ⟨z, rfl⟩ := hy
    rcases inD_str (x := d1) (z := z) (S := S) rfl with ⟨u, rfl, e⟩ | e
    · rw [e] at h
      rw [rep_str] at r1 r2
      exact .inl ⟨u, z, r1, r2, post_blB k h⟩
    · rw [e] at h; exact h.elim
  · rcases inD_lst (x := d1) (S := S) (fun z e => hy ⟨z, e⟩) rfl with ⟨p, qs, h1, h2, s1, s2, e⟩ | e
    · rw [e] at h
      exact .inr ⟨p, qs, dp_of k _ d1 x p r1 h1, dp_of k _ d2 y _ r2 h2, s1, s2, post_blB k h⟩
    · rw [e] at h; exact h.elim
theorem notInR (hu : X.A.units + 65 < cLine) : OpR X (compareOp .NotIn) (rOf2 X.K cls (asB (cmpD .NotIn))) := by
  refine OpR.imp (OpR.or op_notin_str (op_notInD hu)) ?_
  rintro x y H Q ⟨W, σ, φ, S, d1, d2, k, r1, r2, h⟩
  unfold asB cmpD at h
  dsimp only at h
  by_cases hy : ∃ z, d2 = .str z
  · obtain ⟨z, rfl⟩ := hy
    rcases inD_str (x := d1) (z := z) (S := S) rfl with ⟨u, rfl, e⟩ | e
    · rw [e] at h
      rw [rep_str] at r1 r2
      exact .inl ⟨u, z, r1, r2, post_blB k h⟩
    · rw [e] at h; exact h.elim
  · rcases inD_lst (x := d1) (S := S) (fun z e => hy ⟨z, e⟩) rfl with ⟨p, qs, h1, h2, s1, s2, e⟩ | e
    · rw [e] at h
      exact .inr ⟨p, qs, dp_of k _ d1 x p r1 h1, dp_of k _ d2 y _ r2 h2, s1, s2, post_blB k h⟩
    · rw [e] at h; exact h.elim
theorem cmpR (hu : X.A.units + 65 < cLine) : ∀ op : CmpOp, OpR X (compareOp op) (rOf2 X.K cls (asB (cmpD op)))
  | .Eq => eqR hu
  | .NotEq => neR hu
  | .Lt => ltR
  | .LtE => leR
  | .Gt => gtR
  | .GtE => geR
  | .Is => isR
  | .IsNot => isnotR
  | .In => inR hu
  | .NotIn => notInR hu
/-! ### truth -/
def rTru (K : PySem.W.Frag) (cls : Nat → Addr) : V → Hp → (Bool → Hp → Prop) → Prop := fun x H Q => ∃ (W : WX) (σ : St) (φ : List Addr) (S : Store) (d : D), Ok K cls φ H S ∧ Rep K φ H d x ∧ Post K cls W σ φ H (truD d S) (fun b _ _ H' => Q b H')
theorem isEmpty_reps {K : PySem.W.Frag} {φ : List Addr} {H : Hp} {ds : List D} {vs : List V} (h : Reps K φ H ds vs) : (!vs.isEmpty) = !ds.isEmpty := by
  have := h.length
  cases ds <;> cases vs <;> simp_all
theorem rTru_of {K : PySem.W.Frag} {x : V} {H : Hp} {Q : Bool → Hp → Prop} (h : rTru K cls x H Q) : ∃ k, TruV K x H k ∧ Q k H := by
  obtain ⟨W, σ, φ, S, d, k, r, h⟩ := h
  cases d with
  | non => rw [rep_non] at r; subst r; exact ⟨false, rfl, post_bool k h⟩
  | bl b => rw [rep_bl] at r; subst r; exact ⟨b, rfl, post_bool k h⟩
  | int i => rw [rep_int] at r; subst r; exact ⟨_, rfl, post_bool k h⟩
  | str z =>
    rw [rep_str] at r; subst r
    unfold truD at h
    dsimp only at h
    split at h
    · rename_i hl
      exact ⟨_, ⟨hl, rfl⟩, post_bool k h⟩
    · exact h.elim
  | tup ds =>
    obtain ⟨a, xs, rfl, t, q⟩ := rep_tup.mp r
    exact ⟨_, .inr (.inl ⟨xs, t.sq, (isEmpty_reps q).symm⟩), post_bool k h⟩
  | rol ds =>
    obtain ⟨a, xs, rfl, t, q⟩ := rep_rol.mp r
    exact ⟨_, .inl ⟨xs, t.sq, (isEmpty_reps q).symm⟩, post_bool k h⟩
  | obj i =>
    obtain ⟨a, rfl, t⟩ := rep_obj.mp r
    unfold truD at h
    dsimp only at h
    split at h
    · rename_i ds he
      obtain ⟨xs, h1, h2⟩ := k.lst t he
      exact ⟨_, .inl ⟨xs, .inl (.inl h1), (isEmpty_reps h2).symm⟩, post_bool k h⟩
    · exact h.elim
/-! ### subscripts -/
theorem IxR.imp {r r' : R2} (h : IxR X r) (i : ∀ x y H Q, r' x y H Q → r x y H Q) : IxR X r' := fun a b pins s σ H x y v u Q I rx ry q e => h a b pins s σ H x y v u Q I rx ry (i x y H Q q) e
theorem atI_reps {K : PySem.W.Frag} {φ : List Addr} {H : Hp} {ds : List D} {vs : List V} {i : Int} {d : D} (h : Reps K φ H ds vs) (e : atI ds i = some d) : ∃ v, atI vs i = some v ∧ Rep K φ H d v := by
  unfold atI at e ⊢
  rw [h.length]
  cases q : ixN ds.length i with
  | none => rw [q] at e; cases e
  | some j =>
    rw [q] at e
    exact h.get e
theorem ixR : IxR X (rOf2 X.K cls ixD) := by
  refine IxR.imp ix_seq ?_
  rintro x y H Q ⟨W, σ, φ, S, d1, d2, k, r1, r2, h⟩
  cases d2 with
  | int i =>
    rw [rep_int] at r2
    by_cases hz : ∃ z, d1 = .str z
    · obtain ⟨z, rfl⟩ := hz
      rw [rep_str] at r1
      unfold ixD at h
      dsimp only at h
      split at h
      · rename_i hl
        split at h
        · rename_i c hc
          exact .inr (.inr ⟨z, i, c, r1, r2, hl, hc, post_val k (rep_str.mpr rfl) h⟩)
        · exact h.elim
      · exact h.elim
    · have e : ixD d1 (.int i) S = (match seqOf S d1 with
          | some ds => (match atI ds i with
            | some d => .ok d S
            | none => .bad)
          | none => .bad) := by
        cases d1 <;> first | rfl | exact absurd ⟨_, rfl⟩ hz
      rw [e] at h
      cases hs : seqOf S d1 with
      | none => rw [hs] at h; exact h.elim
      | some ds =>
        rw [hs] at h
        dsimp only at h
        split at h
        · rename_i d hd
          obtain ⟨a, xs, rfl, q, z⟩ := seqOf_ok k r1 hs
          obtain ⟨v, e1, e2⟩ := atI_reps q hd
          have fin := post_val k e2 h
          rcases z with ⟨z, _⟩ | ⟨z, _⟩
          · exact .inl ⟨a, xs, i, v, rfl, r2, z, e1, fin⟩
          · exact .inr (.inl ⟨a, xs, i, v, rfl, r2, z, e1, fin⟩)
        · exact h.elim
  | _ => cases d1 <;> exact h.elim
def rOfS (K : PySem.W.Frag) (cls : Nat → Addr) : V → Option Int → Option Int → Hp → VK → Prop := fun x lo hi H Q => ∃ (W : WX) (σ : St) (φ : List Addr) (S : Store) (d : D), Ok K cls φ H S ∧ Rep K φ H d x ∧ Post K cls W σ φ H (slD d lo hi S) (PD K Q)
theorem SlR.imp {r r' : V → Option Int → Option Int → Hp → VK → Prop} (h : SlR X r) (i : ∀ x l u H Q, r' x l u H Q → r x l u H Q) : SlR X r' := fun pins s σ H x v vl vu lo hi sl Q I rx is pl pu q => h pins s σ H x v vl vu lo hi sl Q I rx is pl pu (i x lo hi H Q q)
theorem cut_reps {K : PySem.W.Frag} {φ : List Addr} {H : Hp} {ds : List D} {vs : List V} {lo hi : Option Int} (h : Reps K φ H ds vs) : Reps K φ H (cutD ds lo hi) (cutV vs lo hi) := by
  unfold cutD cutV
  rw [h.length]
  exact (h.drop _).take _
theorem slR : SlR X (rOfS X.K cls) := by
  refine SlR.imp (SlR.or sl_list sl_tup) ?_
  rintro x lo hi H Q ⟨W, σ, φ, S, d, k, r, h⟩
  have lst : ∀ ds, seqOf S d = some ds → (∀ es, d ≠ .tup es) → Post X.K cls W σ φ H (alloc (.lst (cutD ds lo hi)) S) (PD X.K Q) → rSlL X.K x lo hi H Q := fun ds hs nt h => by
    obtain ⟨a, xs, rfl, q, z⟩ := seqOf_ok k r hs
    rcases z with ⟨z, _⟩ | ⟨_, z⟩
    · exact ⟨a, xs, rfl, z, fun p hp => post_alloc k (cut_reps q) hp h⟩
    · exact absurd z (nt _)
  cases d with
  | tup ds =>
    obtain ⟨a, xs, rfl, t, q⟩ := rep_tup.mp r
    unfold slD at h
    dsimp only at h
    split at h
    · exact h.elim
    · rename_i hw
      exact .inr ⟨a, xs, rfl, t.sq, by rw [q.length]; exact hw, fun p hp => post_tup k (cut_reps q) hp h⟩
  | str z => exact h.elim
  | rol ds => exact .inl (lst ds rfl (fun _ z => nomatch z) h)
  | obj i =>
    unfold slD at h
    dsimp only at h
    split at h
    · rename_i ds hs
      exact .inl (lst ds hs (fun _ z => nomatch z) h)
    · exact h.elim
  | non => exact h.elim
  | bl _ => exact h.elim
  | int _ => exact h.elim
def rPut (K : PySem.W.Frag) (cls : Nat → Addr) : V → V → V → Hp → (Hp → Prop) → Prop := fun o i v H Q => ∃ (W : WX) (σ : St) (φ : List Addr) (S : Store) (d1 d2 d : D), Ok K cls φ H S ∧ Rep K φ H d1 o ∧ Rep K φ H d2 i ∧ Rep K φ H d v ∧ Post K cls W σ φ H (putIx d1 d2 d S) (fun _ _ _ H' => Q H')
theorem putR : PSet X (rPut X.K cls) := by
  rintro pins s σ H o i v ov iv u Q I r1 r2 r3 ⟨W, σ', φ, S, d1, d2, d, k, q1, q2, q3, h⟩
  cases d1 <;> cases d2 <;> try exact h.elim
  rename_i n j
  obtain ⟨a, rfl, t⟩ := rep_obj.mp q1
  rw [rep_int] at q2
  unfold putIx at h
  dsimp only at h
  split at h
  · rename_i ds he
    split at h
    · rename_i m hm
      obtain ⟨xs, h1, h2⟩ := k.lst t he
      refine set_list pins s σ H _ _ _ _ _ _ Q I r1 r2 r3 ⟨a, xs, j, m, rfl, q2, h1, by rw [h2.length]; exact hm, ?_⟩
      have hm2 : a ∈ φ := List.mem_of_getElem? t
      exact h φ _ (le_write hm2) (k.write t ⟨_, upd_same, (h2.set m q3).mono (le_write hm2)⟩)
    · exact h.elim
  · exact h.elim
end
end PyI
/-! PyiD: built-in calls, targets, what is walked, comprehensions, loops. -/
namespace PyI
open PySem L2
section
variable {X : Cx} {cls : Nat → Addr}
theorem PE.imp {e : Expr} {t t' : TE} (h : PE X e t) (i : ∀ σ H Q, t' σ H Q → t σ H Q) : PE X e t' := ⟨fun pins s σ H Q I q => h.run pins s σ H Q I (i σ H Q q)⟩
theorem PT.imp {e : Expr} {t t' : TT} (h : PT X e t) (i : ∀ σ H Q, t' σ H Q → t σ H Q) : PT X e t' := ⟨fun pins s σ H Q I q => h.run pins s σ H Q I (i σ H Q q)⟩
theorem PS.imp {e : Stmt} {t t' : TS} (h : PS X e t) (i : ∀ D σ H, t' D σ H → t D σ H) : PS X e t' := ⟨fun pins s σ H D I q => h.run pins s σ H D I (i D σ H q)⟩
theorem PSs.imp {e : List Stmt} {t t' : TS} (h : PSs X e t) (i : ∀ D σ H, t' D σ H → t D σ H) : PSs X e t' := ⟨fun pins s σ H D I q => h.run pins s σ H D I (i D σ H q)⟩
theorem PI.imp {tg e : Expr} {t t' : TI} (h : PI X tg e t) (i : ∀ σ H R, t' σ H R → t σ H R) : PI X tg e t' := ⟨fun pins s σ H R I q => h.run pins s σ H R I (i σ H R q)⟩
theorem PI.or {tg e : Expr} {t t' : TI} (h : PI X tg e t) (h' : PI X tg e t') : PI X tg e (fun σ H R => t σ H R ∨ t' σ H R) := ⟨fun pins s σ H R I q => q.elim (h.run pins s σ H R I) (h'.run pins s σ H R I)⟩
theorem PE.or {e : Expr} {t t' : TE} (h : PE X e t) (h' : PE X e t') : PE X e (fun σ H R => t σ H R ∨ t' σ H R) := ⟨fun pins s σ H R I q => q.elim (h.run pins s σ H R I) (h'.run pins s σ H R I)⟩
theorem PE.never {e : Expr} : PE X e (fun _ _ _ => False) := ⟨fun _ _ _ _ _ _ q => q.elim⟩
/-! ### built-in functions by values -/
def rOfL (K : PySem.W.Frag) (cls : Nat → Addr) (f : List D → M D) : List V → Hp → VK → Prop := fun xs H Q => ∃ (W : WX) (σ : St) (φ : List Addr) (S : Store) (ds : List D), Ok K cls φ H S ∧ Reps K φ H ds xs ∧ Post K cls W σ φ H (f ds S) (PD K Q)
theorem CallR.imp {f : Value} {r r' : List V → Hp → VK → Prop} (h : CallR X f r) (i : ∀ xs H Q, r' xs H Q → r xs H Q) : CallR X f r' := fun pins s σ H xs us Q I r q => h pins s σ H xs us Q I r (i xs H Q q)
theorem one1R {f : Value} {g : D → M D} {r : List V → Hp → VK → Prop} (h : CallR X f r)
    (i : ∀ (x : V) (H : Hp) (Q : VK) (W : WX) (σ : St) (φ : List Addr) (S : Store) (d : D), Ok X.K cls φ H S → Rep X.K φ H d x → Post X.K cls W σ φ H (g d S) (PD X.K Q) → r [x] H Q) : CallR X f (rOfL X.K cls (one1 g)) := by
  refine CallR.imp h ?_
  rintro xs H Q ⟨W, σ, φ, S, ds, k, r, h⟩
  match ds, r, h with
  | [], r, h => exact h.elim
  | _ :: _ :: _, r, h => exact h.elim
  | [d], r, h =>
    obtain ⟨v, rfl, rd⟩ := reps_one.mp r
    exact i v H Q W σ φ S d k rd h
theorem two2R {f : Value} {g : D → D → M D} {r : List V → Hp → VK → Prop} (h : CallR X f r)
    (i : ∀ (x y : V) (H : Hp) (Q : VK) (W : WX) (σ : St) (φ : List Addr) (S : Store) (d e : D), Ok X.K cls φ H S → Rep X.K φ H d x → Rep X.K φ H e y → Post X.K cls W σ φ H (g d e S) (PD X.K Q) → r [x, y] H Q) : CallR X f (rOfL X.K cls (two2 g)) := by
  refine CallR.imp h ?_
  rintro xs H Q ⟨W, σ, φ, S, ds, k, r, h⟩
  match ds, r, h with
  | [], r, h => exact h.elim
  | [_], r, h => exact h.elim
  | _ :: _ :: _ :: _, r, h => exact h.elim
  | [d, e], r, h =>
    obtain ⟨v, u, rfl, rd, re⟩ := reps_two.mp r
    exact i v u H Q W σ φ S d e k rd re h
theorem lenR : CallR X (.builtin "len") (rOfL X.K cls (bltD .len)) := by
  refine one1R (CallR.or call_len_seq call_len_str) ?_
  intro x H Q W σ φ S d k rd h
  by_cases hz : ∃ z, d = .str z
  · obtain ⟨z, rfl⟩ := hz
    rw [rep_str] at rd
    subst rd
    unfold lenD at h
    dsimp only at h
    split at h
    · rename_i hl
      exact .inr ⟨z, rfl, hl, post_val k (rep_int.mpr rfl) h⟩
    · exact h.elim
  · have e : lenD d S = (match seqOf S d with
        | some ds => .ok (.int ds.length) S
        | none => .bad) := by
      cases d <;> first | rfl | exact absurd ⟨_, rfl⟩ hz
    rw [e] at h
    cases hs : seqOf S d with
    | none => rw [hs] at h; exact h.elim
    | some ds =>
      rw [hs] at h
      obtain ⟨a, xs, rfl, q, z⟩ := seqOf_ok k rd hs
      refine .inl ⟨a, xs, rfl, z.imp (·.1) (·.1), ?_⟩
      rw [q.length]
      exact post_val k (rep_int.mpr rfl) h
theorem absR : CallR X (.builtin "abs") (rOfL X.K cls (bltD .abs)) := by
  refine one1R call_abs ?_
  intro x H Q W σ φ S d k rd h
  cases d <;> try exact h.elim
  rename_i i
  rw [rep_int] at rd
  subst rd
  exact ⟨i, rfl, post_val k (rep_int.mpr rfl) h⟩
theorem intR : CallR X (.type "int") (rOfL X.K cls (bltD .int)) := by
  refine one1R call_int1 ?_
  intro x H Q W σ φ S d k rd h
  cases d <;> try exact h.elim
  · rw [rep_bl] at rd
    subst rd
    exact .inr ⟨_, rfl, post_val k (rep_int.mpr rfl) h⟩
  · rw [rep_int] at rd
    subst rd
    exact .inl ⟨_, rfl, post_val k (rep_int.mpr rfl) h⟩
theorem listR : CallR X (.type "list") (rOfL X.K cls (bltD .list)) := by
  refine one1R call_list_of ?_
  intro x H Q W σ φ S d k rd h
  unfold listD at h
  split at h
  · rename_i ds hs
    obtain ⟨a, xs, rfl, q, z⟩ := seqOf_ok k rd hs
    exact ⟨a, xs, rfl, z.imp (·.1) (·.1), fun p hp => post_alloc k q hp h⟩
  · exact h.elim
theorem tupleR : CallR X (.type "tuple") (rOfL X.K cls (bltD .tuple)) := by
  refine one1R call_tuple_of ?_
  intro x H Q W σ φ S d k rd h
  unfold tupleD at h
  split at h
  · rename_i ds hs
    obtain ⟨a, xs, rfl, q, z⟩ := seqOf_ok k rd hs
    rcases z with ⟨z, _⟩ | ⟨z, e⟩
    · exact ⟨a, xs, rfl, .inl ⟨z, fun p hp => post_tup k q hp h⟩⟩
    · subst e
      exact ⟨a, xs, rfl, .inr ⟨z, post_val k rd h⟩⟩
  · exact h.elim
theorem gcdR : CallR X (.builtin "math.gcd") (rOfL X.K cls (bltD .gcd)) := by
  refine two2R cr_gcd ?_
  intro x y H Q W σ φ S d e k rd re h
  cases d <;> cases e <;> try exact h.elim
  rename_i i j
  rw [rep_int] at rd re
  subst rd re
  exact ⟨i, j, rfl, post_val k (rep_int.mpr rfl) h⟩
theorem call_lcm : CallR X (.builtin "math.lcm") (fun vs H Q => ∃ a b : Int, vs = [.int a, .int b] ∧ a.natAbs.log2 ≤ 13000 ∧ b.natAbs.log2 ≤ 13000 ∧ Q (.int ((Nat.lcm a.natAbs b.natAbs : Nat) : Int)) H) := by
  intro pins s σ H vs us Q I r h
  obtain ⟨a, b, rfl, ha, hb, q⟩ := h
  obtain ⟨t, u, rfl⟩ := Vals.int2 r
  have l1 : Nat.lcm 1 a.natAbs = a.natAbs := Nat.lcm_one_left _
  have hb1 : bitsLine = 134217728 := by decide
  have h1 : ¬(max 1 a.natAbs).log2 / 30 + 1 > 450 := by
    have : (max 1 a.natAbs).log2 ≤ 13000 := by
      by_cases z : a.natAbs ≤ 1
      · rw [Nat.max_eq_left z]; decide
      · rw [Nat.max_eq_right (by omega)]; exact ha
    omega
  have h2 : ¬(max a.natAbs b.natAbs).log2 / 30 + 1 > 450 := by
    have : (max a.natAbs b.natAbs).log2 ≤ 13000 := by
      by_cases z : a.natAbs ≤ b.natAbs
      · rw [Nat.max_eq_right z]; exact hb
      · rw [Nat.max_eq_left (by omega)]; exact ha
    omega
  have hsz : ((((Nat.lcm 1 a.natAbs).lcm b.natAbs : Nat) : Int)).natAbs.log2 < bitsLine := by
    rw [l1, Int.natAbs_natCast, hb1]
    have lt : ∀ {n : Nat}, n.log2 ≤ 13000 → n < 2 ^ 13001 := fun {n} hn => by
      by_cases z : n = 0
      · subst z; exact Nat.two_pow_pos _
      · exact (Nat.log2_lt z).mp (by omega)
    by_cases z : a.natAbs.lcm b.natAbs = 0
    · rw [z, Nat.log2_zero]; decide
    · have x := Nat.lcm_le_mul (m := a.natAbs) (n := b.natAbs)
      have y : a.natAbs * b.natAbs < 2 ^ 13001 * 2 ^ 13001 := Nat.mul_lt_mul'' (lt ha) (lt hb)
      have w : a.natAbs.lcm b.natAbs < 2 ^ 26002 := by
        have e : 2 ^ 13001 * 2 ^ 13001 = 2 ^ 26002 := by rw [← Nat.pow_add]
        have hp : 0 < a.natAbs * b.natAbs := by
          refine Nat.pos_of_ne_zero fun q => z ?_
          rcases Nat.mul_eq_zero.mp q with q | q
          · rw [q]; exact Nat.lcm_zero_left _
          · rw [q]; exact Nat.lcm_zero_right _
        have x' : a.natAbs.lcm b.natAbs ≤ a.natAbs * b.natAbs := by
          first
            | exact x (Nat.pos_of_mul_pos_right hp) (Nat.pos_of_mul_pos_left hp)
            | exact Nat.le_of_dvd hp (Nat.lcm_dvd_mul _ _)
        omega
      have := (Nat.log2_lt z).mpr w
      omega
  refine call_function_meets PySem.W.MGF.kind_lcm PySem.W.MGF.plain_lcm PySem.W.MGF.entry_lcm (PySem.W.MGF.args_lcm _ _) (PySem.W.mg_run_lcm a t b u h1 h2 hsz).meets ⟨.int _, H, I.tok _, ⟨_, rfl⟩, ?_⟩
  rw [l1]
  exact q
theorem lcmR : CallR X (.builtin "math.lcm") (rOfL X.K cls (bltD .lcm)) := by
  refine two2R call_lcm ?_
  intro x y H Q W σ φ S d e k rd re h
  cases d <;> cases e <;> try exact h.elim
  rename_i i j
  rw [rep_int] at rd re
  subst rd re
  unfold lcmD at h
  dsimp only at h
  split at h
  · rename_i hl
    exact ⟨i, j, rfl, hl.1, hl.2, post_val k (rep_int.mpr rfl) h⟩
  · exact h.elim
/-! ### isinstance -/
def Ty.name : Ty → String
  | .int => "int"
  | .bool => "bool"
  | .str => "str"
  | .tuple => "tuple"
  | .list => "list"
theorem isi_ok {K : PySem.W.Frag} {φ : List Addr} {H : Hp} {S : Store} {d : D} {v : V} {t : Ty} {b : Bool} (k : Ok K cls φ H S) (r : Rep K φ H d v) (e : isiD S d t = some b) :
    ∃ tv, TyX K H v tv ∧ PySem.W.kitOne K tv (.type t.name) = some b := by
  cases d with
  | non => rw [rep_non] at r; subst r; cases e; exact ⟨_, .base .non, kit_ty (by cases t <;> decide +kernel)⟩
  | bl x => rw [rep_bl] at r; subst r; cases e; exact ⟨_, .base (.bl x), kit_ty (by cases t <;> decide +kernel)⟩
  | int x => rw [rep_int] at r; subst r; cases e; exact ⟨_, .base (.int x), kit_ty (by cases t <;> decide +kernel)⟩
  | str x => rw [rep_str] at r; subst r; cases e; exact ⟨_, .base (.str x), kit_ty (by cases t <;> decide +kernel)⟩
  | tup ds =>
    obtain ⟨a, xs, rfl, q, _⟩ := rep_tup.mp r
    cases e
    rcases q with ⟨q, _⟩ | ⟨o, its, n, q, c, _⟩
    · exact ⟨_, .base (.tup q), kit_ty (by cases t <;> decide +kernel)⟩
    · exact ⟨_, .kTuple q c, kit_ty (by cases t <;> decide +kernel)⟩
  | rol ds =>
    obtain ⟨a, xs, rfl, q, _⟩ := rep_rol.mp r
    cases e
    rcases q with ⟨⟨o, q⟩, _⟩ | ⟨o, its, n, q, c, _⟩
    · exact ⟨_, .base (.frz q), kit_ty (by cases t <;> decide +kernel)⟩
    · exact ⟨_, .kList q c, kit_ty (by cases t <;> decide +kernel)⟩
  | obj i =>
    obtain ⟨a, rfl, q⟩ := rep_obj.mp r
    unfold isiD at e
    dsimp only at e
    split at e
    · rename_i ds he
      cases e
      obtain ⟨xs, h1, _⟩ := k.lst q he
      exact ⟨_, .base (.lst h1), kit_ty (by cases t <;> decide +kernel)⟩
    · cases e
/-! ### methods of built-in types -/
def rOfM (K : PySem.W.Frag) (cls : Nat → Addr) (f : D → List D → M D) : V → List V → Hp → VK → Prop := fun x xs H Q => ∃ (W : WX) (σ : St) (φ : List Addr) (S : Store) (d : D) (ds : List D), Ok K cls φ H S ∧ Rep K φ H d x ∧ Reps K φ H ds xs ∧ Post K cls W σ φ H (f d ds S) (PD K Q)
theorem MtM.imp {id : String} {r r' : V → List V → Hp → VK → Prop} (h : MtM X id r) (i : ∀ x xs H Q, r' x xs H Q → r x xs H Q) : MtM X id r' := fun pins s σ H x xs v us Q I rx rs q => h pins s σ H x xs v us Q I rx rs (i x xs H Q q)
theorem appendR : MtM X "list.append" (rOfM X.K cls (mthD .append)) := by
  refine MtM.imp mt_append ?_
  rintro x xs H Q ⟨W, σ, φ, S, d, ds, k, r, rs, h⟩
  cases d <;> try exact h.elim
  rename_i i
  match ds, rs, h with
  | [], rs, h => exact h.elim
  | _ :: _ :: _, rs, h => exact h.elim
  | [d], rs, h =>
    obtain ⟨y, rfl, ry⟩ := reps_one.mp rs
    obtain ⟨a, rfl, t⟩ := rep_obj.mp r
    unfold mthD at h
    dsimp only at h
    split at h
    · rename_i es he
      split at h
      · rename_i hl
        obtain ⟨zs, h1, h2⟩ := k.lst t he
        have hm : a ∈ φ := List.mem_of_getElem? t
        exact ⟨a, zs, y, rfl, rfl, h1, by rw [h2.length]; exact hl, h φ _ (le_write hm) (k.write t ⟨_, upd_same, (h2.append (.one ry)).mono (le_write hm)⟩) .non (rep_non.mpr rfl)⟩
      · exact h.elim
    · exact h.elim
/-! ### targets -/
def tgSlots : Tg → List Nat
  | .nm i => [i]
  | .tp is => is
/-- only these slots have changed -/
def ButAt (is : List Nat) (σ σ' : St) : Prop := σ'.length = σ.length ∧ ∀ j, j ∉ is → σ'[j]? = σ[j]?
def tG (K : PySem.W.Frag) (cls : Nat → Addr) (tg : Tg) : TG := fun v σ H Q => ∃ (W : WX) (σ' : St) (φ : List Addr) (S : Store) (env : Env') (d : D), EnvRep K φ H env σ ∧ Ok K cls φ H S ∧ Rep K φ H d v ∧
  Post K cls W σ' φ H (assign tg d env S) (fun env' S' φ' H' => S' = S → φ' = φ → H' = H → ∀ σ2, EnvRep K φ' H' env' σ2 → ButAt (tgSlots tg) σ σ2 → Q σ2 H')
theorem PG.imp {tg : Expr} {t t' : TG} (h : PG X tg t) (i : ∀ v σ H Q, t' v σ H Q → t v σ H Q) : PG X tg t' := ⟨fun pins s σ H v u Q I r q => h.run pins s σ H v u Q I r (i v σ H Q q)⟩
theorem pg_nm {i : Nat} {x : Str} {pos : Pos} (hN : X.N.Nodup) (hi : X.N[i]? = some x) (hx : Loc X.env.scope x) (hf : X.fn x = true ∨ X.env.scope.names.lookup x = some .local) : PG X (.Name x pos) (tG X.K cls (.nm i)) := by
  refine PG.imp (pg_name hN hi hx hf) ?_
  rintro v σ H Q ⟨W, σ', φ, S, env, d, e, k, r, h⟩
  exact h.ok k rfl rfl rfl _ (e.set i r) ⟨by simp, fun j hj => List.getElem?_set_ne (by simpa [tgSlots, eq_comm] using hj)⟩
/-- names, by slots -/
inductive Names' (X : Cx) : List Nat → List Expr → Prop where
  | nil : Names' X [] []
  | cons {i : Nat} {is : List Nat} {x : Str} {pos : Pos} {es : List Expr} (hi : X.N[i]? = some x) (hx : Loc X.env.scope x) (hf : X.fn x = true ∨ X.env.scope.names.lookup x = some .local) (t : Names' X is es) : Names' X (i :: is) (.Name x pos :: es)
def gsets : List Nat → TGs
  | [] => gNil
  | i :: is => gCons (gName i) (gsets is)
theorem pgs_names (hN : X.N.Nodup) : ∀ {is : List Nat} {es : List Expr}, Names' X is es → PGs X es (gsets is)
  | _, _, .nil => pgs_nil
  | _, _, .cons hi hx hf t => pgs_cons (pg_name hN hi hx hf) (pgs_names hN t)
theorem names_len : ∀ {is : List Nat} {es : List Expr}, Names' X is es → (assignEach es X.env).length = is.length
  | _, _, .nil => rfl
  | _, _, .cons hi hx hf t => by
    show (assignEach _ X.env).length + 1 = _
    rw [names_len t]
    rfl
theorem names_star : ∀ {is : List Nat} {es : List Expr}, Names' X is es → (assignEach es X.env).findIdx? (·.1) = none
  | _, _, .nil => rfl
  | _, _, .cons hi hx hf t => by
    have ih := names_star t
    unfold assignEach
    rw [List.findIdx?_cons, ih]
    rfl
theorem gsets_ok {K : PySem.W.Frag} {φ : List Addr} {H : Hp} {Q : St → Hp → Prop} : ∀ {is : List Nat} {ds : List D} {vs : List V} {env : Env'} {σ : St}, EnvRep K φ H env σ → Reps K φ H ds vs → ds.length = is.length →
    (∀ σ2, EnvRep K φ H (sets env is ds) σ2 → ButAt is σ σ2 → Q σ2 H) → gsets is vs σ H Q
  | [], [], vs, env, σ, e, r, l, h => by
    unfold Reps at r
    exact ⟨r, h σ e ⟨rfl, fun _ _ => rfl⟩⟩
  | [], _ :: _, _, _, _, _, _, l, _ => by simp at l
  | _ :: _, [], _, _, _, _, _, l, _ => by simp at l
  | i :: is, d :: ds, vs, env, σ, e, r, l, h => by
    unfold Reps at r
    obtain ⟨v, vr, rfl, r1, r2⟩ := r
    refine ⟨v, vr, rfl, gsets_ok (e.set i r1) r2 (by simpa using l) fun σ2 e2 b => h σ2 e2 ⟨by rw [b.1, List.length_set], fun j hj => ?_⟩⟩
    rw [List.mem_cons, not_or] at hj
    rw [b.2 j hj.2, List.getElem?_set_ne (Ne.symm hj.1)]
theorem pg_tp {is : List Nat} {es : List Expr} {n : Nat} {pos : Pos} (hN : X.N.Nodup) (hc : X.calm = true) (hn : Names' X is es) : PG X (.Tuple es n pos) (tG X.K cls (.tp is)) := by
  refine PG.imp (pg_tup hc (pgs_names hN hn) (names_len hn) (names_star hn)) ?_
  rintro v σ H Q ⟨W, σ', φ, S, env, d, e, k, r, h⟩
  unfold assign at h
  dsimp only at h
  cases d <;> try exact h.elim
  rename_i ds
  obtain ⟨a, xs, rfl, t, q⟩ := rep_tup.mp r
  dsimp only at h
  split at h
  · rename_i hl
    exact ⟨a, xs, rfl, t.sq, by rw [q.length]; exact hl, gsets_ok e q hl (h.ok k rfl rfl rfl)⟩
  · exact h.elim
/-- the answer of an assignment: the store stays -/
theorem assign_cases (tg : Tg) (d : D) (env : Env') (S : Store) : (∃ env', assign tg d env S = .ok env' S) ∨ assign tg d env S = .bad := by
  cases tg with
  | nm i => exact .inl ⟨_, rfl⟩
  | tp is =>
    unfold assign
    dsimp only
    cases d <;> try exact .inr rfl
    dsimp only
    split
    · exact .inl ⟨_, rfl⟩
    · exact .inr rfl
theorem wipe_get (σ : St) : ∀ (vs : List Nat) (j : Nat), j ∉ vs → (L2.wipe σ vs)[j]? = σ[j]?
  | [], _, _ => rfl
  | v :: vs, j, h => by
    rw [List.mem_cons, not_or] at h
    unfold L2.wipe
    rw [List.getElem?_set_ne (Ne.symm h.1), wipe_get σ vs j h.2]
theorem wipe_in (σ : St) : ∀ (vs : List Nat) (j : Nat), j ∈ vs → j < σ.length → (L2.wipe σ vs)[j]? = some none
  | [], _, h, _ => by cases h
  | v :: vs, j, h, hl => by
    unfold L2.wipe
    by_cases e : v = j
    · subst e
      rw [List.getElem?_set_self (by rw [wipe_length]; exact hl)]
    · rw [List.getElem?_set_ne e]
      rcases List.mem_cons.mp h with z | z
      · exact absurd z.symm e
      · exact wipe_in σ vs j z hl
theorem wipe_but {vs is : List Nat} {σ σ2 : St} (h : ButAt is (L2.wipe σ vs) σ2) (hs : ∀ i ∈ is, i ∈ vs) : L2.wipe σ2 vs = L2.wipe σ vs := by
  refine List.ext_getElem? fun j => ?_
  have hl : σ2.length = σ.length := by rw [h.1, wipe_length]
  by_cases hj : j ∈ vs
  · by_cases hb : j < σ.length
    · rw [wipe_in σ2 vs j hj (by rw [hl]; exact hb), wipe_in σ vs j hj hb]
    · rw [List.getElem?_eq_none (by rw [wipe_length, hl]; omega), List.getElem?_eq_none (by rw [wipe_length]; omega)]
  · rw [wipe_get σ2 vs j hj, h.2 j fun z => hj (hs j z)]
/-! ### what is walked -/
structure Feeds (K : PySem.W.Frag) (cls : Nat → Addr) (J : It) (φ₀ : List Addr) (H₀ : Hp) (s : Src) : Prop where
  item : ∀ (φ : List Addr) (H : Hp) (S : Store) (i : Nat) (d : D), Le φ₀ H₀ φ H → Ok K cls φ H S → depsOk S s.deps = true → s.items[i]? = some d →
    J.go i H ∧ ∀ x H', J.yld i H x H' → Le φ H φ H' ∧ Ok K cls φ H' S ∧ Rep K φ H' d x
  done : ∀ (φ : List Addr) (H : Hp) (S : Store), Le φ₀ H₀ φ H → Ok K cls φ H S → depsOk S s.deps = true → J.stop s.items.length H
def tI (K : PySem.W.Frag) (cls : Nat → Addr) (W : WX) (m : Env' → M Src) : TI := fun σ H R => ∃ φ S env, EnvRep K φ H env σ ∧ Ok K cls φ H S ∧ Post K cls W σ φ H (m env S) (fun s _ φ' H' => ∀ J, Feeds K cls J φ' H' s → R J H')
theorem depsOk_one {S : Store} {i : Nat} {ds : List D} {r : List (Nat × List D)} (h : depsOk S ((i, ds) :: r) = true) : S[i]? = some (.lst ds) ∧ depsOk S r = true := by
  unfold depsOk at h
  rw [List.all_cons, Bool.and_eq_true] at h
  refine ⟨?_, h.2⟩
  have h1 := h.1
  split at h1
  · rename_i es he
    rw [beqDs_eq _ _ h1] at he
    exact he
  · cases h1
theorem depsOk_append {S : Store} {a b : List (Nat × List D)} (h : depsOk S (a ++ b) = true) : depsOk S a = true ∧ depsOk S b = true := by
  unfold depsOk at h ⊢
  rw [List.all_append, Bool.and_eq_true] at h
  exact h
section
variable {K : PySem.W.Frag} {φ : List Addr} {H : Hp} {S : Store}
/-- a list that is walked: its data at every later state -/
def ListAt (K : PySem.W.Frag) (cls : Nat → Addr) (a : Addr) (φ₀ : List Addr) (H₀ : Hp) (s : Src) : Prop :=
  ∀ (φ : List Addr) (H : Hp) (S : Store), Le φ₀ H₀ φ H → Ok K cls φ H S → depsOk S s.deps = true → ∃ xs, SqL K H a xs ∧ Reps K φ H s.items xs
theorem listAt_of {d : D} {v : V} {s : Src} (k : Ok K cls φ H S) (r : Rep K φ H d v) (e : srcL S d = some s) : ∃ a, v = .ref a ∧ ListAt K cls a φ H s := by
  cases d with
  | rol ds =>
    cases e
    obtain ⟨a, xs, rfl, t, q⟩ := rep_rol.mp r
    exact ⟨a, rfl, fun φ1 H1 S1 l k1 _ => ⟨xs, (t.mono l).sq, q.mono l⟩⟩
  | obj i =>
    obtain ⟨a, rfl, t⟩ := rep_obj.mp r
    unfold srcL at e
    dsimp only at e
    split at e
    · rename_i ds he
      cases e
      refine ⟨a, rfl, fun φ1 H1 S1 l k1 dep => ?_⟩
      obtain ⟨xs, h1, h2⟩ := k1.lst (l.get t) (depsOk_one dep).1
      exact ⟨xs, .inl (.inl h1), h2⟩
    · cases e
  | non => cases e
  | bl _ => cases e
  | int _ => cases e
  | str _ => cases e
  | tup _ => cases e
theorem feeds_list {a : Addr} {s : Src} (h : ListAt K cls a φ H s) : Feeds K cls (Itl K a) φ H s where
  item := fun φ1 H1 S1 i d l k dep e => by
    obtain ⟨xs, h1, h2⟩ := h φ1 H1 S1 l k dep
    obtain ⟨v, g, r⟩ := h2.get e
    refine ⟨⟨xs, v, h1, g⟩, fun x H' y => ?_⟩
    obtain ⟨rfl, y⟩ := y
    have := (y xs h1).symm.trans g
    cases this
    exact ⟨.refl, k, r⟩
  done := fun φ1 H1 S1 l k dep => by
    obtain ⟨xs, h1, h2⟩ := h φ1 H1 S1 l k dep
    exact ⟨xs, h1, Nat.le_of_eq h2.length⟩
theorem feeds_tup {a : Addr} {xs : List V} {ds : List D} (t : TupAt K φ H a xs) (q : Reps K φ H ds xs) : Feeds K cls (Itt K a) φ H ⟨[], ds⟩ where
  item := fun φ1 H1 S1 i d l k dep e => by
    obtain ⟨v, g, r⟩ := (q.mono l).get e
    refine ⟨⟨xs, v, (t.mono l).sq, g⟩, fun x H' y => ?_⟩
    obtain ⟨rfl, y⟩ := y
    have := (y xs (t.mono l).sq).symm.trans g
    cases this
    exact ⟨.refl, k, r⟩
  done := fun φ1 H1 S1 l k dep => ⟨xs, (t.mono l).sq, Nat.le_of_eq q.length⟩
theorem feeds_str {z : Str} : Feeds K cls (Its z) φ H ⟨[], z.cps.toList.map fun c => .str ⟨#[c]⟩⟩ where
  item := fun φ1 H1 S1 i d l k dep e => by
    have hl : i < z.cps.size := by
      have := (List.getElem?_eq_some_iff.mp e).1
      simpa using this
    refine ⟨hl, fun x H' y => ?_⟩
    obtain ⟨rfl, c, hc, rfl⟩ := y
    refine ⟨.refl, k, ?_⟩
    rw [List.getElem?_map, Array.getElem?_toList, hc] at e
    cases e
    exact rep_str.mpr rfl
  done := fun φ1 H1 S1 l k dep => by
    show z.cps.size ≤ _
    simp
theorem feeds_rng {lo : Int} {n : Nat} : Feeds K cls (Itr lo n) φ H ⟨[], rngI lo n⟩ where
  item := fun φ1 H1 S1 i d l k dep e => by
    unfold rngI at e
    rw [List.getElem?_map] at e
    have hl : i < n := by
      by_cases z : i < n
      · exact z
      · rw [List.getElem?_eq_none (by simpa using z)] at e
        cases e
    refine ⟨hl, fun x H' y => ?_⟩
    obtain ⟨rfl, rfl⟩ := y
    refine ⟨.refl, k, ?_⟩
    rw [List.getElem?_range hl] at e
    cases e
    exact rep_int.mpr rfl
  done := fun φ1 H1 S1 l k dep => by
    show n ≤ _
    unfold rngI
    simp
theorem feeds_enum {a : Addr} {s : Src} (h : ListAt K cls a φ H s) : Feeds K cls (Ite K a) φ H ⟨s.deps, enumI s.items⟩ where
  item := fun φ1 H1 S1 i d l k dep e => by
    obtain ⟨xs, h1, h2⟩ := h φ1 H1 S1 l k dep
    unfold enumI at e
    rw [List.getElem?_map, List.getElem?_zipIdx] at e
    cases q : s.items[i]? with
    | none => rw [q] at e; cases e
    | some d0 =>
      rw [q] at e
      cases e
      obtain ⟨v, g, r⟩ := h2.get q
      refine ⟨⟨xs, v, h1, g⟩, fun x H' y => ?_⟩
      obtain ⟨T, x0, rfl, nT, rfl, y⟩ := y
      have := (y xs h1).symm.trans g
      cases this
      refine ⟨le_new nT, k.new nT, rep_tup.mpr ⟨T, _, rfl, .inl ⟨upd_same, k.fresh nT⟩, .cons (rep_int.mpr ?_) (.one (r.mono (le_new nT)))⟩⟩
      simp
  done := fun φ1 H1 S1 l k dep => by
    obtain ⟨xs, h1, h2⟩ := h φ1 H1 S1 l k dep
    refine ⟨xs, h1, ?_⟩
    unfold enumI
    simp [h2.length]
theorem feeds_zip {a b : Addr} {s s2 : Src} (h : ListAt K cls a φ H s) (h' : ListAt K cls b φ H s2) : Feeds K cls (Itz K a b) φ H ⟨s.deps ++ s2.deps, List.zipWith (fun x y => .tup [x, y]) s.items s2.items⟩ where
  item := fun φ1 H1 S1 i d l k dep e => by
    obtain ⟨xs, h1, h2⟩ := h φ1 H1 S1 l k (depsOk_append dep).1
    obtain ⟨ys, h3, h4⟩ := h' φ1 H1 S1 l k (depsOk_append dep).2
    dsimp only at e
    rw [List.getElem?_zipWith] at e
    cases q : s.items[i]? with
    | none => rw [q] at e; cases e
    | some d0 =>
      cases q2 : s2.items[i]? with
      | none => rw [q, q2] at e; cases e
      | some d1 =>
        rw [q, q2] at e
        cases e
        obtain ⟨v, g, r⟩ := h2.get q
        obtain ⟨v2, g2, r2⟩ := h4.get q2
        refine ⟨⟨xs, ys, v, v2, h1, h3, g, g2⟩, fun x H' y => ?_⟩
        obtain ⟨T, x0, y0, rfl, nT, rfl, y1, y2⟩ := y
        have := (y1 xs h1).symm.trans g
        cases this
        have := (y2 ys h3).symm.trans g2
        cases this
        exact ⟨le_new nT, k.new nT, rep_tup.mpr ⟨T, _, rfl, .inl ⟨upd_same, k.fresh nT⟩, .cons (r.mono (le_new nT)) (.one (r2.mono (le_new nT)))⟩⟩
  done := fun φ1 H1 S1 l k dep => by
    obtain ⟨xs, h1, h2⟩ := h φ1 H1 S1 l k (depsOk_append dep).1
    obtain ⟨ys, h3, h4⟩ := h' φ1 H1 S1 l k (depsOk_append dep).2
    refine ⟨xs, ys, h1, h3, ?_⟩
    rw [h2.length, h4.length, List.length_zipWith]
    omega
end
end
end PyI
/-! PyiE: which syntax an expression of the small language is; its soundness. -/
namespace PyI
open PySem L2
/-! ### static facts -/
structure SC where
  N : List Str
  sc : Scope
  fnb : Str → Bool
/-- the module's names: defs by index, constants, names that are the built-ins' own, imported built-in functions -/
structure GT where
  fns : List Str
  consts : List (Str × D)
  frees : List Str
  bf : List (Str × String)
def visB (sc : Scope) (x : Str) : Bool := match sc.names.lookup x with
  | some .local => true
  | some .cell => true
  | some .free => true
  | _ => false
def locB (sc : Scope) (x : Str) : Bool := match sc.names.lookup x with
  | some .local => true
  | some .cell => true
  | _ => false
def glB (sc : Scope) (x : Str) : Bool := match sc.names.lookup x with
  | some .globalImplicit => true
  | _ => false
def plainB (x : Str) : Bool := !(x == "__debug__") && (!(x == "__classdict__") && !(x == "__name__"))
theorem visB_ok {sc : Scope} {x : Str} (h : visB sc x = true) : Vis sc x := by
  unfold visB at h
  split at h
  · exact .inl (by assumption)
  · exact .inr (.inl (by assumption))
  · exact .inr (.inr (by assumption))
  · cases h
theorem locB_ok {sc : Scope} {x : Str} (h : locB sc x = true) : Loc sc x := by
  unfold locB at h
  split at h
  · exact .inl (by assumption)
  · exact .inr (by assumption)
  · cases h
theorem glB_ok {X : Cx} {x : Str} (h : glB X.env.scope x = true) : Gl X x := by
  unfold glB at h
  split at h
  · show X.env.scope.names.lookup x = _
    assumption
  · cases h
theorem plainB_ok {x : Str} (h : plainB x = true) : (x == ("__debug__" : Str)) = false ∧ (x == ("__classdict__" : Str)) = false ∧ x ≠ "__name__" := by
  unfold plainB at h
  simp only [Bool.and_eq_true, Bool.not_eq_true'] at h
  exact ⟨h.1, h.2.1, fun e => by
    have := h.2.2
    rw [e] at this
    simp at this⟩
def isVar (c : SC) (i : Nat) (x : Str) : Bool := decide (c.N[i]? = some x) && (visB c.sc x && plainB x)
def isTgt (c : SC) (i : Nat) (x : Str) : Bool := decide (c.N[i]? = some x) && (locB c.sc x && (c.fnb x || decide (c.sc.names.lookup x = some .local)))
def okTgs (c : SC) : List Nat → List Expr → Bool
  | [], [] => true
  | i :: is, e :: es => (match e with
    | .Name x _ => isTgt c i x
    | _ => false) && okTgs c is es
  | _, _ => false
def okTg (c : SC) : Tg → Expr → Bool
  | .nm i, e => (match e with
    | .Name x _ => isTgt c i x
    | _ => false)
  | .tp is, e => (match e with
    | .Tuple es _ _ => okTgs c is es
    | _ => false)
def tgIn (own : List (Str × Nat)) : Tg → Bool
  | .nm i => (own.map (·.2)).contains i
  | .tp is => is.all fun i => (own.map (·.2)).contains i
def isTuple : Expr → Bool
  | .Tuple .. => true
  | _ => false
def isComp : Expr → Bool
  | .ListComp .. => true
  | .SetComp .. => true
  | .DictComp .. => true
  | _ => false
/-- no star, no slice, no set -/
def goodB : Expr → Bool
  | .Set .. => false
  | .Starred .. => false
  | .Slice .. => false
  | .SetComp .. => false
  | .DictComp .. => false
  | _ => true
/-- not a call without arguments (super()) -/
def baseB : Expr → Bool
  | .Call _ [] _ _ => false
  | _ => true
/-- how a built-in function is called -/
inductive Bk where
  | fn (id : String) | ty (T : String) | imp (id : String)
def Bn.name : Bn → Str
  | .len => "len"
  | .abs => "abs"
  | .int => "int"
  | .list => "list"
  | .tuple => "tuple"
  | .gcd => "gcd"
  | .lcm => "lcm"
def Bn.kind : Bn → Bk
  | .len => .fn "len"
  | .abs => .fn "abs"
  | .int => .ty "int"
  | .list => .ty "list"
  | .tuple => .ty "tuple"
  | .gcd => .imp "math.gcd"
  | .lcm => .imp "math.lcm"
def Mn.name : Mn → Str
  | .append => "append"
def blkSC (c : SC) (scope : Scope) : SC := ⟨c.N, relS scope c.sc, fun x => scope.names.lookup x == some .cell⟩
variable (g : GT)
def freeB (sc : Scope) (x : Str) : Bool := glB sc x && g.frees.contains x
def bnB (sc : Scope) (b : Bn) (x : Str) : Bool := decide (x = b.name) && (glB sc x && (match b.kind with
  | .fn _ => g.frees.contains x
  | .ty _ => g.frees.contains x
  | .imp id => g.bf.contains (x, id)))
def isDoc : Expr → Bool
  | .Constant (.str _) _ _ => true
  | _ => false
mutual
def okE (c : SC) : Ex → Expr → Bool
  | .var i, e => (match e with
    | .Name x _ => isVar c i x
    | _ => false)
  | .int i, e => (match e with
    | .Constant (.int j) _ _ => decide (j = i)
    | _ => false)
  | .bl b, e => (match e with
    | .Constant (.bool d) _ _ => d == b
    | _ => false)
  | .non, e => (match e with
    | .Constant .none _ _ => true
    | _ => false)
  | .str x, e => (match e with
    | .Constant (.str y) _ _ => decide (y = x)
    | _ => false)
  | .glob x d, e => (match e with
    | .Name y _ => decide (y = x) && (glB c.sc x && (plainB x && g.consts.any fun p => decide (p.1 = x) && beqD p.2 d))
    | _ => false)
  | .bin op a b, e => (match e with
    | .BinOp a' op' b' _ => op' == op && (okE c a a' && okE c b b')
    | _ => false)
  | .neg a, e => (match e with
    | .UnaryOp .USub a' _ => okE c a a'
    | _ => false)
  | .cmp op a b, e => (match e with
    | .Compare a' [op'] [b'] _ => op' == op && (okE c a a' && (okE c b b' && goodB b'))
    | _ => false)
  | .chain op op2 a b d, e => (match e with
    | .Compare a' [op', op2'] [b', d'] _ => (op' == op && op2' == op2) && (okE c a a' && (okE c b b' && (okE c d d' && goodB d')))
    | _ => false)
  | .and a b, e => (match e with
    | .BoolOp .And (a' :: b' :: r) pos => okE c a a' && okE c b (.BoolOp .And (b' :: r) pos)
    | _ => false)
  | .or a b, e => (match e with
    | .BoolOp .Or (a' :: b' :: r) pos => okE c a a' && okE c b (.BoolOp .Or (b' :: r) pos)
    | _ => false)
  | .one a, e => (match e with
    | .BoolOp _ [a'] _ => okE c a a'
    | _ => false)
  | .not a, e => (match e with
    | .UnaryOp .Not a' _ => okE c a a'
    | _ => false)
  | .ite t a b, e => (match e with
    | .IfExp t' a' b' _ => okE c t t' && (okE c a a' && okE c b b')
    | _ => false)
  | .tup es, e => (match e with
    | .Tuple es' _ _ => okEs c es es'
    | _ => false)
  | .lst es, e => (match e with
    | .List es' _ => okEs c es es'
    | _ => false)
  | .ix a b, e => (match e with
    | .Subscript a' b' _ => okE c a a' && (okE c b b' && goodB b')
    | _ => false)
  | .sl a lo hi, e => (match e with
    | .Subscript a' (.Slice lo' hi' none _) _ => okE c a a' && (okO c lo lo' && okO c hi hi')
    | _ => false)
  | .call f es, e => (match e with
    | .Call (.Name x _) es' [] _ => (decide (g.fns[f]? = some x) && (glB c.sc x && plainB x)) && (okEs c es es' && !es'.isEmpty)
    | _ => false)
  | .blt b es, e => (match e with
    | .Call (.Name x _) es' [] _ => bnB g c.sc b x && (okEs c es es' && !es'.isEmpty)
    | _ => false)
  | .isi a t, e => (match e with
    | .Call (.Name x _) [a', .Name y _] [] _ => (decide (x = "isinstance") && (freeB g c.sc x && (decide (y = Str.ofString t.name) && freeB g c.sc y))) && (okE c a a' && goodB a')
    | _ => false)
  | .lc own tg it cond el, e => (match e with
    | .ListComp elt [⟨t, iter, ifs, n⟩] scope _ => (n == 0 && (blkC c.N c.sc scope own && tgIn own tg)) && ((okI c it t iter && (goodB iter && okTg (blkSC c scope) tg t)) && (okC (blkSC c scope) cond ifs && okE (blkSC c scope) el elt))
    | _ => false)
  | .mth m o es, e => (match e with
    | .Call (.Attribute o' nm apos) es' [] cpos => (decide (nm = m.name) && (apos.endLine == cpos.line && !es'.isEmpty)) && ((okE c o o' && baseB o') && (okEs c es es' && decide (es'.length < 20)))
    | _ => false)
def okEs (c : SC) : Exs → List Expr → Bool
  | .nil, es => es.isEmpty
  | .cons e r, es => (match es with
    | e' :: r' => okE c e e' && (goodB e' && okEs c r r')
    | [] => false)
def okO (c : SC) : OEx → Option Expr → Bool
  | .no, o => o.isNone
  | .yes e, o => (match o with
    | some e' => okE c e e'
    | none => false)
def okC (c : SC) : OEx → List Expr → Bool
  | .no, es => es.isEmpty
  | .yes e, es => (match es with
    | [e'] => okE c e e'
    | _ => false)
def okI (c : SC) : Iu → Expr → Expr → Bool
  | .seq a, _, e => okE c a e
  | .rng1 a, _, e => (match e with
    | .Call (.Name x _) [a'] [] _ => (decide (x = "range") && freeB g c.sc x) && (okE c a a' && goodB a')
    | _ => false)
  | .rng2 a b, _, e => (match e with
    | .Call (.Name x _) [a', b'] [] _ => (decide (x = "range") && freeB g c.sc x) && ((okE c a a' && goodB a') && (okE c b b' && goodB b'))
    | _ => false)
  | .zip a b, t, e => (match e with
    | .Call (.Name x _) [a', b'] [] _ => (isTuple t && (decide (x = "zip") && freeB g c.sc x)) && ((okE c a a' && goodB a') && (okE c b b' && goodB b'))
    | _ => false)
  | .enum a, t, e => (match e with
    | .Call (.Name x _) [a'] [] _ => (isTuple t && (decide (x = "enumerate") && freeB g c.sc x)) && (okE c a a' && goodB a')
    | _ => false)
end
/-! ### what good syntax is spared -/
section
variable {e : Expr} {es : List Expr} {env : Env}
theorem good_star (h : goodB e = true) : starEach (e :: es) env = (false, PySem.eval e env) :: starEach es env := by
  cases e <;> first | rfl | (simp [goodB] at h)
theorem good_ix (h : goodB e = true) : PlainIx e := by
  intro o i
  cases e <;> first | rfl | (simp [goodB] at h)
theorem good_behind {op : CmpOp} (h : goodB e = true) : behindInMarks op e = false := by
  cases e <;> first | rfl | (simp [goodB] at h)
theorem good_folded (h : goodB e = true) (x : Value) : foldedSetIterable e env x = pure x := by
  cases e <;> first | rfl | (simp [goodB] at h)
theorem good_last {a b : Expr} {op op' : CmpOp} (h : goodB b = true) : lastMarks [op, op'] [a, b] = false := good_behind h
theorem good_pl {pos : Pos} : ∀ {es : List Expr}, es.all goodB = true → (backTo pos (starEach es env)).any (·.1) = false
  | [], _ => rfl
  | e :: es, h => by
    rw [List.all_cons, Bool.and_eq_true] at h
    rw [good_star h.1]
    have ih := good_pl (pos := pos) h.2
    unfold backTo at ih ⊢
    rw [List.map_cons, List.any_cons, ih]
    rfl
end
theorem base_ok {e : Expr} {nm : Str} {env : Env} {w : Sem Value} (h : baseB e = true) : attributeBase e nm env w = w := by
  unfold attributeBase
  cases e <;> try rfl
  rename_i f as ks p
  cases as with
  | nil => simp [baseB] at h
  | cons a as => cases f <;> cases ks <;> rfl
theorem good_few {cpos : Pos} {env : Env} {es : List Expr} (h : es.all goodB = true) (hl : es.length < 20) :
    ((backTo cpos (starEach es env)).all (fun x => !x.1) && (backToKw cpos (keywordEach [] env)).all (fun x => x.1.isSome) && decide (es.length + ([] : List Keyword).length + (if ([] : List Keyword).isEmpty then 0 else 1) < 30)) = true := by
  have h1 : (backTo cpos (starEach es env)).all (fun x => !x.1) = true := by
    have := good_pl (pos := cpos) (env := env) h
    rw [List.all_eq_not_any_not]
    simp only [Bool.not_not, this]
    rfl
  rw [h1]
  have h2 : decide (es.length + ([] : List Keyword).length + (if ([] : List Keyword).isEmpty then 0 else 1) < 30) = true := decide_eq_true (by simp; omega)
  rw [h2]
  rfl
theorem okEs_good {c : SC} : ∀ {es : Exs} {es' : List Expr}, okEs g c es es' = true → es'.all goodB = true
  | .nil, [], _ => rfl
  | .nil, _ :: _, h => by simp [okEs] at h
  | .cons e r, [], h => by simp [okEs] at h
  | .cons e r, e' :: r', h => by
    simp only [okEs, Bool.and_eq_true] at h
    rw [List.all_cons, h.2.1, okEs_good h.2.2]
    rfl
/-! ### what stands around -/
def spF (K : PySem.W.Frag) (cls : Nat → Addr) (n : Nat) (m : List D → M D) : Sp := fun vs H Q E => vs.length = n ∧ ∃ φ S ds, Ok K cls φ H S ∧ Reps K φ H ds vs ∧ Post K cls (fun cv dx _ H' => E cv dx H') [] φ H (m ds S) (PD K Q)
structure FnAt (cls : Nat → Addr) (F : Nat → List D → M D) (X : Cx) (f : Nat) (x : Str) : Prop where
  ex : ∃ (a : Addr) (fd : FuncData) (ps : List Str) (k : Nat), FnOk X.prog X.w X.K X.mg X.base (L2.CX X.prog X.w) k a fd ps (spF X.K cls ps.length (F f)) ∧ Room k X.A ∧ X.mg x = some (.ref a) ∧ PySem.W.keepIn X.K (.ref a) = true ∧ Binds X.K fd ps [] ∧
    ∀ ds S, ds.length ≠ ps.length → F f ds S = .bad
structure XOk (cls : Nat → Addr) (F : Nat → List D → M D) (c : SC) (W : WX) (X : Cx) : Prop where
  N : X.N = c.N
  nd : X.N.Nodup
  sc : X.env.scope = c.sc
  fn : X.fn = c.fnb
  calm : X.calm = true
  tk : Takes X W
  un : X.A.units + 65 < cLine
  free : ∀ x, g.frees.contains x = true → X.mg x = none ∧ x ≠ "__name__" ∧ (x == ("__debug__" : Str)) = false
  bf : ∀ p, g.bf.contains p = true → X.mg p.1 = some (.builtin p.2) ∧ (p.1 == ("__debug__" : Str)) = false
  const : ∀ p, p ∈ g.consts → ∃ u v, X.mg p.1 = some u ∧ RelV v u ∧ ∀ φ H, Rep X.K φ H p.2 v
  fns : ∀ f x, g.fns[f]? = some x → FnAt cls F X f x
abbrev WF : WX := fun _ _ _ _ => False
theorem takesF {X : Cx} : Takes X WF := fun _ _ ⟨_, _, _, _, _, _, _, _, _, _, _, _, _, _, _, _, w⟩ => w.elim
variable {g}
section
variable {cls : Nat → Addr} {F : Nat → List D → M D} {c : SC} {W : WX} {X : Cx}
theorem XOk.blk (O : XOk g cls F c W X) (scope : Scope) (s : Shared) (H : Hp) (C : Addr) (cl : List (Str × Addr)) (fp : List Addr) :
    XOk g cls F (blkSC c scope) WF (X.blk s H scope (compEnvC scope cl C X.env) fp) where
  N := O.N
  nd := O.nd
  sc := by
    show relabel scope X.env = relS scope c.sc
    rw [← O.sc]
    rfl
  fn := rfl
  calm := O.calm
  tk := takesF
  un := O.un
  free := O.free
  bf := O.bf
  const := O.const
  fns := fun f x e => let ⟨a, fd, ps, k, h⟩ := (O.fns f x e).ex; ⟨a, fd, ps, k, h⟩
theorem XOk.var (O : XOk g cls F c W X) {i : Nat} {x : Str} (h : isVar c i x = true) : X.N[i]? = some x ∧ Vis X.env.scope x ∧ (x == ("__debug__" : Str)) = false ∧ (x == ("__classdict__" : Str)) = false := by
  unfold isVar at h
  simp only [Bool.and_eq_true, decide_eq_true_eq] at h
  rw [O.N, O.sc]
  exact ⟨h.1, visB_ok h.2.1, (plainB_ok h.2.2).1, (plainB_ok h.2.2).2.1⟩
theorem XOk.tgt (O : XOk g cls F c W X) {i : Nat} {x : Str} (h : isTgt c i x = true) : X.N[i]? = some x ∧ Loc X.env.scope x ∧ (X.fn x = true ∨ X.env.scope.names.lookup x = some .local) := by
  unfold isTgt at h
  simp only [Bool.and_eq_true, Bool.or_eq_true, decide_eq_true_eq] at h
  rw [O.N, O.sc, O.fn]
  exact ⟨h.1, locB_ok h.2.1, h.2.2⟩
theorem XOk.tgts (O : XOk g cls F c W X) : ∀ {is : List Nat} {es : List Expr}, okTgs c is es = true → Names' X is es
  | [], [], _ => .nil
  | [], _ :: _, h => by simp [okTgs] at h
  | _ :: _, [], h => by simp [okTgs] at h
  | i :: is, e :: es, h => by
    unfold okTgs at h
    rw [Bool.and_eq_true] at h
    obtain ⟨h1, h2⟩ := h
    split at h1
    · obtain ⟨a, b, d⟩ := O.tgt h1
      exact .cons a b d (O.tgts h2)
    · cases h1
theorem XOk.pg (O : XOk g cls F c W X) {tg : Tg} {e : Expr} (h : okTg c tg e = true) : PG X e (tG X.K cls tg) := by
  cases tg with
  | nm i =>
    unfold okTg at h
    dsimp only at h
    split at h
    · obtain ⟨a, b, d⟩ := O.tgt h
      exact pg_nm O.nd a b d
    · cases h
  | tp is =>
    unfold okTg at h
    dsimp only at h
    split at h
    · exact pg_tp O.nd O.calm (O.tgts h)
    · cases h
theorem XOk.gl (O : XOk g cls F c W X) {x : Str} (h : glB c.sc x = true) : Gl X x := glB_ok (by rw [O.sc]; exact h)
end
/-! ### steps -/
section
variable {K : PySem.W.Frag} {cls : Nat → Addr} {W : WX} {σ : St} {φ : List Addr} {H : Hp} {S : Store} {env : Env'} {β : Type} {P : β → Store → List Addr → Hp → Prop}
theorem Rep.later {φ1 : List Addr} {H1 : Hp} {d : D} {v : V} (h : Rep K φ H d v) (l : Le φ H φ1 H1) : Rep K φ1 H1 d v := Rep.mono l d v h
theorem Reps.later {φ1 : List Addr} {H1 : Hp} {d : List D} {v : List V} (h : Reps K φ H d v) (l : Le φ H φ1 H1) : Reps K φ1 H1 d v := Reps.mono l d v h
theorem tE.mono {m : Env' → M D} {Q Q' : VK} (h : tE K cls W m σ H Q) (i : ∀ v H', Q v H' → Q' v H') : tE K cls W m σ H Q' :=
  let ⟨φ, S, env, e, o, p⟩ := h
  ⟨φ, S, env, e, o, p.imp fun _ _ _ _ _ _ q v r => i _ _ (q v r)⟩
theorem tT.mono {m : Env' → M Bool} {Q Q' : Bool → Hp → Prop} (h : tT K cls W m σ H Q) (i : ∀ v H', Q v H' → Q' v H') : tT K cls W m σ H Q' :=
  let ⟨φ, S, env, e, o, p⟩ := h
  ⟨φ, S, env, e, o, p.imp fun _ _ _ _ _ _ q => i _ _ q⟩
theorem tA.mono {m : Env' → M (List D)} {Q Q' : List V → Hp → Prop} (h : tA K cls W m σ H Q) (i : ∀ v H', Q v H' → Q' v H') : tA K cls W m σ H Q' :=
  let ⟨φ, S, env, e, o, p⟩ := h
  ⟨φ, S, env, e, o, p.imp fun _ _ _ _ _ _ q v r => i _ _ (q v r)⟩
theorem tO.mono {m : Env' → M (Option Int)} {Q Q' : Option Int → Hp → Prop} (h : tO K cls W m σ H Q) (i : ∀ v H', Q v H' → Q' v H') : tO K cls W m σ H Q' :=
  let ⟨φ, S, env, e, o, p⟩ := h
  ⟨φ, S, env, e, o, p.imp fun _ _ _ _ _ _ q => i _ _ q⟩
theorem stepE {m : Env' → M D} {k : D → Store → R β} (e : EnvRep K φ H env σ) (o : Ok K cls φ H S) (h : Post K cls W σ φ H ((m env S).bind k) P) :
    tE K cls W m σ H (fun v H1 => ∃ φ1 S1 d, Le φ H φ1 H1 ∧ Ok K cls φ1 H1 S1 ∧ Rep K φ1 H1 d v ∧ Post K cls W σ φ1 H1 (k d S1) P) :=
  ⟨φ, S, env, e, o, (Post.bind h).imp fun d S1 φ1 H1 l o p v r => ⟨φ1, S1, d, l, o, r, p⟩⟩
theorem stepT {m : Env' → M Bool} {k : Bool → Store → R β} (e : EnvRep K φ H env σ) (o : Ok K cls φ H S) (h : Post K cls W σ φ H ((m env S).bind k) P) :
    tT K cls W m σ H (fun b H1 => ∃ φ1 S1, Le φ H φ1 H1 ∧ Ok K cls φ1 H1 S1 ∧ Post K cls W σ φ1 H1 (k b S1) P) :=
  ⟨φ, S, env, e, o, (Post.bind h).imp fun d S1 φ1 H1 l o p => ⟨φ1, S1, l, o, p⟩⟩
theorem stepA {m : Env' → M (List D)} {k : List D → Store → R β} (e : EnvRep K φ H env σ) (o : Ok K cls φ H S) (h : Post K cls W σ φ H ((m env S).bind k) P) :
    tA K cls W m σ H (fun vs H1 => ∃ φ1 S1 ds, Le φ H φ1 H1 ∧ Ok K cls φ1 H1 S1 ∧ Reps K φ1 H1 ds vs ∧ Post K cls W σ φ1 H1 (k ds S1) P) :=
  ⟨φ, S, env, e, o, (Post.bind h).imp fun d S1 φ1 H1 l o p v r => ⟨φ1, S1, d, l, o, r, p⟩⟩
theorem stepO {m : Env' → M (Option Int)} {k : Option Int → Store → R β} (e : EnvRep K φ H env σ) (o : Ok K cls φ H S) (h : Post K cls W σ φ H ((m env S).bind k) P) :
    tO K cls W m σ H (fun b H1 => ∃ φ1 S1, Le φ H φ1 H1 ∧ Ok K cls φ1 H1 S1 ∧ Post K cls W σ φ1 H1 (k b S1) P) :=
  ⟨φ, S, env, e, o, (Post.bind h).imp fun d S1 φ1 H1 l o p => ⟨φ1, S1, l, o, p⟩⟩
end
end PyI
/-! PyiF: expressions are sound. -/
namespace PyI
open PySem L2
variable {g : GT} {cls : Nat → Addr} {F : Nat → List D → M D}
section
variable {X : Cx} {W : WX} {e : Expr}
theorem constPE {v : V} {d : D} (h : PE X e (tC v)) (r : ∀ φ H, Rep X.K φ H d v) : PE X e (tE X.K cls W (fun _ S => .ok d S)) :=
  PE.imp h fun _ _ _ ⟨_, _, _, _, o, p⟩ => p.ok o v (r _ _)
theorem tE_congr {K : PySem.W.Frag} {W : WX} {m m' : Env' → M D} {σ : St} {H : Hp} {Q : VK} (i : ∀ env S, m env S = m' env S) (h : tE K cls W m σ H Q) : tE K cls W m' σ H Q :=
  let ⟨φ, S, env, e, o, p⟩ := h
  ⟨φ, S, env, e, o, by rw [← i]; exact p⟩
theorem tT_congr {K : PySem.W.Frag} {W : WX} {m m' : Env' → M Bool} {σ : St} {H : Hp} {Q : Bool → Hp → Prop} (i : ∀ env S, m env S = m' env S) (h : tT K cls W m σ H Q) : tT K cls W m' σ H Q :=
  let ⟨φ, S, env, e, o, p⟩ := h
  ⟨φ, S, env, e, o, by rw [← i]; exact p⟩
theorem nox_post {K : PySem.W.Frag} {W W' : WX} {σ σ' : St} {φ : List Addr} {H : Hp} {α : Type} {r : R α} {P : α → Store → List Addr → Hp → Prop} (h : Post K cls W σ φ H (nox r) P) : Post K cls W' σ' φ H r P := by
  cases r with
  | ok a S => exact h
  | exc x S => exact h.elim
  | bad => exact h
/-- the reading of a comprehension -/
theorem lc_reads {K : PySem.W.Frag} {W : WX} {σ : St} {own : List (Str × Nat)} {tg : Tg} {msrc : Env' → M Src} {mt : Env' → M Bool} {me : Env' → M D} (ho : tgIn own tg = true) {H : Hp} {Q : VK}
    (h : tE K cls W (fun env S => (msrc env S).bind fun s S => nox (lcL s.deps (fun d S => (assign tg d (wipeE env (own.map (·.2))) S).bind fun env2 S =>
      (mt env2 S).bind fun k S => if k = true then (me env2 S).bind fun x S => .ok (some x) S else .ok none S) s.items [] S)) σ H Q) :
    tLc (tI K cls W msrc) (tG K cls tg) (tT K cls WF mt) (tE K cls WF me) (own.map (·.2)) σ H Q := by
  obtain ⟨φ, S, env, e, o, p⟩ := h
  refine ⟨φ, S, env, e, o, (Post.bind p).imp fun s S1 φ1 H1 l1 o1 p1 J fd D0 hD => ?_⟩
  have hs : ∀ i ∈ tgSlots tg, i ∈ own.map (·.2) := by
    intro i hi
    cases tg with
    | nm j =>
      rw [List.mem_singleton.mp hi]
      exact List.contains_iff_mem.mp ho
    | tp is =>
      have := List.all_eq_true.mp ho i hi
      exact List.contains_iff_mem.mp this
  have e1 := e.mono l1
  have nD := o1.fresh hD
  have p2 := nox_post (W' := WF) (σ' := σ) p1
  -- the invariant: the list at D0 holds what is made so far
  refine ⟨fun i m Hc => m = s.items.length - i ∧ i ≤ s.items.length ∧ ∃ (φc : List Addr) (Sc : Store) (acc : List D) (xs : List V), Le φ1 H1 φc Hc ∧ Ok K cls φc Hc Sc ∧ Hc D0 = some (.lst xs) ∧ D0 ∉ φc ∧ Reps K φc Hc acc xs ∧ EnvRep K φc Hc env σ ∧
      Post K cls WF σ φ1 H1 (lcL s.deps (fun d S => (assign tg d (wipeE env (own.map (·.2))) S).bind fun env2 S =>
        (mt env2 S).bind fun k S => if k = true then (me env2 S).bind fun x S => .ok (some x) S else .ok none S) (s.items.drop i) acc Sc) (PD K Q),
    ⟨s.items.length, by simp, Nat.zero_le _, φ1, S1, [], [], le_new hD, o1.new hD, upd_same, nD, .nil, (e.mono l1).mono (le_new hD), by rw [List.drop_zero]; exact p2⟩, ?_⟩
  rintro i m Hc ⟨rfl, hi, φc, Sc, acc, xs, lc, oc, hc, nc, rc, ec, pc⟩
  by_cases hlt : i < s.items.length
  · rw [List.drop_eq_getElem_cons hlt] at pc
    unfold lcL at pc
    by_cases hd : depsOk Sc s.deps = true
    · rw [if_pos hd] at pc
      have gi : s.items[i]? = some s.items[i] := List.getElem?_eq_getElem hlt
      have pf := fd.item φc Hc Sc i _ lc oc hd gi
      refine .inr ⟨pf.1, fun H' => ∃ (φc : List Addr) (Sc : Store) (acc : List D) (xs : List V), Le φ1 H1 φc H' ∧ Ok K cls φc H' Sc ∧ H' D0 = some (.lst xs) ∧ D0 ∉ φc ∧ Reps K φc H' acc xs ∧ EnvRep K φc H' env σ ∧
          Post K cls WF σ φ1 H1 (lcL s.deps (fun d S => (assign tg d (wipeE env (own.map (·.2))) S).bind fun env2 S =>
            (mt env2 S).bind fun k S => if k = true then (me env2 S).bind fun x S => .ok (some x) S else .ok none S) (s.items.drop (i + 1)) acc Sc) (PD K Q),
        fun H' z => ⟨s.items.length - (i + 1), by omega, rfl, hlt, z⟩, fun x H' y => ?_⟩
      obtain ⟨l3, o3, r3⟩ := pf.2 x H' y
      rw [R.bind_assoc] at pc
      have nc3 := (l3.out hc nc)
      -- the target
      have pa := Post.bindB (φ := φc) (H := H') (σ := σ) (lc.trans l3) pc
      refine ⟨WF, σ, φc, Sc, wipeE env (own.map (·.2)), s.items[i], (ec.mono l3).wipe _, o3, r3, pa.imp fun env2 S2 φ2 H2 l2 o2 p2 es2 ep2 eh2 σ2 e2 bt => ?_⟩
      subst es2 ep2 eh2
      refine ⟨wipe_but bt hs, ?_⟩
      -- the test
      rw [R.bind_assoc] at p2
      have lcc := lc.trans l3
      refine ⟨φ2, S2, env2, e2, o2, (Post.bindB (σ := σ) lcc p2).imp fun b S4 φ4 H4 l4 o4 p4 => ?_⟩
      have nc4 := l4.out nc3.1 nc3.2
      cases b with
      | false =>
        exact ⟨φ4, S4, acc, xs, lcc.trans l4, o4, nc4.1, nc4.2, (rc.later l3).later l4, (ec.mono l3).mono l4, p4⟩
      | true =>
        rw [if_pos rfl, R.bind_assoc] at p4
        refine ⟨φ4, S4, env2, e2.mono l4, o4, (Post.bindB (σ := σ) (lcc.trans l4) p4).imp fun d S5 φ5 H5 l5 o5 p5 v r5 => ?_⟩
        have nc5 := l5.out nc4.1 nc4.2
        rw [R.bind_ok] at p5
        dsimp only at p5
        by_cases hz : acc.length < sizeLine
        · rw [if_pos hz] at p5
          refine ⟨xs, nc5.1, by rw [rc.length]; exact hz, φ5, S5, acc ++ [d], xs ++ [v], le_over ((lcc.trans l4).trans l5) hD, o5.over nc5.1 rfl nc5.2, upd_same, nc5.2, ?_, ?_, p5⟩
          · exact Reps.kp (kp_upd nc5.1 rfl) _ _ (((((rc.later l3).later l4).later l5)).append (.one r5))
          · exact (((ec.mono l3).mono l4).mono l5).kp (kp_upd nc5.1 rfl)
        · rw [if_neg hz] at p5
          exact p5.elim
    · rw [if_neg hd] at pc
      exact pc.elim
  · have ei : i = s.items.length := by omega
    subst ei
    rw [List.drop_length] at pc
    unfold lcL at pc
    by_cases hd : depsOk Sc s.deps = true
    · rw [if_pos hd] at pc
      refine .inl ⟨fd.done φc Hc Sc lc oc hd, ?_⟩
      refine pc (φc ++ [D0]) Hc (le_adopt lc hD nD) (oc.adopt hc rfl nc ⟨xs, hc, Reps.kp (kp_adopt hc rfl) _ _ rc⟩) (.ref D0) (rep_obj.mpr ⟨D0, rfl, ?_⟩)
      rw [← oc.len, List.getElem?_append_right (Nat.le_refl _)]
      simp
    · rw [if_neg hd] at pc
      exact pc.elim
end
theorem bn_frees {sc : Scope} {b : Bn} {x : Str} (h : bnB g sc b x = true) : x = b.name ∧ glB sc x = true ∧ (match b.kind with
  | .fn _ => g.frees.contains x = true
  | .ty _ => g.frees.contains x = true
  | .imp id => g.bf.contains (x, id) = true) := by
  unfold bnB at h
  simp only [Bool.and_eq_true, decide_eq_true_eq] at h
  refine ⟨h.1, h.2.1, ?_⟩
  have := h.2.2
  cases b <;> exact this
theorem free_ok {c : SC} {W : WX} {X : Cx} (O : XOk g cls F c W X) {x : Str} (h : freeB g c.sc x = true) : Gl X x ∧ X.mg x = none ∧ x ≠ "__name__" ∧ (x == ("__debug__" : Str)) = false := by
  unfold freeB at h
  rw [Bool.and_eq_true] at h
  exact ⟨O.gl h.1, O.free x h.2⟩
/-- a built-in function's call -/
theorem pe_blt {c : SC} {W : WX} {X : Cx} (O : XOk g cls F c W X) {b : Bn} {x : Str} {a : Expr} {as : List Expr} {p pos : Pos} {t : TA} (hb : bnB g c.sc b x = true) (hg : (a :: as).all goodB = true) (ha : PA X (a :: as) t) :
    PE X (.Call (.Name x p) (a :: as) [] pos) (tCB (rOfL X.K cls (bltD b)) t) := by
  obtain ⟨e, gl, k⟩ := bn_frees hb
  have hx := O.gl gl
  rw [List.all_cons, Bool.and_eq_true] at hg
  have hs : starEach (a :: as) X.env = _ := good_star hg.1
  have hp := good_pl (pos := pos) (env := X.env) hg.2
  cases b with
  | len =>
    obtain ⟨z1, z2, z3⟩ := O.free x k
    subst e
    exact pe_callB lenR hx z1 (by decide +kernel) ha z2 z3 hs hp
  | abs =>
    obtain ⟨z1, z2, z3⟩ := O.free x k
    subst e
    exact pe_callB absR hx z1 (by decide +kernel) ha z2 z3 hs hp
  | int =>
    obtain ⟨z1, z2, z3⟩ := O.free x k
    subst e
    exact pe_callTy intR hx z1 (by decide +kernel) ha z2 z3 hs hp
  | list =>
    obtain ⟨z1, z2, z3⟩ := O.free x k
    subst e
    exact pe_callTy listR hx z1 (by decide +kernel) ha z2 z3 hs hp
  | tuple =>
    obtain ⟨z1, z2, z3⟩ := O.free x k
    subst e
    exact pe_callTy tupleR hx z1 (by decide +kernel) ha z2 z3 hs hp
  | gcd =>
    obtain ⟨z1, z3⟩ := O.bf (x, _) k
    exact pe_callBfun gcdR hx z1 ha z3 hs hp
  | lcm =>
    obtain ⟨z1, z3⟩ := O.bf (x, _) k
    exact pe_callBfun lcmR hx z1 ha z3 hs hp
/-- a def's call -/
theorem pe_fn {c : SC} {W : WX} {X : Cx} (O : XOk g cls F c W X) {f : Nat} {x : Str} {a : Expr} {as : List Expr} {p pos : Pos} {m : Env' → M (List D)} (hf : g.fns[f]? = some x) (gl : glB c.sc x = true) (hpl : plainB x = true) (hg : (a :: as).all goodB = true) (ha : PA X (a :: as) (tA X.K cls W m)) :
    PE X (.Call (.Name x p) (a :: as) [] pos) (tE X.K cls W fun env S => (m env S).bind fun ds S => F f ds S) := by
  obtain ⟨A, fd, ps, k, ok, hr, hm, hk, hb, ar⟩ := (O.fns f x hf).ex
  rw [List.all_cons, Bool.and_eq_true] at hg
  refine PE.imp (pe_callSD (E := WE W) (dvs := []) ok hr (O.gl gl) hm hk hb .nil (fun σ => passAt O.tk σ) ha (plainB_ok hpl).1 (good_star hg.1) (good_pl hg.2)) ?_
  rintro σ H Q ⟨φ, S, env, e, o, h⟩
  refine (stepA e o h).mono fun vs H1 ⟨φ1, S1, ds, l1, o1, r1, p1⟩ => ?_
  rw [List.append_nil]
  have hl : ds.length = ps.length := by
    by_cases z : ds.length = ps.length
    · exact z
    · rw [ar ds S1 z] at p1
      exact p1.elim
  refine ⟨by rw [r1.length, hl], φ1, S1, ds, o1, r1, ?_⟩
  generalize F f ds S1 = r at p1
  cases r with
  | ok d S' => exact p1
  | exc x S' => exact p1
  | bad => exact p1
theorem truthOf {X : Cx} {W : WX} {e : Expr} {m : Env' → M D} (h : PE X e (tE X.K cls W m)) (he : ∀ whole, isTrue e X.env whole = (do let v ← whole; standAt e.pos; holding [v] (truthy v))) :
    PT X e (tT X.K cls W fun env S => (m env S).bind fun d S => truD d S) := by
  refine PT.imp (pt_truth h he) ?_
  rintro σ H Q ⟨φ, S, env, e, o, p⟩
  exact (stepE e o p).mono fun v H1 ⟨φ1, S1, d, l1, o1, r1, p1⟩ => rTru_of ⟨W, σ, φ1, S1, d, o1, r1, p1⟩
theorem isiPE {c : SC} {W : WX} {X : Cx} (O : XOk g cls F c W X) {a : Expr} {x y : Str} {p q pos : Pos} {t : Ty} {m : Env' → M D} (hx : x = "isinstance" ∧ freeB g c.sc x = true) (hy : y = Str.ofString t.name ∧ freeB g c.sc y = true) (hg : goodB a = true) (ha : PE X a (tE X.K cls W m)) :
    PE X (.Call (.Name x p) [a, .Name y q] [] pos) (tE X.K cls W fun env S => (m env S).bind fun d S => match isiD S d t with
      | some k => .ok (.bl k) S
      | none => .bad) := by
  obtain ⟨h1, h2, h3, h4⟩ := free_ok O hx.2
  obtain ⟨k1, k2, k3, k4⟩ := free_ok O hy.2
  have bt : bootBuiltins y = some (.type t.name) := by rw [hy.1]; cases t <;> decide +kernel
  have bi : bootBuiltins x = some (.builtin "isinstance") := by rw [hx.1]; decide +kernel
  refine PE.imp (pe_callB call_isi h1 h2 bi (pa_cons ha (pa_cons (pe_bltn (v := .ty t.name) k1 k2 bt rfl k3 k4) pa_nil rfl) (good_star hg)) h3 h4 (good_star hg) (good_pl (by rfl))) ?_
  rintro σ H Q ⟨φ, S, env, e, o, h⟩
  refine (stepE e o h).mono fun v H1 ⟨φ1, S1, d, l1, o1, r1, p1⟩ => ?_
  cases hi : isiD S1 d t with
  | none => rw [hi] at p1; exact p1.elim
  | some k =>
    rw [hi] at p1
    obtain ⟨tv, ty, kit⟩ := isi_ok o1 r1 hi
    exact ⟨v, .ty t.name, tv, .type t.name, k, rfl, .ty _, ty, kit, post_val o1 (rep_bl.mpr rfl) p1⟩
theorem isTy_ok {K : PySem.W.Frag} {φ : List Addr} {H : Hp} {S : Store} {d : D} {v : V} {m : Mn} (k : Ok K cls φ H S) (r : Rep K φ H d v) (h : m.isTy S d = true) : tyV K "list" v H := by
  cases m
  cases d <;> try (simp [Mn.isTy] at h; done)
  obtain ⟨a, rfl, t⟩ := rep_obj.mp r
  unfold Mn.isTy at h
  try dsimp only at h
  split at h
  · rename_i ds he
    obtain ⟨xs, h1, _⟩ := k.lst t he
    exact .inl ⟨rfl, xs, .inl (.inl h1)⟩
  · cases h
mutual
theorem peE : ∀ (ex : Ex) {c : SC} {W : WX} {X : Cx} {e : Expr}, okE g c ex e = true → XOk g cls F c W X → PE X e (tE X.K cls W (eval F ex))
  | .var i, c, W, X, e, h, O => by
    unfold okE at h
    try dsimp only at h
    split at h
    · obtain ⟨a, b, d, f⟩ := O.var h
      refine PE.imp (pe_var a b d f) ?_
      rintro σ H Q ⟨φ, S, env, e, o, p⟩
      unfold eval at p
      try dsimp only at p
      split at p
      · rename_i d hd
        obtain ⟨v, e1, r⟩ := e.2 _ _ hd
        exact ⟨v, e1, p.ok o v r⟩
      · exact p.elim
    · cases h
  | .int i, c, W, X, e, h, O => by
    unfold okE at h
    try dsimp only at h
    split at h
    · have := of_decide_eq_true h
      subst this
      exact constPE pe_int fun _ _ => rep_int.mpr rfl
    · cases h
  | .bl b, c, W, X, e, h, O => by
    unfold okE at h
    try dsimp only at h
    split at h
    · have := beq_iff_eq.mp h
      subst this
      exact constPE pe_bl fun _ _ => rep_bl.mpr rfl
    · cases h
  | .non, c, W, X, e, h, O => by
    unfold okE at h
    try dsimp only at h
    split at h
    · exact constPE pe_non fun _ _ => rep_non.mpr rfl
    · cases h
  | .str x, c, W, X, e, h, O => by
    unfold okE at h
    try dsimp only at h
    split at h
    · have := of_decide_eq_true h
      subst this
      exact constPE pe_str fun _ _ => rep_str.mpr rfl
    · cases h
  | .glob x d, c, W, X, e, h, O => by
    unfold okE at h
    try dsimp only at h
    split at h
    · rename_i y pos
      simp only [Bool.and_eq_true, decide_eq_true_eq, List.any_eq_true] at h
      obtain ⟨rfl, gl, pl, p, hp, e1, e2⟩ := h
      obtain ⟨u, v, m, r, rep⟩ := O.const p hp
      rw [e1] at m
      rw [beqD_eq _ _ e2] at rep
      exact constPE (pe_glob (O.gl gl) m r (plainB_ok pl).1) rep
    · cases h
  | .bin op a b, c, W, X, e, h, O => by
    unfold okE at h
    try dsimp only at h
    split at h
    · simp only [Bool.and_eq_true] at h
      obtain ⟨h0, h1, h2⟩ := h
      have := eq_of_beq h0
      subst this
      refine PE.imp (pe_op (binR (cls := cls) _) (peE a h1 O) (peE b h2 O)) ?_
      rintro σ H Q ⟨φ, S, env, e, o, p⟩
      unfold eval at p
      exact (stepE e o p).mono fun x H1 ⟨φ1, S1, d1, l1, o1, r1, p1⟩ => (stepE (e.mono l1) o1 p1).mono fun y H2 ⟨φ2, S2, d2, l2, o2, r2, p2⟩ => ⟨W, σ, φ2, S2, d1, d2, o2, r1.later l2, r2, p2⟩
    · cases h
  | .neg a, c, W, X, e, h, O => by
    unfold okE at h
    try dsimp only at h
    split at h
    · refine PE.imp (pe_un (negR (cls := cls)) (peE a h O)) ?_
      rintro σ H Q ⟨φ, S, env, e, o, p⟩
      unfold eval at p
      exact (stepE e o p).mono fun x H1 ⟨φ1, S1, d1, l1, o1, r1, p1⟩ => ⟨W, σ, φ1, S1, d1, o1, r1, p1⟩
    · cases h
  | .cmp op a b, c, W, X, e, h, O => by
    unfold okE at h
    try dsimp only at h
    split at h
    · simp only [Bool.and_eq_true] at h
      obtain ⟨h0, h1, h2, h3⟩ := h
      have := eq_of_beq h0
      subst this
      refine PE.imp (pe_cmpR (cmpR (cls := cls) O.un _) (peE a h1 O) (peE b h2 O) (good_behind h3)) ?_
      rintro σ H Q ⟨φ, S, env, e, o, p⟩
      unfold eval at p
      exact (stepE e o p).mono fun x H1 ⟨φ1, S1, d1, l1, o1, r1, p1⟩ => (stepE (e.mono l1) o1 p1).mono fun y H2 ⟨φ2, S2, d2, l2, o2, r2, p2⟩ => ⟨W, σ, φ2, S2, d1, d2, o2, r1.later l2, r2, p2⟩
    · cases h
  | .chain op op2 a b d, c, W, X, e, h, O => by
    unfold okE at h
    try dsimp only at h
    split at h
    · simp only [Bool.and_eq_true] at h
      obtain ⟨⟨h0, h0'⟩, h1, h2, h3, h4⟩ := h
      have := eq_of_beq h0
      subst this
      have := eq_of_beq h0'
      subst this
      refine PE.imp (pe_chain (cmpR (cls := cls) O.un _) (cmpR (cls := cls) O.un _) (peE a h1 O) (peE b h2 O) (peE d h3 O) (good_last h4)) ?_
      rintro σ H Q ⟨φ, S, env, e, o, p⟩
      unfold eval at p
      refine (stepE e o p).mono fun x H1 ⟨φ1, S1, d1, l1, o1, r1, p1⟩ => (stepE (e.mono l1) o1 p1).mono fun y H2 ⟨φ2, S2, d2, l2, o2, r2, p2⟩ => ?_
      refine ⟨W, σ, φ2, S2, d1, d2, o2, r1.later l2, r2, ?_⟩
      show Post X.K cls W σ φ2 H2 ((cmpD _ d1 d2 S2).bind _) _
      generalize cmpD _ d1 d2 S2 = rr at p2 ⊢
      cases rr with
      | exc x S => exact p2
      | bad => exact p2
      | ok k S3 =>
        intro φ3 H3 l3 o3 v rv
        rw [rep_bl] at rv
        subst rv
        refine ⟨k, rfl, ?_⟩
        rw [R.bind_ok] at p2
        have p3 := p2.later l3
        cases k with
        | false => exact post_val o3 (rep_bl.mpr rfl) p3
        | true =>
          rw [if_pos rfl] at p3 ⊢
          exact (stepE ((e.mono (l1.trans l2)).mono l3) o3 p3).mono fun w H4 ⟨φ4, S4, d4, l4, o4, r4, p4⟩ => ⟨W, σ, φ4, S4, d2, d4, o4, (r2.later l3).later l4, r4, p4⟩
    · cases h
  | .and a b, c, W, X, e, h, O => by
    unfold okE at h
    try dsimp only at h
    split at h
    · simp only [Bool.and_eq_true] at h
      refine PE.imp (pe_and (peE a h.1 O) (peE b h.2 O)) ?_
      rintro σ H Q ⟨φ, S, env, e, o, p⟩
      unfold eval at p
      refine (stepE e o p).mono fun x H1 ⟨φ1, S1, d1, l1, o1, r1, p1⟩ => ?_
      cases d1 <;> try exact p1.elim
      rename_i k
      rw [rep_bl] at r1
      subst r1
      refine ⟨k, rfl, ?_⟩
      cases k with
      | false => exact post_val o1 (rep_bl.mpr rfl) p1
      | true => exact ⟨φ1, S1, env, e.mono l1, o1, p1⟩
    · cases h
  | .or a b, c, W, X, e, h, O => by
    unfold okE at h
    try dsimp only at h
    split at h
    · simp only [Bool.and_eq_true] at h
      refine PE.imp (pe_or (peE a h.1 O) (peE b h.2 O)) ?_
      rintro σ H Q ⟨φ, S, env, e, o, p⟩
      unfold eval at p
      refine (stepE e o p).mono fun x H1 ⟨φ1, S1, d1, l1, o1, r1, p1⟩ => ?_
      cases d1 <;> try exact p1.elim
      rename_i k
      rw [rep_bl] at r1
      subst r1
      refine ⟨k, rfl, ?_⟩
      cases k with
      | true => exact post_val o1 (rep_bl.mpr rfl) p1
      | false => exact ⟨φ1, S1, env, e.mono l1, o1, p1⟩
    · cases h
  | .one a, c, W, X, e, h, O => by
    unfold okE at h
    try dsimp only at h
    split at h
    · exact PE.imp (pe_one (peE a h O)) fun σ H Q q => tE_congr (fun env S => by rw [eval]) q
    · cases h
  | .not a, c, W, X, e, h, O => by
    unfold okE at h
    try dsimp only at h
    split at h
    · refine PE.imp (pe_not (peE a h O)) ?_
      rintro σ H Q ⟨φ, S, env, e, o, p⟩
      unfold eval at p
      refine (stepE e o p).mono fun x H1 ⟨φ1, S1, d1, l1, o1, r1, p1⟩ => ?_
      cases d1 <;> try exact p1.elim
      rename_i k
      rw [rep_bl] at r1
      subst r1
      exact ⟨k, rfl, post_val o1 (rep_bl.mpr rfl) p1⟩
    · cases h
  | .ite t a b, c, W, X, e, h, O => by
    unfold okE at h
    try dsimp only at h
    split at h
    · simp only [Bool.and_eq_true] at h
      refine PE.imp (pe_ifExp (ptE t h.1 O) (peE a h.2.1 O) (peE b h.2.2 O)) ?_
      rintro σ H Q ⟨φ, S, env, e, o, p⟩
      unfold eval at p
      refine (stepT e o p).mono fun k H1 ⟨φ1, S1, l1, o1, p1⟩ => ?_
      cases k with
      | false => exact ⟨φ1, S1, env, e.mono l1, o1, p1⟩
      | true => exact ⟨φ1, S1, env, e.mono l1, o1, p1⟩
    · cases h
  | .tup es, c, W, X, e, h, O => by
    unfold okE at h
    try dsimp only at h
    split at h
    · refine PE.imp (pe_tup (paE es h O)) ?_
      rintro σ H Q ⟨φ, S, env, e, o, p⟩
      unfold eval at p
      refine (stepA e o p).mono fun vs H1 ⟨φ1, S1, ds, l1, o1, r1, p1⟩ => ?_
      split at p1
      · rename_i hl
        exact ⟨by rw [r1.length]; exact hl, fun q hq => post_tup o1 r1 hq p1⟩
      · exact p1.elim
    · cases h
  | .lst es, c, W, X, e, h, O => by
    unfold okE at h
    try dsimp only at h
    split at h
    · refine PE.imp (pe_lst (paE es h O)) ?_
      rintro σ H Q ⟨φ, S, env, e, o, p⟩
      unfold eval at p
      refine (stepA e o p).mono fun vs H1 ⟨φ1, S1, ds, l1, o1, r1, p1⟩ => ?_
      split at p1
      · rename_i hl
        exact ⟨by rw [r1.length]; exact hl, fun q hq => post_alloc o1 r1 hq p1⟩
      · exact p1.elim
    · cases h
  | .ix a b, c, W, X, e, h, O => by
    unfold okE at h
    try dsimp only at h
    split at h
    · simp only [Bool.and_eq_true] at h
      obtain ⟨h1, h2, h3⟩ := h
      refine PE.imp (pe_ix (ixR (cls := cls)) (peE a h1 O) (peE b h2 O) (good_ix h3)) ?_
      rintro σ H Q ⟨φ, S, env, e, o, p⟩
      unfold eval at p
      exact (stepE e o p).mono fun x H1 ⟨φ1, S1, d1, l1, o1, r1, p1⟩ => (stepE (e.mono l1) o1 p1).mono fun y H2 ⟨φ2, S2, d2, l2, o2, r2, p2⟩ => ⟨W, σ, φ2, S2, d1, d2, o2, r1.later l2, r2, p2⟩
    · cases h
  | .sl a lo hi, c, W, X, e, h, O => by
    unfold okE at h
    try dsimp only at h
    split at h
    · simp only [Bool.and_eq_true] at h
      obtain ⟨h1, h2, h3⟩ := h
      refine PE.imp (pe_slice (slR (cls := cls)) (peE a h1 O) (poE lo h2 O) (poE hi h3 O)) ?_
      rintro σ H Q ⟨φ, S, env, e, o, p⟩
      unfold eval at p
      exact (stepE e o p).mono fun x H1 ⟨φ1, S1, d1, l1, o1, r1, p1⟩ => (stepO (e.mono l1) o1 p1).mono fun y H2 ⟨φ2, S2, l2, o2, p2⟩ =>
        (stepO ((e.mono l1).mono l2) o2 p2).mono fun z H3 ⟨φ3, S3, l3, o3, p3⟩ => ⟨W, σ, φ3, S3, d1, o3, (r1.later l2).later l3, p3⟩
    · cases h
  | .call f es, c, W, X, e, h, O => by
    unfold okE at h
    try dsimp only at h
    split at h
    · simp only [Bool.and_eq_true, decide_eq_true_eq] at h
      obtain ⟨⟨h0, h1, h2⟩, h3, h4⟩ := h
      rename_i x p as pos
      cases as with
      | nil => simp at h4
      | cons a as =>
        exact pe_fn O h0 h1 h2 (okEs_good (g := g) h3) (paE es h3 O)
    · cases h
  | .blt b es, c, W, X, e, h, O => by
    unfold okE at h
    try dsimp only at h
    split at h
    · simp only [Bool.and_eq_true] at h
      obtain ⟨h1, h3, h4⟩ := h
      rename_i x p as pos
      cases as with
      | nil => simp at h4
      | cons a as =>
        refine PE.imp (pe_blt O h1 (okEs_good (g := g) h3) (paE es h3 O)) ?_
        rintro σ H Q ⟨φ, S, env, e, o, p⟩
        unfold eval at p
        exact (stepA e o p).mono fun vs H1 ⟨φ1, S1, ds, l1, o1, r1, p1⟩ => ⟨W, σ, φ1, S1, ds, o1, r1, p1⟩
    · cases h
  | .isi a t, c, W, X, e, h, O => by
    unfold okE at h
    try dsimp only at h
    split at h
    · simp only [Bool.and_eq_true, decide_eq_true_eq] at h
      obtain ⟨⟨h1, h2, h3, h4⟩, h5, h6⟩ := h
      exact isiPE O ⟨h1, h2⟩ ⟨h3, h4⟩ h6 (peE a h5 O)
    · cases h
  | .lc own tg it cond el, c, W, X, e, h, O => by
    unfold okE at h
    try dsimp only at h
    split at h
    · simp only [Bool.and_eq_true] at h
      obtain ⟨⟨h0, h1, h2⟩, ⟨h3, h4, h5⟩, h6, h7⟩ := h
      have := eq_of_beq h0
      subst this
      refine PE.imp (pe_lc (own := own) (wi := tI X.K cls W (src F it)) (g := tG X.K cls tg) (tt := tT X.K cls WF (tests F cond)) (te := tE X.K cls WF (eval F el)) O.calm O.nd (piE it h3 O) (by rw [O.N, O.sc]; exact blkOk_by h1) (fun s H C cl fp => (O.blk _ s H C cl fp).pg h5) (fun s H C cl fp => ptsE cond h6 (O.blk _ s H C cl fp))
        (fun s H C cl fp => peE el h7 (O.blk _ s H C cl fp)) (good_folded h4)) ?_
      intro σ H Q q
      exact lc_reads h2 (tE_congr (fun env S => by rw [eval]) q)
    · cases h
  | .mth m ob es, c, W, X, e, h, O => by
    unfold okE at h
    try dsimp only at h
    split at h
    · simp only [Bool.and_eq_true, decide_eq_true_eq] at h
      obtain ⟨⟨h0, h1, h2⟩, ⟨h3, h4⟩, h5, h6⟩ := h
      rename_i o' nm apos as cpos
      cases as with
      | nil => simp at h2
      | cons a as =>
        have hg := okEs_good (g := g) h5
        have hg2 := hg
        rw [List.all_cons, Bool.and_eq_true] at hg2
        subst h0
        cases m
        refine PE.imp (pe_bm (T := "list") PySem.F.plainAttrs_list PySem.F.slot_list_append PySem.F.type_list_append (appendR (cls := cls)) (peE ob h3 O) (paE es h5 O) (base_ok h4) (good_few hg h6) h1 (good_star hg2.1) (good_pl hg2.2)) ?_
        rintro σ H Q ⟨φ, S, env, e, o, p⟩
        unfold eval at p
        refine (stepE e o p).mono fun x H1 ⟨φ1, S1, d1, l1, o1, r1, p1⟩ => ?_
        split at p1
        · rename_i ht
          exact ⟨isTy_ok o1 r1 ht, (stepA (e.mono l1) o1 p1).mono fun vs H2 ⟨φ2, S2, ds, l2, o2, r2, p2⟩ => ⟨W, σ, φ2, S2, d1, ds, o2, r1.later l2, r2, p2⟩⟩
        · exact p1.elim
    · cases h
theorem pwE : ∀ (ex : Ex) {c : SC} {W : WX} {X : Cx} {op : BoolOp} {vs : List Expr} {pos : Pos}, okE g c ex (.BoolOp op vs pos) = true → XOk g cls F c W X → PW X (.BoolOp op vs pos) (tT X.K cls W (test F ex))
  | .and a b, c, W, X, op, vs, pos, h, O => by
    unfold okE at h
    try dsimp only at h
    split at h
    · rename_i e2
      simp only [Bool.and_eq_true] at h
      injection e2 with e3 e4 e5
      subst e3 e4 e5
      have ha := ptE a h.1 O
      have hb := pwE b h.2 O
      refine ⟨fun whole pins s σ H Q I q => (pw_and ha hb).run whole pins s σ H Q I ?_⟩
      obtain ⟨φ, S, env, e, o, p⟩ := q
      unfold test at p
      refine (stepT e o p).mono fun k H1 ⟨φ1, S1, l1, o1, p1⟩ => ?_
      cases k with
      | false => exact post_bool o1 p1
      | true => exact ⟨φ1, S1, env, e.mono l1, o1, p1⟩
    · cases h
  | .or a b, c, W, X, op, vs, pos, h, O => by
    unfold okE at h
    try dsimp only at h
    split at h
    · rename_i e2
      simp only [Bool.and_eq_true] at h
      injection e2 with e3 e4 e5
      subst e3 e4 e5
      have ha := ptE a h.1 O
      have hb := pwE b h.2 O
      refine ⟨fun whole pins s σ H Q I q => (pw_or ha hb).run whole pins s σ H Q I ?_⟩
      obtain ⟨φ, S, env, e, o, p⟩ := q
      unfold test at p
      refine (stepT e o p).mono fun k H1 ⟨φ1, S1, l1, o1, p1⟩ => ?_
      cases k with
      | true => exact post_bool o1 p1
      | false => exact ⟨φ1, S1, env, e.mono l1, o1, p1⟩
    · cases h
  | .one a, c, W, X, op, vs, pos, h, O => by
    unfold okE at h
    try dsimp only at h
    split at h
    · rename_i e2
      injection e2 with e3 e4 e5
      subst e3 e4 e5
      have ha := ptE a h O
      have hh : ∀ σ H Q, tT X.K cls W (test F (.one a)) σ H Q → tT X.K cls W (test F a) σ H Q := fun σ H Q q => tT_congr (fun env S => by rw [test]) q
      cases op with
      | And => exact ⟨fun whole pins s σ H Q I q => (pw_and1 ha).run whole pins s σ H Q I (hh _ _ _ q)⟩
      | Or => exact ⟨fun whole pins s σ H Q I q => (pw_or1 ha).run whole pins s σ H Q I (hh _ _ _ q)⟩
    · cases h
  | .var i, c, W, X, op, vs, pos, h, O => by simp [okE] at h
  | .int i, c, W, X, op, vs, pos, h, O => by simp [okE] at h
  | .bl i, c, W, X, op, vs, pos, h, O => by simp [okE] at h
  | .non, c, W, X, op, vs, pos, h, O => by simp [okE] at h
  | .str i, c, W, X, op, vs, pos, h, O => by simp [okE] at h
  | .glob i _, c, W, X, op, vs, pos, h, O => by simp [okE] at h
  | .bin _ _ _, c, W, X, op, vs, pos, h, O => by simp [okE] at h
  | .neg _, c, W, X, op, vs, pos, h, O => by simp [okE] at h
  | .cmp _ _ _, c, W, X, op, vs, pos, h, O => by simp [okE] at h
  | .chain _ _ _ _ _, c, W, X, op, vs, pos, h, O => by simp [okE] at h
  | .not _, c, W, X, op, vs, pos, h, O => by simp [okE] at h
  | .ite _ _ _, c, W, X, op, vs, pos, h, O => by simp [okE] at h
  | .tup _, c, W, X, op, vs, pos, h, O => by simp [okE] at h
  | .lst _, c, W, X, op, vs, pos, h, O => by simp [okE] at h
  | .ix _ _, c, W, X, op, vs, pos, h, O => by simp [okE] at h
  | .sl _ _ _, c, W, X, op, vs, pos, h, O => by simp [okE] at h
  | .call _ _, c, W, X, op, vs, pos, h, O => by simp [okE] at h
  | .blt _ _, c, W, X, op, vs, pos, h, O => by simp [okE] at h
  | .isi _ _, c, W, X, op, vs, pos, h, O => by simp [okE] at h
  | .lc _ _ _ _ _, c, W, X, op, vs, pos, h, O => by simp [okE] at h
  | .mth _ _ _, c, W, X, op, vs, pos, h, O => by simp [okE] at h
theorem ptE : ∀ (ex : Ex) {c : SC} {W : WX} {X : Cx} {e : Expr}, okE g c ex e = true → XOk g cls F c W X → PT X e (tT X.K cls W (test F ex))
  | .and a b, c, W, X, e, h, O => by
    have hw : ∀ {op vs pos}, e = .BoolOp op vs pos → PT X e (tT X.K cls W (test F (.and a b))) := fun e1 => by
      subst e1
      unfold okE at h
      try dsimp only at h
      split at h
      · rename_i e2
        simp only [Bool.and_eq_true] at h
        injection e2 with e3 e4 e5
        subst e3 e4 e5
        have ha := ptE a h.1 O
        have hb := pwE b h.2 O
        refine PT.imp (pw_and ha hb).pt ?_
        rintro σ H Q ⟨φ, S, env, e, o, p⟩
        unfold test at p
        refine (stepT e o p).mono fun k H1 ⟨φ1, S1, l1, o1, p1⟩ => ?_
        cases k with
        | false => exact post_bool o1 p1
        | true => exact ⟨φ1, S1, env, e.mono l1, o1, p1⟩
      · cases h
    cases e <;> first | exact hw rfl | (simp [okE] at h)
  | .or a b, c, W, X, e, h, O => by
    have hw : ∀ {op vs pos}, e = .BoolOp op vs pos → PT X e (tT X.K cls W (test F (.or a b))) := fun e1 => by
      subst e1
      unfold okE at h
      try dsimp only at h
      split at h
      · rename_i e2
        simp only [Bool.and_eq_true] at h
        injection e2 with e3 e4 e5
        subst e3 e4 e5
        have ha := ptE a h.1 O
        have hb := pwE b h.2 O
        refine PT.imp (pw_or ha hb).pt ?_
        rintro σ H Q ⟨φ, S, env, e, o, p⟩
        unfold test at p
        refine (stepT e o p).mono fun k H1 ⟨φ1, S1, l1, o1, p1⟩ => ?_
        cases k with
        | true => exact post_bool o1 p1
        | false => exact ⟨φ1, S1, env, e.mono l1, o1, p1⟩
      · cases h
    cases e <;> first | exact hw rfl | (simp [okE] at h)
  | .one a, c, W, X, e, h, O => by
    unfold okE at h
    try dsimp only at h
    split at h
    · rename_i op a' pos
      have ha := ptE a h O
      have hh : ∀ σ H Q, tT X.K cls W (test F (.one a)) σ H Q → tT X.K cls W (test F a) σ H Q := fun σ H Q q => tT_congr (fun env S => by rw [test]) q
      cases op with
      | And => exact PT.imp (pw_and1 ha).pt hh
      | Or => exact PT.imp (pw_or1 ha).pt hh
    · cases h
  | .not a, c, W, X, e, h, O => by
    unfold okE at h
    try dsimp only at h
    split at h
    · refine PT.imp (pt_not (ptE a h O)) ?_
      rintro σ H Q ⟨φ, S, env, e, o, p⟩
      unfold test at p
      exact (stepT e o p).mono fun k H1 ⟨φ1, S1, l1, o1, p1⟩ => post_bool o1 p1
    · cases h
  | .cmp op a b, c, W, X, e, h, O => by
    unfold okE at h
    try dsimp only at h
    split at h
    · simp only [Bool.and_eq_true] at h
      obtain ⟨h0, h1, h2, h3⟩ := h
      have := eq_of_beq h0
      subst this
      refine PT.imp (pt_cmpR (cmpR (cls := cls) O.un _) (peE a h1 O) (peE b h2 O) (good_behind h3)) ?_
      rintro σ H Q ⟨φ, S, env, e, o, p⟩
      unfold test at p
      refine (stepE e o p).mono fun x H1 ⟨φ1, S1, d1, l1, o1, r1, p1⟩ => (stepE (e.mono l1) o1 p1).mono fun y H2 ⟨φ2, S2, d2, l2, o2, r2, p2⟩ => ⟨W, σ, φ2, S2, d1, d2, o2, r1.later l2, r2, ?_⟩
      show Post X.K cls W σ φ2 H2 ((cmpD _ d1 d2 S2).bind _) _
      generalize cmpD _ d1 d2 S2 = rr at p2 ⊢
      cases rr with
      | exc x S => exact p2
      | bad => exact p2
      | ok k S3 =>
        intro φ3 H3 l3 o3 v rv
        rw [rep_bl] at rv
        exact ⟨k, rv, p2 φ3 H3 l3 o3⟩
    · cases h
  | .chain op op2 a b d, c, W, X, e, h, O => by
    unfold okE at h
    try dsimp only at h
    split at h
    · simp only [Bool.and_eq_true] at h
      obtain ⟨⟨h0, h0'⟩, h1, h2, h3, h4⟩ := h
      have := eq_of_beq h0
      subst this
      have := eq_of_beq h0'
      subst this
      refine PT.imp (pt_chain (cmpR (cls := cls) O.un _) (cmpR (cls := cls) O.un _) (peE a h1 O) (peE b h2 O) (peE d h3 O) (good_last h4)) ?_
      rintro σ H Q ⟨φ, S, env, e, o, p⟩
      unfold test at p
      refine (stepE e o p).mono fun x H1 ⟨φ1, S1, d1, l1, o1, r1, p1⟩ => (stepE (e.mono l1) o1 p1).mono fun y H2 ⟨φ2, S2, d2, l2, o2, r2, p2⟩ => ?_
      refine ⟨W, σ, φ2, S2, d1, d2, o2, r1.later l2, r2, ?_⟩
      show Post X.K cls W σ φ2 H2 ((cmpD _ d1 d2 S2).bind _) _
      generalize cmpD _ d1 d2 S2 = rr at p2 ⊢
      cases rr with
      | exc x S => exact p2
      | bad => exact p2
      | ok k S3 =>
        intro φ3 H3 l3 o3 v rv
        rw [rep_bl] at rv
        subst rv
        refine ⟨k, rfl, ?_⟩
        rw [R.bind_ok] at p2
        have p3 := p2.later l3
        cases k with
        | false => exact ⟨false, rfl, post_bool o3 p3⟩
        | true =>
          rw [if_pos rfl] at p3 ⊢
          refine (stepE ((e.mono (l1.trans l2)).mono l3) o3 p3).mono fun w H4 ⟨φ4, S4, d4, l4, o4, r4, p4⟩ => ⟨W, σ, φ4, S4, d2, d4, o4, (r2.later l3).later l4, r4, ?_⟩
          show Post X.K cls W σ φ4 H4 ((cmpD _ d2 d4 S4).bind _) _
          generalize cmpD _ d2 d4 S4 = rr at p4 ⊢
          cases rr with
          | exc x S => exact p4
          | bad => exact p4
          | ok k S3 =>
            intro φ5 H5 l5 o5 v rv
            rw [rep_bl] at rv
            exact ⟨k, rv, p4 φ5 H5 l5 o5⟩
    · cases h
  | .var i, c, W, X, e, h, O => by
    have hp := peE (.var i) h O
    unfold okE at h
    try dsimp only at h
    split at h
    · refine PT.imp (truthOf hp (fun _ => rfl)) ?_
      rintro σ H Q ⟨φ, S, env, e, o, p⟩
      refine ⟨φ, S, env, e, o, ?_⟩
      unfold test at p
      unfold eval
      dsimp only at p ⊢
      cases hv : env[i]? with
      | none => rw [hv] at p; exact p.elim
      | some x =>
        cases x with
        | none => rw [hv] at p; exact p.elim
        | some d => rw [hv] at p; exact p
    · cases h
  | .bl b, c, W, X, e, h, O => by
    have hp := peE (.bl b) h O
    unfold okE at h
    try dsimp only at h
    split at h
    · refine PT.imp (truthOf hp (fun _ => rfl)) ?_
      rintro σ H Q ⟨φ, S, env, e, o, p⟩
      exact ⟨φ, S, env, e, o, p⟩
    · cases h
  | .ix a b, c, W, X, e, h, O => by
    have hp := peE (.ix a b) h O
    unfold okE at h
    try dsimp only at h
    split at h
    · refine PT.imp (truthOf hp (fun _ => rfl)) ?_
      rintro σ H Q ⟨φ, S, env, e, o, p⟩
      refine ⟨φ, S, env, e, o, ?_⟩
      unfold test at p
      unfold eval
      simp only [R.bind_assoc]
      exact p
    · cases h
  | .call f es, c, W, X, e, h, O => by
    have hp := peE (.call f es) h O
    unfold okE at h
    try dsimp only at h
    split at h
    · refine PT.imp (truthOf hp (fun _ => rfl)) ?_
      rintro σ H Q ⟨φ, S, env, e, o, p⟩
      refine ⟨φ, S, env, e, o, ?_⟩
      unfold test at p
      unfold eval
      simp only [R.bind_assoc]
      exact p
    · cases h
  | .isi a t, c, W, X, e, h, O => by
    have hp := peE (.isi a t) h O
    unfold okE at h
    try dsimp only at h
    split at h
    · refine PT.imp (truthOf hp (fun _ => rfl)) ?_
      rintro σ H Q ⟨φ, S, env, e, o, p⟩
      refine ⟨φ, S, env, e, o, ?_⟩
      unfold test at p
      unfold eval
      simp only [R.bind_assoc]
      refine Eq.mp ?_ p
      congr 1
      congr 1
      funext x S1
      cases isiD S1 x t <;> rfl
    · cases h
  | .int i, c, W, X, e, h, O => ⟨fun _ _ _ _ _ _ ⟨_, _, _, _, _, p⟩ => p.elim⟩
  | .non, c, W, X, e, h, O => ⟨fun _ _ _ _ _ _ ⟨_, _, _, _, _, p⟩ => p.elim⟩
  | .str i, c, W, X, e, h, O => ⟨fun _ _ _ _ _ _ ⟨_, _, _, _, _, p⟩ => p.elim⟩
  | .glob i _, c, W, X, e, h, O => ⟨fun _ _ _ _ _ _ ⟨_, _, _, _, _, p⟩ => p.elim⟩
  | .bin _ _ _, c, W, X, e, h, O => ⟨fun _ _ _ _ _ _ ⟨_, _, _, _, _, p⟩ => p.elim⟩
  | .neg _, c, W, X, e, h, O => ⟨fun _ _ _ _ _ _ ⟨_, _, _, _, _, p⟩ => p.elim⟩
  | .ite _ _ _, c, W, X, e, h, O => ⟨fun _ _ _ _ _ _ ⟨_, _, _, _, _, p⟩ => p.elim⟩
  | .tup _, c, W, X, e, h, O => ⟨fun _ _ _ _ _ _ ⟨_, _, _, _, _, p⟩ => p.elim⟩
  | .lst _, c, W, X, e, h, O => ⟨fun _ _ _ _ _ _ ⟨_, _, _, _, _, p⟩ => p.elim⟩
  | .sl _ _ _, c, W, X, e, h, O => ⟨fun _ _ _ _ _ _ ⟨_, _, _, _, _, p⟩ => p.elim⟩
  | .blt _ _, c, W, X, e, h, O => ⟨fun _ _ _ _ _ _ ⟨_, _, _, _, _, p⟩ => p.elim⟩
  | .lc _ _ _ _ _, c, W, X, e, h, O => ⟨fun _ _ _ _ _ _ ⟨_, _, _, _, _, p⟩ => p.elim⟩
  | .mth _ _ _, c, W, X, e, h, O => ⟨fun _ _ _ _ _ _ ⟨_, _, _, _, _, p⟩ => p.elim⟩
theorem paE : ∀ (es : Exs) {c : SC} {W : WX} {X : Cx} {es' : List Expr}, okEs g c es es' = true → XOk g cls F c W X → PA X es' (tA X.K cls W (evals F es))
  | .nil, c, W, X, es', h, O => by
    unfold okEs at h
    have := List.isEmpty_iff.mp h
    subst this
    refine ⟨fun pos pins s σ H Q I q => pa_nil.run pos pins s σ H Q I ?_⟩
    obtain ⟨φ, S, env, e, o, p⟩ := q
    unfold evals at p
    exact p.ok o [] .nil
  | .cons a r, c, W, X, es', h, O => by
    unfold okEs at h
    try dsimp only at h
    split at h
    · simp only [Bool.and_eq_true] at h
      refine ⟨fun pos pins s σ H Q I q => (pa_cons (peE a h.1 O) (paE r h.2.2 O) (good_star h.2.1)).run pos pins s σ H Q I ?_⟩
      obtain ⟨φ, S, env, e, o, p⟩ := q
      unfold evals at p
      exact (stepE e o p).mono fun x H1 ⟨φ1, S1, d1, l1, o1, r1, p1⟩ => (stepA (e.mono l1) o1 p1).mono fun vs H2 ⟨φ2, S2, ds, l2, o2, r2, p2⟩ => p2.ok o2 _ (.cons (r1.later l2) r2)
    · cases h
theorem poE : ∀ (oe : OEx) {c : SC} {W : WX} {X : Cx} {x : Option Expr}, okO g c oe x = true → XOk g cls F c W X → PO X x (tO X.K cls W (evalO F oe))
  | .no, c, W, X, x, h, O => by
    unfold okO at h
    have := Option.isNone_iff_eq_none.mp h
    subst this
    refine ⟨fun pins s σ H Q I q => po_none.run pins s σ H Q I ?_⟩
    obtain ⟨φ, S, env, e, o, p⟩ := q
    unfold evalO at p
    exact p.ok o
  | .yes a, c, W, X, x, h, O => by
    unfold okO at h
    try dsimp only at h
    split at h
    · refine ⟨fun pins s σ H Q I q => (po_some (peE a h O)).run pins s σ H Q I ?_⟩
      obtain ⟨φ, S, env, e, o, p⟩ := q
      unfold evalO at p
      refine (stepE e o p).mono fun x H1 ⟨φ1, S1, d1, l1, o1, r1, p1⟩ => ?_
      cases d1 <;> try exact p1.elim
      rw [rep_int] at r1
      exact ⟨_, r1, p1.ok o1⟩
    · cases h
theorem ptsE : ∀ (oe : OEx) {c : SC} {W : WX} {X : Cx} {ifs : List Expr}, okC g c oe ifs = true → XOk g cls F c W X → PTs X ifs (tT X.K cls W (tests F oe))
  | .no, c, W, X, x, h, O => by
    unfold okC at h
    have := List.isEmpty_iff.mp h
    subst this
    refine ⟨fun pins s σ H Q I q => pts_nil.run pins s σ H Q I ?_⟩
    obtain ⟨φ, S, env, e, o, p⟩ := q
    unfold tests at p
    exact p.ok o
  | .yes a, c, W, X, x, h, O => by
    unfold okC at h
    try dsimp only at h
    split at h
    · refine ⟨fun pins s σ H Q I q => (pts_one (ptE a h O)).run pins s σ H Q I ?_⟩
      exact tT_congr (fun env S => by rw [tests]) q
    · cases h
theorem piE : ∀ (it : Iu) {c : SC} {W : WX} {X : Cx} {t e : Expr}, okI g c it t e = true → XOk g cls F c W X → PI X t e (tI X.K cls W (src F it))
  | .seq a, c, W, X, t, e, h, O => by
    unfold okI at h
    have ha := peE a h O
    refine PI.imp (PI.or (pi_list ha) (PI.or (pi_tup ha) (pi_str ha))) ?_
    rintro σ H R ⟨φ, S, env, e, o, p⟩
    unfold src at p
    cases hm : eval F a env S with
    | bad => rw [hm] at p; exact p.elim
    | exc x S1 =>
      rw [hm] at p
      exact .inl ⟨φ, S, env, e, o, by rw [hm]; exact p⟩
    | ok d S1 =>
      rw [hm] at p
      rw [PyI.R.bind_ok] at p
      have rd : ∀ {Q : VK}, (∀ φ1 H1, Le φ H φ1 H1 → Ok X.K cls φ1 H1 S1 → ∀ v, Rep X.K φ1 H1 d v → Q v H1) → tE X.K cls W (eval F a) σ H Q := fun {Q} f => ⟨φ, S, env, e, o, by rw [hm]; exact fun φ1 H1 l k v r => f φ1 H1 l k v r⟩
      cases hs : srcOf S1 d with
      | none => rw [hs] at p; exact p.elim
      | some s =>
        rw [hs] at p
        have pp : ∀ φ' H', Le φ H φ' H' → Ok X.K cls φ' H' S1 → ∀ J, Feeds X.K cls J φ' H' s → R J H' := p
        cases d with
        | non => cases hs
        | bl _ => cases hs
        | int _ => cases hs
        | str z =>
          cases hs
          refine .inr (.inr (rd fun φ1 H1 l k v r => ?_))
          rw [rep_str] at r
          exact ⟨z, r, pp φ1 H1 l k _ feeds_str⟩
        | tup ds =>
          cases hs
          refine .inr (.inl (rd fun φ1 H1 l k v r => ?_))
          obtain ⟨a, xs, rfl, t, q⟩ := rep_tup.mp r
          exact ⟨a, rfl, ⟨xs, t.sq⟩, pp φ1 H1 l k _ (feeds_tup t q)⟩
        | rol ds =>
          refine .inl (rd fun φ1 H1 l k v r => ?_)
          obtain ⟨a, rfl, la⟩ := listAt_of k r (s := s) (by rw [← hs]; rfl)
          obtain ⟨a, xs, e1, t, q⟩ := rep_rol.mp r
          cases e1
          exact ⟨a, rfl, ⟨xs, t.sq⟩, pp φ1 H1 l k _ (feeds_list la)⟩
        | obj i =>
          refine .inl (rd fun φ1 H1 l k v r => ?_)
          obtain ⟨a, rfl, la⟩ := listAt_of k r (s := s) (by rw [← hs]; rfl)
          obtain ⟨b, e1, t⟩ := rep_obj.mp r
          cases e1
          unfold srcOf at hs
          dsimp only at hs
          split at hs
          · rename_i ds he
            obtain ⟨xs, h1, _⟩ := k.lst t he
            exact ⟨a, rfl, ⟨xs, .inl (.inl h1)⟩, pp φ1 H1 l k _ (feeds_list la)⟩
          · cases hs
  | .rng1 a, c, W, X, t, e, h, O => by
    unfold okI at h
    try dsimp only at h
    split at h
    · simp only [Bool.and_eq_true, decide_eq_true_eq] at h
      obtain ⟨⟨rfl, h1⟩, h2, h3⟩ := h
      obtain ⟨g1, g2, _, _⟩ := free_ok O h1
      refine PI.imp (pi_range1 g1 g2 (pa_cons (peE a h2 O) pa_nil (good_star h3)) (good_star h3)) ?_
      rintro σ H R ⟨φ, S, env, e, o, p⟩
      unfold src at p
      refine (stepE e o p).mono fun x H1 ⟨φ1, S1, d1, l1, o1, r1, p1⟩ => ?_
      cases d1 <;> try exact p1.elim
      rename_i j
      rw [rep_int] at r1
      subst r1
      dsimp only at p1
      split at p1
      · rename_i hb
        exact ⟨j, rfl, hb.1, hb.2, p1.ok o1 _ feeds_rng⟩
      · exact p1.elim
    · cases h
  | .rng2 a b, c, W, X, t, e, h, O => by
    unfold okI at h
    try dsimp only at h
    split at h
    · simp only [Bool.and_eq_true, decide_eq_true_eq] at h
      obtain ⟨⟨rfl, h1⟩, ⟨h2, h3⟩, h4, h5⟩ := h
      obtain ⟨g1, g2, _, _⟩ := free_ok O h1
      refine PI.imp (pi_range2 g1 g2 (pa_cons (peE a h2 O) (pa_cons (peE b h4 O) pa_nil (good_star h5)) (good_star h3)) ?_ (good_star h5)) ?_
      · rw [good_star h3, good_star h5]
        rfl
      rintro σ H R ⟨φ, S, env, e, o, p⟩
      unfold src at p
      refine (stepE e o p).mono fun x H1 ⟨φ1, S1, d1, l1, o1, r1, p1⟩ => (stepE (e.mono l1) o1 p1).mono fun y H2 ⟨φ2, S2, d2, l2, o2, r2, p2⟩ => ?_
      cases d1 with
      | int i =>
        cases d2 with
        | int j =>
          rw [rep_int] at r1 r2
          subst r1 r2
          dsimp only at p2
          split at p2
          · rename_i hb
            exact ⟨i, j, rfl, ⟨hb.1.1, hb.1.2, hb.2.1, hb.2.2⟩, p2.ok o2 _ feeds_rng⟩
          · exact p2.elim
        | _ => exact p2.elim
      | _ => exact p2.elim
    · cases h
  | .zip a b, c, W, X, t, e, h, O => by
    unfold okI at h
    try dsimp only at h
    split at h
    · simp only [Bool.and_eq_true, decide_eq_true_eq] at h
      obtain ⟨⟨h0, rfl, h1⟩, ⟨h2, h3⟩, h4, h5⟩ := h
      obtain ⟨g1, g2, _, _⟩ := free_ok O h1
      cases t <;> try (simp [isTuple] at h0; done)
      refine PI.imp (pi_zip g1 g2 (pa_cons (peE a h2 O) (pa_cons (peE b h4 O) pa_nil (good_star h5)) (good_star h3)) (good_star h3) (good_pl (by rw [List.all_cons, h5]; rfl))) ?_
      rintro σ H R ⟨φ, S, env, e, o, p⟩
      unfold src at p
      refine (stepE e o p).mono fun x H1 ⟨φ1, S1, d1, l1, o1, r1, p1⟩ => (stepE (e.mono l1) o1 p1).mono fun y H2 ⟨φ2, S2, d2, l2, o2, r2, p2⟩ => ?_
      cases hs : srcL S2 d1 with
      | none => rw [hs] at p2; exact p2.elim
      | some s =>
        cases hs2 : srcL S2 d2 with
        | none => rw [hs, hs2] at p2; exact p2.elim
        | some s2 =>
          rw [hs, hs2] at p2
          obtain ⟨a1, rfl, la⟩ := listAt_of o2 (r1.later l2) hs
          obtain ⟨a2, rfl, lb⟩ := listAt_of o2 r2 hs2
          have ex : ∀ {d : D} {v : V} {s : Src} {aa : Addr}, Rep X.K φ2 H2 d v → v = .ref aa → srcL S2 d = some s → ∃ xs, SqL X.K H2 aa xs := fun {d v s aa} r ev hq => by
            cases d with
            | rol ds =>
              obtain ⟨b, xs, e1, t, q⟩ := rep_rol.mp r
              rw [ev] at e1
              cases e1
              exact ⟨xs, t.sq⟩
            | obj i =>
              obtain ⟨b, e1, t⟩ := rep_obj.mp r
              rw [ev] at e1
              cases e1
              unfold srcL at hq
              dsimp only at hq
              split at hq
              · rename_i ds he
                obtain ⟨xs, h1, _⟩ := o2.lst t he
                exact ⟨xs, .inl (.inl h1)⟩
              · cases hq
            | non => cases hq
            | bl _ => cases hq
            | int _ => cases hq
            | str _ => cases hq
            | tup _ => cases hq
          obtain ⟨xs, q1⟩ := ex (r1.later l2) rfl hs
          obtain ⟨ys, q2⟩ := ex r2 rfl hs2
          exact ⟨a1, a2, xs, ys, rfl, q1, q2, p2.ok o2 _ (feeds_zip la lb)⟩
    · cases h
  | .enum a, c, W, X, t, e, h, O => by
    unfold okI at h
    try dsimp only at h
    split at h
    · simp only [Bool.and_eq_true, decide_eq_true_eq] at h
      obtain ⟨⟨h0, rfl, h1⟩, h2, h3⟩ := h
      obtain ⟨g1, g2, _, _⟩ := free_ok O h1
      cases t <;> try (simp [isTuple] at h0; done)
      refine PI.imp (pi_enum g1 g2 (pa_cons (peE a h2 O) pa_nil (good_star h3)) (good_star h3)) ?_
      rintro σ H R ⟨φ, S, env, e, o, p⟩
      unfold src at p
      refine (stepE e o p).mono fun x H1 ⟨φ1, S1, d1, l1, o1, r1, p1⟩ => ?_
      cases hs : srcL S1 d1 with
      | none => rw [hs] at p1; exact p1.elim
      | some s =>
        rw [hs] at p1
        obtain ⟨a1, rfl, la⟩ := listAt_of o1 r1 hs
        have ex : ∃ xs, SqL X.K H1 a1 xs := by
          cases d1 with
          | rol ds =>
            obtain ⟨b, xs, e1, t, q⟩ := rep_rol.mp r1
            cases e1
            exact ⟨xs, t.sq⟩
          | obj i =>
            obtain ⟨b, e1, t⟩ := rep_obj.mp r1
            cases e1
            unfold srcL at hs
            dsimp only at hs
            split at hs
            · rename_i ds he
              obtain ⟨xs, h1, _⟩ := o1.lst t he
              exact ⟨xs, .inl (.inl h1)⟩
            · cases hs
          | non => cases hs
          | bl _ => cases hs
          | int _ => cases hs
          | str _ => cases hs
          | tup _ => cases hs
        obtain ⟨xs, q1⟩ := ex
        exact ⟨a1, xs, rfl, q1, p1.ok o1 _ (feeds_enum la)⟩
    · cases h
end
end PyI
/-! PyiG: statements are sound. -/
namespace PyI
open PySem L2
variable {g : GT} {cls : Nat → Addr} {F : Nat → List D → M D}
def FlP (K : PySem.W.Frag) (cls : Nat → Addr) (W : WX) (Z : Ends) (fl : Fl) (φ : List Addr) (H : Hp) : Prop := match fl with
  | .next env => ∀ σ, EnvRep K φ H env σ → Z.nx σ H
  | .ret d => ∀ v, Rep K φ H d v → Z.rt v H
  | .brk env => ∀ σ, EnvRep K φ H env σ → Z.bk σ H
  | .cont env => ∀ σ, EnvRep K φ H env σ → Z.ct σ H
  | .exc x env => ∀ σ cv dx, EnvRep K φ H env σ → XnRep K cls φ H x cv dx → W cv dx σ H
def PostS (K : PySem.W.Frag) (cls : Nat → Addr) (W : WX) (Z : Ends) (φ : List Addr) (H : Hp) (r : R Fl) : Prop := Post K cls WF [] φ H r (fun fl _ φ' H' => FlP K cls W Z fl φ' H')
def tS (K : PySem.W.Frag) (cls : Nat → Addr) (W : WX) (m : Env' → M Fl) : TS := fun Z σ H => ∃ φ S env, EnvRep K φ H env σ ∧ Ok K cls φ H S ∧ PostS K cls W Z φ H (m env S)
theorem tS_congr {K : PySem.W.Frag} {W : WX} {m m' : Env' → M Fl} {σ : St} {H : Hp} {Z : Ends} (i : ∀ env S, m env S = m' env S) (h : tS K cls W m Z σ H) : tS K cls W m' Z σ H :=
  let ⟨φ, S, env, e, o, p⟩ := h
  ⟨φ, S, env, e, o, by rw [← i]; exact p⟩
section
variable {K : PySem.W.Frag} {W : WX} {Z : Ends} {σ : St} {φ : List Addr} {H : Hp} {S : Store} {env : Env'}
/-- an expression within a statement -/
theorem runP {α : Type} {r : R α} {k : α → Store → R Fl} (e : EnvRep K φ H env σ) (h : PostS K cls W Z φ H (run r env k)) : Post K cls W σ φ H r (fun a S1 φ1 H1 => PostS K cls W Z φ1 H1 (k a S1)) := by
  cases r with
  | ok a S1 => exact fun φ1 H1 l o => Post.later l h
  | exc x S1 => exact fun cv dx φ1 H1 l o xr => h φ1 H1 l o σ cv dx (e.mono l) xr
  | bad => exact h
theorem runE {m : Env' → M D} {k : D → Store → R Fl} (e : EnvRep K φ H env σ) (o : Ok K cls φ H S) (h : PostS K cls W Z φ H (run (m env S) env k)) :
    tE K cls W m σ H (fun v H1 => ∃ φ1 S1 d, Le φ H φ1 H1 ∧ Ok K cls φ1 H1 S1 ∧ Rep K φ1 H1 d v ∧ PostS K cls W Z φ1 H1 (k d S1)) :=
  ⟨φ, S, env, e, o, (runP e h).imp fun d S1 φ1 H1 l o p v r => ⟨φ1, S1, d, l, o, r, p⟩⟩
theorem runT {m : Env' → M Bool} {k : Bool → Store → R Fl} (e : EnvRep K φ H env σ) (o : Ok K cls φ H S) (h : PostS K cls W Z φ H (run (m env S) env k)) :
    tT K cls W m σ H (fun b H1 => ∃ φ1 S1, Le φ H φ1 H1 ∧ Ok K cls φ1 H1 S1 ∧ PostS K cls W Z φ1 H1 (k b S1)) :=
  ⟨φ, S, env, e, o, (runP e h).imp fun d S1 φ1 H1 l o p => ⟨φ1, S1, l, o, p⟩⟩
theorem postS_next (e : EnvRep K φ H env σ) (o : Ok K cls φ H S) (h : PostS K cls W Z φ H (.ok (.next env) S)) : Z.nx σ H := h φ H .refl o σ e
theorem postS_later {φ1 : List Addr} {H1 : Hp} {r : R Fl} (l : Le φ H φ1 H1) (h : PostS K cls W Z φ H r) : PostS K cls W Z φ1 H1 r := Post.later l h
/-- a statement, then what follows -/
theorem bindS {m : Env' → M Fl} {k : Fl → Store → R Fl} {Z' : Ends} (e : EnvRep K φ H env σ) (o : Ok K cls φ H S) (h : PostS K cls W Z φ H ((m env S).bind k))
    (f : ∀ fl S1 φ1 H1, Le φ H φ1 H1 → Ok K cls φ1 H1 S1 → PostS K cls W Z φ1 H1 (k fl S1) → FlP K cls W Z' fl φ1 H1) : tS K cls W m Z' σ H :=
  ⟨φ, S, env, e, o, (Post.bind h).imp fun fl S1 φ1 H1 l o p => f fl S1 φ1 H1 l o p⟩
/-- an assignment's target, reading -/
theorem runG {tg : Tg} {d : D} {v : V} {k : Env' → Store → R Fl} {Q : St → Hp → Prop} (e : EnvRep K φ H env σ) (o : Ok K cls φ H S) (r : Rep K φ H d v) (h : PostS K cls W Z φ H (run (assign tg d env S) env k))
    (f : ∀ env2 σ2, EnvRep K φ H env2 σ2 → PostS K cls W Z φ H (k env2 S) → Q σ2 H) : tG K cls tg v σ H Q :=
  ⟨W, σ, φ, S, env, d, e, o, r, (runP e h).imp fun env2 S2 φ2 H2 l2 o2 p2 es ep eh σ2 e2 _ => by
    subst es ep eh
    exact f env2 σ2 e2 p2⟩
/-- for: turn by turn -/
theorem for_reads {tg : Tg} {msrc : Env' → M Src} {mb : Env' → M Fl} (h : tS K cls W (fun env S => run (msrc env S) env fun s S => forL s.deps tg mb s.items env S) Z σ H) :
    tFor (tI K cls W msrc) (tG K cls tg) (tS K cls W mb) Z σ H := by
  obtain ⟨φ, S, env, e, o, p⟩ := h
  refine ⟨φ, S, env, e, o, (runP e p).imp fun s S1 φ1 H1 l1 o1 p1 J fd => ?_⟩
  refine ⟨fun i m σ H => m = s.items.length - i ∧ i ≤ s.items.length ∧ ∃ φ S env, Le φ1 H1 φ H ∧ EnvRep K φ H env σ ∧ Ok K cls φ H S ∧ PostS K cls W Z φ H (forL s.deps tg mb (s.items.drop i) env S),
    ⟨s.items.length, by simp, Nat.zero_le _, φ1, S1, env, .refl, e.mono l1, o1, by rw [List.drop_zero]; exact p1⟩, ?_⟩
  rintro i m σc Hc ⟨rfl, hi, φc, Sc, ec, lc, nc, oc, pc⟩
  by_cases hlt : i < s.items.length
  · rw [List.drop_eq_getElem_cons hlt] at pc
    unfold forL at pc
    by_cases hd : depsOk Sc s.deps = true
    · rw [if_pos hd] at pc
      have gi : s.items[i]? = some s.items[i] := List.getElem?_eq_getElem hlt
      have pf := fd.item φc Hc Sc i _ lc oc hd gi
      refine .inr ⟨pf.1, fun σ' H' => ∃ φ S env, Le φ1 H1 φ H' ∧ EnvRep K φ H' env σ' ∧ Ok K cls φ H' S ∧ PostS K cls W Z φ H' (forL s.deps tg mb (s.items.drop (i + 1)) env S),
        fun σ' H' z => ⟨s.items.length - (i + 1), by omega, rfl, hlt, z⟩, fun x H' y => ?_⟩
      obtain ⟨l3, o3, r3⟩ := pf.2 x H' y
      refine runG (nc.mono l3) o3 r3 (postS_later l3 pc) fun env2 σ2 e2 p2 => ?_
      refine bindS e2 o3 p2 fun fl S4 φ4 H4 l4 o4 p4 => ?_
      have ll := (lc.trans l3).trans l4
      cases fl with
      | next env4 => exact fun σ4 e4 => ⟨φ4, S4, env4, ll, e4, o4, p4⟩
      | cont env4 => exact fun σ4 e4 => ⟨φ4, S4, env4, ll, e4, o4, p4⟩
      | brk env4 => exact fun σ4 e4 => p4 φ4 H4 .refl o4 σ4 e4
      | ret d => exact fun v r => p4 φ4 H4 .refl o4 v r
      | exc x env4 => exact fun σ4 cv dx e4 xr => p4 φ4 H4 .refl o4 σ4 cv dx e4 xr
    · rw [if_neg hd] at pc
      exact pc.elim
  · have ei : i = s.items.length := by omega
    subst ei
    rw [List.drop_length] at pc
    unfold forL at pc
    by_cases hd : depsOk Sc s.deps = true
    · rw [if_pos hd] at pc
      exact .inl ⟨fd.done φc Hc Sc lc oc hd, postS_next nc oc pc⟩
    · rw [if_neg hd] at pc
      exact pc.elim
theorem while_reads {mt : Env' → M Bool} {mb : Env' → M Fl} {n : Nat} (h : tS K cls W (whileL mt mb n) Z σ H) : tWhile (tT K cls W mt) (tS K cls W mb) Z σ H := by
  obtain ⟨φ, S, env, e, o, p⟩ := h
  refine ⟨fun m σ H => ∃ φ S env, EnvRep K φ H env σ ∧ Ok K cls φ H S ∧ PostS K cls W Z φ H (whileL mt mb m env S), ⟨n, φ, S, env, e, o, p⟩, ?_⟩
  rintro m σc Hc ⟨φc, Sc, envc, nc, oc, pc⟩
  cases m with
  | zero => exact pc.elim
  | succ m =>
    unfold whileL at pc
    refine (runT nc oc pc).mono fun b H1 ⟨φ1, S1, l1, o1, p1⟩ => ?_
    cases b with
    | false => exact postS_next (nc.mono l1) o1 p1
    | true =>
      refine ⟨fun σ' H' => ∃ φ S env, EnvRep K φ H' env σ' ∧ Ok K cls φ H' S ∧ PostS K cls W Z φ H' (whileL mt mb m env S), fun σ' H' z => ⟨m, Nat.lt_succ_self m, z⟩, ?_⟩
      refine bindS (nc.mono l1) o1 p1 fun fl S4 φ4 H4 l4 o4 p4 => ?_
      cases fl with
      | next env4 => exact fun σ4 e4 => ⟨φ4, S4, env4, e4, o4, p4⟩
      | cont env4 => exact fun σ4 e4 => ⟨φ4, S4, env4, e4, o4, p4⟩
      | brk env4 => exact fun σ4 e4 => p4 φ4 H4 .refl o4 σ4 e4
      | ret d => exact fun v r => p4 φ4 H4 .refl o4 v r
      | exc x env4 => exact fun σ4 cv dx e4 xr => p4 φ4 H4 .refl o4 σ4 cv dx e4 xr
end
/-! ### which syntax a statement is -/
variable (g) in
mutual
def okS (c : SC) : Sm → Stmt → Bool
  | .skip, s => (match s with
    | .Pass _ => true
    | .Expr e _ => isDoc e
    | _ => false)
  | .expr e, s => (match s with
    | .Expr e' _ => okE g c e e' && !isComp e'
    | _ => false)
  | .set i e, s => (match s with
    | .Assign [.Name y _] e' _ => okE g c e e' && isTgt c i y
    | _ => false)
  | .unp tg e, s => (match s with
    | .Assign [t] e' _ => (isTuple t && okTg c tg t) && (okE g c e e' && !isTuple e')
    | _ => false)
  | .setIx o i e, s => (match s with
    | .Assign [.Subscript o' i' _] e' _ => okE g c e e' && (okE g c o o' && (okE g c i i' && goodB i'))
    | _ => false)
  | .ret e, s => (match s with
    | .Return (some e') _ => okE g c e e'
    | _ => false)
  | .retN, s => (match s with
    | .Return none _ => true
    | _ => false)
  | .ite t a b, s => (match s with
    | .If t' a' b' _ => okE g c t t' && (okSs c a a' && okSs c b b')
    | _ => false)
  | .for_ tg it body, s => (match s with
    | .For tg' iter body' [] _ => (okI g c it tg' iter && (goodB iter && okTg c tg tg')) && okSs c body body'
    | _ => false)
  | .while_ t body, s => (match s with
    | .While t' body' [] _ => okE g c t t' && okSs c body body'
    | _ => false)
  | .brk, s => (match s with
    | .Break _ => true
    | _ => false)
  | .cont, s => (match s with
    | .Continue _ => true
    | _ => false)
def okSs (c : SC) : Sms → List Stmt → Bool
  | .nil, ss => ss.isEmpty
  | .cons s r, ss => (match ss with
    | s' :: r' => okS c s s' && okSs c r r'
    | [] => false)
end
variable (g cls F) in
structure XOkS (c : SC) (W : WX) (X : Cx) : Prop where
  ok : XOk g cls F c W X
  hs : X.stack = X.env :: X.outer
  hf : X.env.frame = some X.env.locals
  po : PassesOwn (model X.prog X.w) X.A X.env X.xe
theorem swaps_plain {e : Expr} {t : Option Expr} {l : Nat} {env : Env} (h : isComp e = false) : swapsWith e t l env = pure false := by
  cases e <;> first | rfl | (simp [isComp] at h)
theorem swaps_sub {e o i : Expr} {p : Pos} {l : Nat} {env : Env} : swapsWith e (some (.Subscript o i p)) l env = pure false := by
  cases e <;> rfl
theorem swaps_tup {e : Expr} {es : List Expr} {n : Nat} {p : Pos} {l : Nat} {env : Env} : swapsWith e (some (.Tuple es n p)) l env = pure false := by
  cases e <;> rfl
theorem swapsS_tup {e : Expr} {es : List Expr} {n : Nat} {p : Pos} {l : Nat} {env : Env} : swapsWithSole [.Tuple es n p] e l env = pure false := by
  cases e <;> rfl
theorem swapsS_sub {e o i : Expr} {p : Pos} {l : Nat} {env : Env} : swapsWithSole [.Subscript o i p] e l env = pure false := by
  cases e <;> rfl
theorem assign_sub {o i : Expr} {pos : Pos} {env : Env} (h : goodB i = true) (v : Value) : PySem.assign (.Subscript o i pos) env v = (do
      let ov ← holding [v] (PySem.eval o env)
      let iv ← holding [v, ov] (PySem.eval i env)
      standAt pos
      holding [v, ov, iv] (setItem ov iv v)
      release [v, ov, iv] []) := by
  cases i <;> first | rfl | (simp [goodB] at h)
theorem stores_tup {e : Expr} {es : List Expr} {n : Nat} {p : Pos} {env : Env} (h : isTuple e = false) : swappedStores [.Tuple es n p] e env = pure none := by
  cases e <;> first | rfl | (simp [isTuple] at h)
theorem set_name {W : WX} {X : Cx} {c : SC} {i : Nat} {ex : Ex} {y : Str} {py pos : Pos} {e : Expr} (O : XOk g cls F c W X) (h : okE g c ex e = true) (ht : isTgt c i y = true) :
    PS X (.Assign [.Name y py] e pos) (tAsg (tE X.K cls W (eval F ex)) (gName i)) := by
  obtain ⟨h1, h2, h3⟩ := O.tgt ht
  by_cases hc : isComp e = false
  · exact ps_set O.nd h1 h2 (peE ex h O) (swaps_plain hc) h3
  · cases e <;> try (exact absurd rfl hc)
    · -- a list comprehension
      rename_i elt gens scope pos'
      have hsw : swapsWith (.ListComp elt gens scope pos') (some (.Name y py)) pos.line X.env =
          pure (X.env.blockKind == .function && X.env.kindOf y == some .local && py.line == (Expr.ListComp elt gens scope pos').pos.line && !(scope.names.any fun (n, k) => n == y && (k == .local || k == .cell))) := rfl
      cases hb : (X.env.blockKind == .function && X.env.kindOf y == some .local && py.line == (Expr.ListComp elt gens scope pos').pos.line && !(scope.names.any fun (n, k) => n == y && (k == .local || k == .cell))) with
      | false =>
        rw [hb] at hsw
        exact ps_set O.nd h1 h2 (peE ex h O) hsw h3
      | true =>
        rw [hb] at hsw
        have hl : X.env.scope.names.lookup y = some .local := by
          simp only [Bool.and_eq_true] at hb
          exact eq_of_beq hb.1.1.2
        cases ex <;> try (simp [okE] at h; done)
        · rename_i own tg it cond el
          unfold okE at h
          try dsimp only at h
          split at h
          · rename_i e2
            injection e2 with e3 e4 e5 e6
            subst e3 e4 e5 e6
            simp only [Bool.and_eq_true] at h
            obtain ⟨⟨h0, h1', h2'⟩, ⟨h3', h4, h5⟩, h6, h7⟩ := h
            have := eq_of_beq h0
            subst this
            refine PS.imp (ps_setLc (own := own) (wi := tI X.K cls W (src F it)) (g := tG X.K cls tg) (tt := tT X.K cls WF (tests F cond)) (te := tE X.K cls WF (eval F el)) O.calm O.nd h1 hl hsw (piE it h3' O) (by rw [O.N, O.sc]; exact blkOk_by h1') (fun s H C cl fp => (O.blk _ s H C cl fp).pg h5) (fun s H C cl fp => ptsE cond h6 (O.blk _ s H C cl fp))
              (fun s H C cl fp => peE el h7 (O.blk _ s H C cl fp)) (good_folded h4)) ?_
            intro Z σ H q
            exact lc_reads h2' (tE_congr (fun env S => by rw [eval]) q)
          · cases h
    · cases ex <;> (simp [okE] at h)
    · cases ex <;> (simp [okE] at h)
mutual
theorem psS : ∀ (s : Sm) {c : SC} {W : WX} {X : Cx} {st : Stmt}, okS g c s st = true → XOkS g cls F c W X → PS X st (tS X.K cls W (exec F s))
  | .skip, c, W, X, st, h, O => by
    unfold okS at h
    try dsimp only at h
    have hh : ∀ Z σ H, tS X.K cls W (exec F .skip) Z σ H → tNext Z σ H := by
      rintro Z σ H ⟨φ, S, env, e, o, p⟩
      unfold exec at p
      exact postS_next e o p
    split at h
    · exact PS.imp ps_pass hh
    · rename_i e' pos
      unfold isDoc at h
      split at h
      · exact PS.imp ps_doc hh
      · cases h
    · cases h
  | .expr ex, c, W, X, st, h, O => by
    unfold okS at h
    try dsimp only at h
    split at h
    · simp only [Bool.and_eq_true] at h
      refine PS.imp (ps_expr (peE ex h.1 O.ok) (swaps_plain (by simpa using h.2))) ?_
      rintro Z σ H ⟨φ, S, env, e, o, p⟩
      unfold exec at p
      exact (runE e o p).mono fun v H1 ⟨φ1, S1, d, l1, o1, r1, p1⟩ => postS_next (e.mono l1) o1 p1
    · cases h
  | .set i ex, c, W, X, st, h, O => by
    unfold okS at h
    try dsimp only at h
    split at h
    · simp only [Bool.and_eq_true] at h
      refine PS.imp (set_name O.ok h.1 h.2) ?_
      rintro Z σ H ⟨φ, S, env, e, o, p⟩
      unfold exec at p
      exact (runE e o p).mono fun v H1 ⟨φ1, S1, d, l1, o1, r1, p1⟩ => postS_next ((e.mono l1).set i r1) o1 p1
    · cases h
  | .unp tg ex, c, W, X, st, h, O => by
    unfold okS at h
    try dsimp only at h
    split at h
    · simp only [Bool.and_eq_true] at h
      obtain ⟨⟨h0, h1⟩, h2, h3⟩ := h
      rename_i t e' pos
      cases t <;> try (simp [isTuple] at h0; done)
      refine PS.imp (ps_asg (peE ex h2 O.ok) (O.ok.pg (cls := cls) h1) swapsS_tup (stores_tup (by simpa using h3)) rfl) ?_
      rintro Z σ H ⟨φ, S, env, e, o, p⟩
      unfold exec at p
      exact (runE e o p).mono fun v H1 ⟨φ1, S1, d, l1, o1, r1, p1⟩ => runG (e.mono l1) o1 r1 p1 fun env2 σ2 e2 p2 => postS_next e2 o1 p2
    · cases h
  | .setIx ob ix ex, c, W, X, st, h, O => by
    unfold okS at h
    try dsimp only at h
    split at h
    · simp only [Bool.and_eq_true] at h
      obtain ⟨h0, h1, h2, h3⟩ := h
      refine PS.imp (ps_asg (peE ex h0 O.ok) (pg_sub (peE ob h1 O.ok) (peE ix h2 O.ok) (putR (cls := cls)) (assign_sub h3)) swapsS_sub rfl rfl) ?_
      rintro Z σ H ⟨φ, S, env, e, o, p⟩
      unfold exec at p
      refine (runE e o p).mono fun v H1 ⟨φ1, S1, d, l1, o1, r1, p1⟩ => (runE (e.mono l1) o1 p1).mono fun x H2 ⟨φ2, S2, d2, l2, o2, r2, p2⟩ =>
        (runE ((e.mono l1).mono l2) o2 p2).mono fun y H3 ⟨φ3, S3, d3, l3, o3, r3, p3⟩ => ?_
      refine ⟨W, σ, φ3, S3, d2, d3, d, o3, r2.later l3, r3, (r1.later l2).later l3, (runP (((e.mono l1).mono l2).mono l3) p3).imp fun _ S4 φ4 H4 l4 o4 p4 => ?_⟩
      exact postS_next ((((e.mono l1).mono l2).mono l3).mono l4) o4 p4
    · cases h
  | .ret ex, c, W, X, st, h, O => by
    unfold okS at h
    try dsimp only at h
    split at h
    · refine PS.imp (ps_ret (peE ex h O.ok)) ?_
      rintro Z σ H ⟨φ, S, env, e, o, p⟩
      unfold exec at p
      exact (runE e o p).mono fun v H1 ⟨φ1, S1, d, l1, o1, r1, p1⟩ => p1 φ1 H1 .refl o1 v r1
    · cases h
  | .retN, c, W, X, st, h, O => by
    unfold okS at h
    try dsimp only at h
    split at h
    · refine PS.imp ps_retN ?_
      rintro Z σ H ⟨φ, S, env, e, o, p⟩
      unfold exec at p
      exact p φ H .refl o .non (rep_non.mpr rfl)
    · cases h
  | .ite t a b, c, W, X, st, h, O => by
    unfold okS at h
    try dsimp only at h
    split at h
    · simp only [Bool.and_eq_true] at h
      refine PS.imp (ps_if (ptE t h.1 O.ok) (pssS a h.2.1 O) (pssS b h.2.2 O)) ?_
      rintro Z σ H ⟨φ, S, env, e, o, p⟩
      unfold exec at p
      refine (runT e o p).mono fun k H1 ⟨φ1, S1, l1, o1, p1⟩ => ?_
      cases k with
      | true => exact ⟨φ1, S1, env, e.mono l1, o1, p1⟩
      | false => exact ⟨φ1, S1, env, e.mono l1, o1, p1⟩
    · cases h
  | .for_ tg it body, c, W, X, st, h, O => by
    unfold okS at h
    try dsimp only at h
    split at h
    · simp only [Bool.and_eq_true] at h
      obtain ⟨⟨h0, h1, h2⟩, h3⟩ := h
      refine PS.imp (ps_for O.po O.ok.calm (piE it h0 O.ok) (O.ok.pg (cls := cls) h2) (pssS body h3 O) (good_folded h1)) ?_
      intro Z σ H q
      exact for_reads (tS_congr (fun env S => by rw [exec]) q)
    · cases h
  | .while_ t body, c, W, X, st, h, O => by
    unfold okS at h
    try dsimp only at h
    split at h
    · simp only [Bool.and_eq_true] at h
      refine PS.imp (ps_while O.po (ptE t h.1 O.ok) (pssS body h.2 O)) ?_
      intro Z σ H q
      exact while_reads (n := manyTurns) (tS_congr (fun env S => by rw [exec]) q)
    · cases h
  | .brk, c, W, X, st, h, O => by
    unfold okS at h
    try dsimp only at h
    split at h
    · refine PS.imp ps_break ?_
      rintro Z σ H ⟨φ, S, env, e, o, p⟩
      unfold exec at p
      exact p φ H .refl o σ e
    · cases h
  | .cont, c, W, X, st, h, O => by
    unfold okS at h
    try dsimp only at h
    split at h
    · refine PS.imp ps_continue ?_
      rintro Z σ H ⟨φ, S, env, e, o, p⟩
      unfold exec at p
      exact p φ H .refl o σ e
    · cases h
theorem pssS : ∀ (ss : Sms) {c : SC} {W : WX} {X : Cx} {sts : List Stmt}, okSs g c ss sts = true → XOkS g cls F c W X → PSs X sts (tS X.K cls W (execs F ss))
  | .nil, c, W, X, sts, h, O => by
    unfold okSs at h
    have := List.isEmpty_iff.mp h
    subst this
    refine PSs.imp pss_nil ?_
    rintro Z σ H ⟨φ, S, env, e, o, p⟩
    unfold execs at p
    exact postS_next e o p
  | .cons s r, c, W, X, sts, h, O => by
    unfold okSs at h
    try dsimp only at h
    split at h
    · simp only [Bool.and_eq_true] at h
      refine PSs.imp (pss_cons (psS s h.1 O) (pssS r h.2 O)) ?_
      rintro Z σ H ⟨φ, S, env, e, o, p⟩
      unfold execs at p
      refine bindS e o p fun fl S1 φ1 H1 l1 o1 p1 => ?_
      cases fl with
      | next env1 => exact fun σ1 e1 => ⟨φ1, S1, env1, e1, o1, p1⟩
      | cont env4 => exact fun σ4 e4 => p1 φ1 H1 .refl o1 σ4 e4
      | brk env4 => exact fun σ4 e4 => p1 φ1 H1 .refl o1 σ4 e4
      | ret d => exact fun v r => p1 φ1 H1 .refl o1 v r
      | exc x env4 => exact fun σ4 cv dx e4 xr => p1 φ1 H1 .refl o1 σ4 cv dx e4 xr
    · cases h
end
/-! ### defs -/
/-- a def's row: its parameters, its names, its body's syntax -/
theorem fn_ok {P : Program} {w : World} {K : PySem.W.Frag} {mg : Str → Option Value} {base : Heap} {k : Nat} {f : Addr} {fd : FuncData} {x qual : Str} {params : Arguments} {body : List Stmt} {scope : Scope} {dvs : List V} {kws : List (Str × V)} {N ps : List Str} {d : Fd}
    (D : FunD K x qual params body scope dvs kws f fd) (sc : FnScope N ps scope) (hn : N.length = d.n) (hp : ps.length = d.np) (hb : okSs g ⟨N, scope, fun _ => true⟩ d.body body = true)
    (O : ∀ (X : Cx), X.prog = P → X.w = w → X.K = K → X.mg = mg → X.base = base → Room k X.A → ∀ (W : WX), Takes X W → X.N = N → X.env.scope = scope → X.fn = (fun _ => true) → X.calm = true → XOk g cls F ⟨N, scope, fun _ => true⟩ W X) :
    FnOk P w K mg base (L2.CX P w) (k + 1) f fd ps (spF K cls ps.length (runFd F d)) := by
  refine D.ok sc (fun vs H Q E h => h.1) ?_
  rintro cdv A outer s H vs Q E hr ⟨hl, φ, S, ds, o, r, p⟩
  have tk : Takes (cxOf (L2.CX P w) P w K mg base N qual scope f cdv A outer s H E) (fun cls d _ H => E cls d H) := takes_of rfl rfl rfl rfl
  have ok := O (cxOf (L2.CX P w) P w K mg base N qual scope f cdv A outer s H E) rfl rfl rfl rfl rfl hr _ tk rfl rfl rfl rfl
  refine ⟨_, pssS d.body hb ⟨ok, rfl, rfl, passes_of rfl⟩, ?_⟩
  unfold runFd at p
  split at p
  · rename_i hd
    refine ⟨φ, S, ds.map some ++ List.replicate (d.n - d.np) none, ⟨?_, ?_⟩, o, ?_⟩
    · unfold L2.start
      simp [hn, hl, hd, hp]
    · intro i dd hi
      unfold L2.start
      by_cases hlt : i < ds.length
      · rw [List.getElem?_append_left (by simpa using hlt), List.getElem?_map] at hi
        cases q : ds[i]? with
        | none => rw [q] at hi; cases hi
        | some d0 =>
          rw [q] at hi
          cases hi
          obtain ⟨v, e1, e2⟩ := r.get q
          refine ⟨v, ?_, e2⟩
          rw [List.getElem?_append_left (by simpa [r.length] using hlt), List.getElem?_map, e1]
          rfl
      · rw [List.getElem?_append_right (by simpa using hlt)] at hi
        have := List.mem_of_getElem? hi
        have := (List.mem_replicate.mp this).2
        cases this
    · generalize execs F d.body (ds.map some ++ List.replicate (d.n - d.np) none) S = rr at p ⊢
      cases rr with
      | bad => exact p.elim
      | exc x S1 => exact p.elim
      | ok fl S1 =>
        intro φ1 H1 l1 o1
        dsimp only [nox, R.bind] at p
        cases fl with
        | next env => exact fun σ e => p φ1 H1 l1 o1 .non (rep_non.mpr rfl)
        | ret d => exact fun v r => p φ1 H1 l1 o1 v r
        | brk env => exact p.elim
        | cont env => exact p.elim
        | exc x env => exact fun σ cv dx e xr => p cv dx φ1 H1 l1 o1 xr
  · exact p.elim
end PyI
/-! PyiH: a program's defs, its head, a law's end. -/
namespace PyI
open PySem L2
/-! ### constants of the written part -/
mutual
def repK (K : PySem.W.Frag) : D → Value → Bool
  | .non, .none => true
  | .bl b, .bool c => b == c
  | .int i, .int j _ => decide (i = j)
  | .str x, .str y _ => decide (x = y)
  | .tup ds, .ref a => (match K.lookup a with
    | some ⟨.type c, _, .seq its _, _⟩ => decide (c = "tuple") && (decide (its.size ≤ sizeLine) && repKs K ds its.toList)
    | _ => false)
  | .rol ds, .ref a => (match K.lookup a with
    | some ⟨.type c, none, .seq its _, _⟩ => decide (c = "list") && (decide (its.size ≤ sizeLine) && repKs K ds its.toList)
    | _ => false)
  | _, _ => false
def repKs (K : PySem.W.Frag) : List D → List Value → Bool
  | [], [] => true
  | d :: ds, u :: us => repK K d u && repKs K ds us
  | _, _ => false
end
mutual
theorem repK_ok {K : PySem.W.Frag} : ∀ (d : D) (u : Value), repK K d u = true → ∃ v, RelV v u ∧ ∀ φ H, Rep K φ H d v
  | .non, u, h => by cases u <;> simp [repK] at h; exact ⟨.non, rfl, fun _ _ => rep_non.mpr rfl⟩
  | .bl b, u, h => by cases u <;> simp [repK] at h; subst h; exact ⟨.bl b, rfl, fun _ _ => rep_bl.mpr rfl⟩
  | .int b, u, h => by cases u <;> simp [repK] at h; subst h; exact ⟨.int b, ⟨_, rfl⟩, fun _ _ => rep_int.mpr rfl⟩
  | .str b, u, h => by cases u <;> simp [repK] at h; subst h; exact ⟨.str b, ⟨_, rfl⟩, fun _ _ => rep_str.mpr rfl⟩
  | .obj i, u, h => by cases u <;> simp [repK] at h
  | .tup ds, u, h => by
    cases u <;> try (simp [repK] at h; done)
    rename_i a
    unfold repK at h
    split at h
    · rename_i c od its n sl e
      simp only [Bool.and_eq_true, decide_eq_true_eq] at h
      obtain ⟨rfl, h1, h2⟩ := h
      obtain ⟨vs, r, q⟩ := repKs_ok ds its.toList h2
      exact ⟨.ref a, rfl, fun φ H => rep_tup.mpr ⟨a, vs, rfl, .inr ⟨_, its, n, e, rfl, rfl, h1, r⟩, q φ H⟩⟩
    · cases h
  | .rol ds, u, h => by
    cases u <;> try (simp [repK] at h; done)
    rename_i a
    unfold repK at h
    split at h
    · rename_i c its n sl e
      simp only [Bool.and_eq_true, decide_eq_true_eq] at h
      obtain ⟨rfl, h1, h2⟩ := h
      obtain ⟨vs, r, q⟩ := repKs_ok ds its.toList h2
      exact ⟨.ref a, rfl, fun φ H => rep_rol.mpr ⟨a, vs, rfl, .inr ⟨_, its, n, e, rfl, rfl, rfl, h1, r⟩, q φ H⟩⟩
    · cases h
theorem repKs_ok {K : PySem.W.Frag} : ∀ (ds : List D) (us : List Value), repKs K ds us = true → ∃ vs, Vals vs us ∧ ∀ φ H, Reps K φ H ds vs
  | [], us, h => by cases us <;> simp [repKs] at h; exact ⟨[], .nil, fun _ _ => .nil⟩
  | d :: ds, us, h => by
    cases us <;> try (simp [repKs] at h; done)
    rename_i u us
    simp only [repKs, Bool.and_eq_true] at h
    obtain ⟨v, r, q⟩ := repK_ok d u h.1
    obtain ⟨vs, r2, q2⟩ := repKs_ok ds us h.2
    exact ⟨v :: vs, .cons r r2, fun φ H => .cons (q φ H) (q2 φ H)⟩
end
/-! ### the program -/
structure Row where
  x : Str
  st : Stmt
  N : List Str
  ps : List Str
  fd : Fd
def Row.dd (r : Row) : He.DefD := ⟨(r.x, none), r.x, r.x, defArgs r.st, defBody r.st, defScope r.st, [], []⟩
def scopeB (N ps : List Str) (sc : Scope) : Bool :=
  (match sc.kind with | .function => true | _ => false) && ((!sc.isCoroutine && !sc.isGenerator) && (decide N.Nodup && (decide (N.take ps.length = ps) && ((ps.all fun x => locB sc x) && sc.names.all fun y => match y.2 with | .free => false | _ => true))))
theorem scopeB_ok {N ps : List Str} {sc : Scope} (h : scopeB N ps sc = true) : FnScope N ps sc := by
  unfold scopeB at h
  simp only [Bool.and_eq_true, Bool.not_eq_true', decide_eq_true_eq, List.all_eq_true] at h
  obtain ⟨h1, ⟨h2, h3⟩, h4, h5, h6, h7⟩ := h
  refine ⟨?_, h2, h3, h4, h5, fun x hx => locB_ok (h6 x hx), fun y hy e => ?_⟩
  · split at h1
    · assumption
    · cases h1
  · have := h7 y hy
    rw [e] at this
    cases this
def Row.okB (g : GT) (r : Row) : Bool := scopeB r.N r.ps (defScope r.st) && (decide (r.N.length = r.fd.n) && (decide (r.ps.length = r.fd.np) && okSs g ⟨r.N, defScope r.st, fun _ => true⟩ r.fd.body (defBody r.st)))
def Row.Binds' (r : Row) : Prop := ∀ (kV doc pm : Value) (an : Option Addr) (cdv ct : Value) (us : List Value), us.length = r.ps.length → bindArgs (PySem.W.fnOf r.x r.x (defArgs r.st) (defBody r.st) (defScope r.st) .none kV doc pm an cdv ct) ⟨us, []⟩ = pure (r.ps.zip us)
/-! ### the facts that the head gives -/
def impB (K : PySem.W.Frag) (p : Str × String) : Bool := He.eqO (PySem.W.nsIn K mainGlobals p.1) (some (some (.builtin p.2)))
def constB (K : PySem.W.Frag) (p : Str × D) : Bool := match PySem.W.nsIn K mainGlobals p.1 with
  | some (some u) => repK K p.2 u
  | _ => false
def factsB (g : GT) (K : PySem.W.Frag) : Bool := (g.frees.all fun x => (He.Fa.free x).ok K) && ((g.bf.all fun p => impB K p) && ((g.consts.all fun p => constB K p) && g.fns.all fun x => (He.Fa.glo x).ok K))
abbrev AlP : Type := Bool × List He.FnW
def obsP (g : GT) (fn : List He.DefD) (K : PySem.W.Frag) : AlP := (factsB g K && fn.all fun d => d.ok K, fn.map fun d => He.fnW K d.at_)
def valP (fn : List He.DefD) : AlP := (true, fn.map He.DefD.val)
def SaysP (g : GT) (fn : List He.DefD) (K : PySem.W.Frag) : Prop := obsP g fn K = valP fn
def obsPG (n : Nat) (g : GT) (fn : List He.DefD) (G : Addr → Option Obj) : AlP := obsP g fn (He.frG G (He.asD G n))
def hookP (n : Nat) (g : GT) (fn : List He.DefD) : PySem.W.Hook where
  α := AlP
  obs := fun s => obsPG n g fn s.heap.get?
  val := fun _ => valP fn
  says := fun _ h => ∃ K : PySem.W.Frag, K.In h ∧ SaysP g fn K
  of := fun _ _ e => ⟨_, He.frG_in, e⟩
  keeps := fun _ _ _ ⟨K, hK, c⟩ k => ⟨K, PySem.W.Frag.In.keeps hK k, c⟩
theorem obsPG_eq {n : Nat} {g : GT} {fn : List He.DefD} {G : Addr → Option Obj} {s : Shared} (h : ∀ a, G a = s.heap.get? a) : obsPG n g fn G = (hookP n g fn).obs s := by
  have : G = s.heap.get? := funext h
  rw [this]
  rfl
theorem SaysP.facts {g : GT} {fn : List He.DefD} {K : PySem.W.Frag} (c : SaysP g fn K) : factsB g K = true := by
  have e := congrArg Prod.fst c
  exact (Bool.and_eq_true_iff.mp e).1
theorem SaysP.def_ {g : GT} {fn : List He.DefD} {K : PySem.W.Frag} (c : SaysP g fn K) {d : He.DefD} {i : Nat} (h : fn[i]? = some d) : ∃ fd, FunD K d.name d.qual d.params d.body d.scope (d.dvs K) (d.kws K) (He.fAd K d.at_) fd := by
  have e := congrArg Prod.fst c
  have h1 := List.all_eq_true.mp (Bool.and_eq_true_iff.mp e).2 d (List.mem_of_getElem? h)
  have e2 := congrArg (fun l => l[i]?) (congrArg Prod.snd c)
  have e3 : (fn.map fun d => He.fnW K d.at_)[i]? = (fn.map He.DefD.val)[i]? := e2
  rw [List.getElem?_map, List.getElem?_map, h] at e3
  exact He.DefD.funD (Option.some.inj e3) h1
/-! ### every def keeps its promise -/
section
variable {P : Program} {w : World} {K : PySem.W.Frag} {mg : Str → Option Value} {base : Heap} {h : Heap} {g : GT} {rows : List Row} {cls : Nat → Addr}
theorem names_ok (X : K.In h) (G : h.Ns mainGlobals mg) (c : factsB g K = true) (hp : g.frees.all plainB = true) (hb : (g.bf.map (·.1)).all plainB = true) :
    (∀ x, g.frees.contains x = true → mg x = none ∧ x ≠ "__name__" ∧ (x == ("__debug__" : Str)) = false) ∧ (∀ p, g.bf.contains p = true → mg p.1 = some (.builtin p.2) ∧ (p.1 == ("__debug__" : Str)) = false) ∧
    (∀ p, p ∈ g.consts → ∃ u v, mg p.1 = some u ∧ RelV v u ∧ ∀ φ H, Rep K φ H p.2 v) ∧ ∀ (f : Nat) (x : Str), g.fns[f]? = some x → mg x = some (.ref (He.ga K x)) := by
  unfold factsB at c
  simp only [Bool.and_eq_true, List.all_eq_true] at c
  obtain ⟨c1, c2, c3, c4⟩ := c
  refine ⟨fun x hx => ?_, fun p hx => ?_, fun p hx => ?_, fun f x hx => ?_⟩
  · have hm := List.contains_iff_mem.mp hx
    have q := plainB_ok (List.all_eq_true.mp hp x hm)
    exact ⟨He.free_ok X G (c1 x hm), q.2.2, q.1⟩
  · have hm := List.contains_iff_mem.mp hx
    have q := plainB_ok (List.all_eq_true.mp hb p.1 (List.mem_map_of_mem hm))
    exact ⟨PySem.W.mg_of X G (He.eqO_ok (c2 p hm)), q.1⟩
  · have q := c3 p hx
    unfold constB at q
    split at q
    · rename_i u e
      obtain ⟨v, r, z⟩ := repK_ok _ _ q
      exact ⟨u, v, PySem.W.mg_of X G e, r, z⟩
    · cases q
  · exact He.glo_ok X G (c4 x (List.mem_of_getElem? hx))
theorem callN_arity {fds : List Fd} {f : Nat} {fd : Fd} (e : fds[f]? = some fd) {ds : List D} {S : Store} (hl : ds.length ≠ fd.np) : ∀ k, callN fds k f ds S = .bad
  | 0 => rfl
  | k + 1 => by
    unfold callN
    rw [e]
    show runFd _ fd ds S = .bad
    unfold runFd
    rw [if_neg hl]
theorem FnOk.zero {CX : CXT} {f : Addr} {fd : FuncData} {ps : List Str} {sp : Sp} (h : ∀ vs H Q E, ¬ sp vs H Q E) : FnOk P w K mg base CX 0 f fd ps sp :=
  ⟨fun vs H Q E z => (h vs H Q E z).elim, fun _ _ _ H _ _ vs Q E _ _ _ _ z => (h vs H Q E z).elim⟩
theorem all_ok (X : K.In h) (G : h.Ns mainGlobals mg) (c : SaysP g (rows.map Row.dd) K) (hf : g.fns = rows.map (·.x)) (hp : g.frees.all plainB = true) (hb : (g.bf.map (·.1)).all plainB = true) (hr : (rows.all fun r => r.okB g) = true) (hbd : ∀ r ∈ rows, r.Binds') :
    ∀ (k f : Nat) (r : Row) (fd : FuncData), rows[f]? = some r → FunD K r.x r.x (defArgs r.st) (defBody r.st) (defScope r.st) [] [] (He.ga K r.x) fd → FnOk P w K mg base (L2.CX P w) k (He.ga K r.x) fd r.ps (spF K cls r.ps.length (callN (rows.map (·.fd)) k f)) := by
  obtain ⟨n1, n2, n3, n4⟩ := names_ok X G c.facts hp hb
  intro k
  induction k with
  | zero =>
    intro f r fd e D
    refine FnOk.zero ?_
    rintro vs H Q E ⟨_, φ, S, ds, _, _, p⟩
    exact p
  | succ k ih =>
    intro f r fd e D
    have hm := List.mem_of_getElem? e
    have ok := List.all_eq_true.mp hr r hm
    unfold Row.okB at ok
    simp only [Bool.and_eq_true, decide_eq_true_eq] at ok
    obtain ⟨o1, o2, o3, o4⟩ := ok
    have ef : callN (rows.map (·.fd)) (k + 1) f = runFd (callN (rows.map (·.fd)) k) r.fd := by
      funext args
      unfold callN
      rw [List.getElem?_map, e]
      rfl
    rw [ef]
    refine fn_ok (g := g) D (scopeB_ok o1) o2 o3 o4 ?_
    intro Y e1 e2 e3 e4 e5 hroom W tk eN es efn ec
    refine ⟨eN, by rw [eN]; exact (scopeB_ok o1).nd, es, efn, ec, tk, ?_, ?_, ?_, ?_, ?_⟩
    · have := hroom.units
      have := hroom.un
      omega
    · rw [e4]; exact n1
    · rw [e4]; exact n2
    · rw [e3, e4]; exact n3
    · intro f' x' hx'
      have hx2 := hx'
      rw [hf, List.getElem?_map] at hx'
      cases q : rows[f']? with
      | none => rw [q] at hx'; cases hx'
      | some r' =>
        rw [q] at hx'
        cases hx'
        obtain ⟨fd', D'⟩ := c.def_ (d := r'.dd) (i := f') (by rw [List.getElem?_map, q]; rfl)
        have D2 : FunD K r'.x r'.x (defArgs r'.st) (defBody r'.st) (defScope r'.st) [] [] (He.ga K r'.x) fd' := D'
        have ok' := List.all_eq_true.mp hr r' (List.mem_of_getElem? q)
        unfold Row.okB at ok'
        simp only [Bool.and_eq_true, decide_eq_true_eq] at ok'
        have F := ih f' r' fd' q D2
        have B : Binds K fd' r'.ps [] := D2.bindsN (hbd r' (List.mem_of_getElem? q))
        subst e1 e2 e3 e4 e5
        exact ⟨He.ga Y.K r'.x, fd', r'.ps, k, F, hroom, n4 f' _ hx2, D2.kp, B, fun ds S hl => callN_arity (fd := r'.fd) (by rw [List.getElem?_map, q]; rfl) (by rw [← ok'.2.2.1]; exact hl) k⟩
/-- nothing leaves -/
theorem FnOk.no {k : Nat} {f : Addr} {fd : FuncData} {ps : List Str} {sp : Sp} (F : FnOk P w K mg base (L2.CX P w) k f fd ps sp) : FnOk P w K mg base CX0 k f fd ps (fun vs H Q _ => sp vs H Q fun _ _ _ => False) := by
  refine ⟨fun vs H Q E z => F.len vs H Q _ z, fun A outer s H args us vs Q E hr e0 b r z => codeAny_mono (F.run A outer s H args us vs Q _ hr e0 b r z) fun res s' hq => ?_⟩
  cases res with
  | ok fl => cases fl <;> exact hq
  | error e =>
    obtain ⟨_, _, _, _, _, _, _, _, _, _, _, _, z⟩ := hq
    exact z.elim
end
/-! ### the law -/
theorem rol_script {K : PySem.W.Frag} {H : Hp} {a : Addr} {xs : List V} (o : Only H) (s : SqL K H a xs) : RolAt K [] H a xs := by
  rcases s with s | s
  · rcases s with s | ⟨ob, s⟩
    · rcases o a with z | ⟨ob, ys, z⟩
      · rw [z] at s; cases s
      · rw [z] at s; cases s
    · exact .inl ⟨⟨ob, s⟩, by simp⟩
  · exact .inr s
theorem reps_ints {K : PySem.W.Frag} {φ : List Addr} {H : Hp} : ∀ ns : List Int, Reps K φ H (ns.map D.int) (ns.map V.int)
  | [] => .nil
  | n :: ns => .cons (rep_int.mpr rfl) (reps_ints ns)
/-- what the law's def is asked -/
def LawTrue (rows : List Row) (k f : Nat) : Prop := ∀ ns : List Int, ns.length ≤ 63 → ∃ S, callN (rows.map (·.fd)) k f [.rol (ns.map D.int)] [] = .ok (.bl true) S
theorem law_facts {P : Program} {w : World} {h : Heap} {mg : Str → Option Value} {g : GT} {rows : List Row} {fa : Addr} {fl k : Nat} {rl : Row} {K : PySem.W.Frag}
    (X : K.In h) (G : h.Ns mainGlobals mg) (c : SaysP g (rows.map Row.dd) K) (hf : g.fns = rows.map (·.x)) (hp : g.frees.all plainB = true) (hb : (g.bf.map (·.1)).all plainB = true) (hr : (rows.all fun r => r.okB g) = true) (hbd : ∀ r ∈ rows, r.Binds')
    (el : rows[fl]? = some rl) (hx : rl.x = "law") (hps : rl.ps = ([("script" : Str)] : List Str)) (hfa : mg ("law" : Str) = some (.ref fa)) (L : LawTrue rows k fl) :
    ∃ (fd : FuncData) (sp : Sp), (∀ (s : Shared) (u : Value), BindsTo s fd ⟨[u], []⟩ [(("script" : Str), u)]) ∧
        (∀ (H : Hp) (a : Addr) (ns : List Int), ns.length ≤ 63 → Only H → SqL K H a (ns.map V.int) → sp [.ref a] H (fun v _ => v = .bl true) fun _ _ _ => False) ∧
        ∀ base : Heap, K.In base → base.Ns mainGlobals mg → FnOk P w K mg base CX0 k fa fd ([("script" : Str)] : List Str) sp := by
  obtain ⟨_, _, _, n4⟩ := names_ok X G c.facts hp hb
  obtain ⟨fd, D'⟩ := c.def_ (d := rl.dd) (i := fl) (by rw [List.getElem?_map, el]; rfl)
  have D2 : FunD K rl.x rl.x (defArgs rl.st) (defBody rl.st) (defScope rl.st) [] [] (He.ga K rl.x) fd := D'
  have hg : g.fns[fl]? = some rl.x := by rw [hf, List.getElem?_map, el]; rfl
  have ea : fa = He.ga K rl.x := by
    have := n4 fl _ hg
    rw [hx, hfa] at this
    cases this
    rw [hx]
  have hbl := hbd rl (List.mem_of_getElem? el)
  refine ⟨fd, fun vs H Q _ => spF K (fun _ => 0) rl.ps.length (callN (rows.map (·.fd)) k fl) vs H Q fun _ _ _ => False, fun s u => ?_, fun H a ns hl o sq => ?_, fun base b1 b2 => ?_⟩
  · have := FunD.bindsA (ps := rl.ps) D2 hbl s [u] (by rw [hps]; rfl)
    rw [hps] at this
    exact this
  · obtain ⟨S, e⟩ := L ns hl
    refine ⟨by rw [hps]; rfl, [], [], [.rol (ns.map D.int)], ⟨rfl, by simp, fun i a o e => by simp at e⟩, .one (rep_rol.mpr ⟨a, _, rfl, rol_script o sq, reps_ints ns⟩), ?_⟩
    rw [e]
    intro φ' H' _ _ v r
    exact rep_bl.mp r
  · have F := FnOk.no (all_ok (P := P) (w := w) (base := base) (cls := fun _ => 0) b1 b2 c hf hp hb hr hbd k fl rl fd el D2)
    rw [ea]
    rw [hps] at F ⊢
    exact F
end PyI
/-! PyiI: a head whose text begins with imports: opening and top in one kernel run. -/
noncomputable section
namespace PyI
open PySem PySem.W PySem.Calls PyProof.Rows HandSHeadRun
def endS (st : SharedT → Thread → Option (SharedT × Thread)) (M : Nat) (p : Program) (s : Shared) : Option SharedT := match putAll s.heap.objs.toList .nil 0 with
  | some (t, n) => frNat n fun n0 => goF st n0 (s.heap.nsMap mainGlobals "__annotations__") M ⟨t, n, s.heap.life, s.gens, s.drawn, s.toks, s.os⟩ (topStub p)
  | none => none
def impS (L : Nat) (p : Program) (w : World) : Option Shared := fencedOpening treeTable p w L
theorem fenced_mono {p : Program} {w : World} {L N : Nat} {s : Shared} (hN : L ≤ N) (h : fencedOpening treeTable p w L = some s) : fencedOpening treeTable p w N = some s := by
  unfold fencedOpening at h ⊢
  cases e : importEnds treeTable (opening p) w L (PySem.start (opening p)).1 (PySem.start (opening p)).2 with
  | none => rw [e] at h; cases h
  | some s0 =>
    have m := importEnds_mono (N - L) _ _ _ _ e
    rw [show L + (N - L) = N by omega] at m
    rw [e] at h
    rw [m]
    exact h
/-- the state behind the top, and the heap ahead of it -/
def endI (st : SharedT → Thread → Option (SharedT × Thread)) (L M : Nat) (p : Program) (w : World) : Option (Heap × SharedT) := match impS L p w with
  | some s => (match s.heap.isNs mainGlobals && s.gens.size == 0 with
    | true => (endS st M p s).map fun t => (s.heap, t)
    | false => none)
  | none => none
theorem endS_ok {M : Nat} {p : Program} {w : World} {s0 : Shared} {s : SharedT} (h : endS (PySem.W.stepT (denote treeTable) p w) M p s0 = some s) :
    topRun treeTable p w s0.heap.objs.size (s0.heap.nsMap mainGlobals "__annotations__") M s0 (topStub p) = some s.abs := by
  unfold endS at h
  cases e : putAll s0.heap.objs.toList .nil 0 with
  | none =>
    rw [e] at h
    cases h
  | some r =>
    obtain ⟨t, n⟩ := r
    rw [e] at h
    have h1 : (frNat n fun n0 => goF (PySem.W.stepT (denote treeTable) p w) n0 (s0.heap.nsMap mainGlobals "__annotations__") M ⟨t, n, s0.heap.life, s0.gens, s0.drawn, s0.toks, s0.os⟩ (topStub p)) = some s := h
    rw [frNat_eq] at h1
    have q := goF_ok h1
    have eh := putAll_heap e
    have en : s0.heap.objs.size = n := by
      rw [← eh]
      exact absHeap_size t n _
    have eb : (⟨t, n, s0.heap.life, s0.gens, s0.drawn, s0.toks, s0.os⟩ : SharedT).abs = s0 := by
      show (⟨absHeap t n s0.heap.life, s0.gens, s0.drawn, s0.toks, s0.os⟩ : Shared) = _
      rw [eh]
    rw [eb] at q
    rw [en]
    exact q
theorem left_imp {p q : Program} {loose : List Str} {Xt : Shared → Bool} {α : Type} {Yf : Shared → α} {Ya : World → α} {N L M : Nat}
    (hN : Nat.ble L N = true) (le : Nat.ble M N = true)
    (run : ∀ w : World, (endI (PySem.W.stepT (denote treeTable) p w) L M p w).map (fun r => (looksF p r.1 r.2.abs, openSeen q loose (importedModules p.main.body) Xt true r.2.abs, Yf r.2.abs)) = some (true, openGood q loose, Ya w)) :
    LeftO p q loose Xt Yf Ya N true := fun w => by
  obtain ⟨⟨h0, s⟩, hs, hv⟩ := Option.map_eq_some_iff.mp (run w)
  obtain ⟨l1, l2, l3⟩ : _ ∧ _ ∧ _ := by simpa only [Prod.mk.injEq] using hv
  unfold endI at hs
  cases e : impS L p w with
  | none => rw [e] at hs; cases hs
  | some s0 =>
    rw [e] at hs
    dsimp only at hs
    cases g : s0.heap.isNs mainGlobals && s0.gens.size == 0 with
    | false => rw [g] at hs; cases hs
    | true =>
      rw [g] at hs
      obtain ⟨t, ht, ez⟩ := Option.map_eq_some_iff.mp hs
      cases ez
      have r := topRun_mono (N - M) _ _ _ _ (endS_ok ht)
      rw [show M + (N - M) = N by have := Nat.le_of_ble_eq_true le; omega] at r
      have l1' : (staticsOk (importedModules p.main.body) s0.heap s.abs.heap && namesBound p s.abs.heap && gensDone s.abs && laidKept s0.heap s.abs.heap) = true := l1
      have a : fencedOpening treeTable p w N = some s0 := fenced_mono (Nat.le_of_ble_eq_true hN) e
      have t : topFrom treeTable p w N s0 = some s.abs := by
        unfold topFrom
        rw [g]
        show (topRun treeTable p w s0.heap.objs.size (s0.heap.nsMap mainGlobals "__annotations__") N s0 (topStub p)).bind _ = _
        rw [r]
        show (match staticsOk (importedModules p.main.body) s0.heap s.abs.heap && namesBound p s.abs.heap && gensDone s.abs && laidKept s0.heap s.abs.heap with | true => some s.abs | false => none) = _
        rw [l1']
      unfold openEnds
      rw [a]
      show (topFrom treeTable p w N s0).map _ = _
      rw [t]
      exact congrArg some (Prod.ext l2 l3)
/-- the run's equation at a world -/
def RunI (r : OpenRow) (q : Program) (H : Hook) (ob : SharedT → H.α) (L M : Nat) (loose : List PySem.Str) (w : World) : Prop :=
  (endI (stepQ (denQ tabQ) r.prog w) L M r.prog w).map (fun s => (looksF r.prog s.1 s.2.abs, seenQ q loose (importedModules r.prog.main.body) (fun s => xlAt q [] s && recOk r.toRowW.records s) s.2.abs, ob s.2)) = some (true, openGood q loose, H.val w)
theorem head_imp {r : OpenRow} {q : Program} {H : Hook} {ob : SharedT → H.α} {L M : Nat} {loose : List PySem.Str} {d : DefRec} {kwd : List (PySem.Str × PySem.Expr)} (ho : ∀ s : SharedT, ob s = H.obs s.abs)
    (run : ∀ w, RunI r q H ob L M loose w)
    (hdef : defOf q r.name = some (d, kwd)) (hp : r.prog.theDef r.name = some (d.params, d.body, d.scope)) (hk : kwWritten? d.params.kwonlyargs d.params.kw_defaults = some kwd)
    (hwr : (!r.writes || r.records.isEmpty) = true) (k1 : r.wellSaid = true) (ok : (chainsOk q && opensWell r.prog && (frees r.toRowW && r.within.isEmpty)) = true) (hb : r.prog.bare) (hw : r.toRowW.promised)
    (call : WalkO q loose (XL q []) H.says r.toRowW d kwd fun f vs => PySem.call f vs) : r.Holds := by
  have left : LeftO r.prog q loose (fun s => xlAt q [] s && recOk r.toRowW.records s) H.obs H.val (M + L) true :=
    left_imp (L := L) (M := M) (Nat.ble_eq_true_of_le (by omega)) (Nat.ble_eq_true_of_le (by omega)) fun w => by
      have z := run w
      have eo : ob = fun s => H.obs s.abs := funext ho
      unfold RunI at z
      rw [eo] at z
      simp only [seenQ_eq, stepQ_eq, denQ_eq, tabQ_eq]
      exact z
  exact holds_open (r := r) (q := q) (loose := loose) (XP := XL q []) (YP := H.says) (d := d) (kwd := kwd) left H.of H.keeps (fun s z => xl_of s (Bool.and_eq_true_iff.mp z).1) XL.keeps hdef hp hk (fun s z => recFacts_of (Bool.and_eq_true_iff.mp z).2) hwr k1 ok hb hw call
end PyI
/-! PyiJ: reasoning about the interpreter. -/
namespace PyI
open PySem L2
/-- it answers, and the answer is such; E: of what it raises -/
def Rt {α : Type} (r : R α) (P : α → Store → Prop) (E : Xn → Store → Prop) : Prop := match r with
  | .ok a S => P a S
  | .exc x S => E x S
  | .bad => False
/-- nothing is raised -/
def nx : Xn → Store → Prop := fun _ _ => False
section
variable {α β : Type} {r r' : R α} {P P' : α → Store → Prop} {E E' : Xn → Store → Prop} {S : Store}
theorem Rt.congr (h : r = r') : Rt r P E = Rt r' P E := by rw [h]
theorem Rt.imp2 (h : Rt r P E) (f : ∀ a S, P a S → P' a S) (f' : ∀ a S, E a S → E' a S) : Rt r P' E' := by
  cases r with
  | ok a S => exact f a S h
  | exc x S => exact f' x S h
  | bad => exact h
theorem Rt.imp (h : Rt r P E) (f : ∀ a S, P a S → P' a S) : Rt r P' E := h.imp2 f fun _ _ z => z
/-- a spec that raises nothing, in any place -/
theorem Rt.use (h : Rt r P nx) (f : ∀ a S, P a S → P' a S) : Rt r P' E := h.imp2 f fun _ _ z => z.elim
theorem Rt.ex (h : Rt r P nx) : ∃ a S, r = .ok a S ∧ P a S := by
  cases r with
  | ok a S => exact ⟨a, S, rfl, h⟩
  | exc x S => exact h.elim
  | bad => exact h.elim
theorem Rt.of {a : α} (e : r = .ok a S) (h : P a S) : Rt r P E := by rw [e]; exact h
theorem Rt_ok {a : α} : Rt (.ok a S) P E = P a S := rfl
theorem Rt_exc {x : Xn} : Rt (.exc x S : R α) P E = E x S := rfl
theorem Rt_bad : Rt (.bad : R α) P E = False := rfl
theorem Rt_bind {f : α → Store → R β} {Q : β → Store → Prop} : Rt (r.bind f) Q E = Rt r (fun a S => Rt (f a S) Q E) E := by
  cases r <;> rfl
theorem Rt_run {env : Env'} {k : α → Store → R Fl} {Q : Fl → Store → Prop} : Rt (run r env k) Q E = Rt r (fun a S => Rt (k a S) Q E) (fun x S => Q (.exc x env) S) := by
  cases r <;> rfl
theorem Rt_nox (h : Rt r P nx) : Rt (nox r) P E := by
  cases r with
  | ok a S => exact h
  | exc x S => exact h.elim
  | bad => exact h.elim
theorem Rt_ite {c : Prop} [Decidable c] {a b : R α} : Rt (if c then a else b) P E = if c then Rt a P E else Rt b P E := by
  split <;> rfl
theorem Rt_if {c : Prop} [Decidable c] {a b : R α} (h1 : c → Rt a P E) (h2 : ¬ c → Rt b P E) : Rt (if c then a else b) P E := by
  split
  · exact h1 (by assumption)
  · exact h2 (by assumption)
theorem Rt_ifB {c : Bool} {a b : R α} (h1 : c = true → Rt a P E) (h2 : c = false → Rt b P E) : Rt (if c = true then a else b) P E := by
  cases c
  · exact h2 rfl
  · exact h1 rfl
end
theorem run_ok {α : Type} {a : α} {S : Store} {env : Env'} {k : α → Store → R Fl} : run (.ok a S) env k = k a S := rfl
/-! ### loops by invariants -/
section
variable {deps : List (Nat × List D)} {tg : Tg} {body : Env' → M Fl} {P : Fl → Store → Prop} {E : Xn → Store → Prop}
/-- what a turn must reach -/
def Turn (I : Env' → Store → Prop) (P : Fl → Store → Prop) (fl : Fl) (S : Store) : Prop := match fl with
  | .next e => I e S
  | .cont e => I e S
  | .brk e => P (.next e) S
  | .ret d => P (.ret d) S
  | .exc x e => P (.exc x e) S
theorem Turn_next {I : Env' → Store → Prop} {e : Env'} {S : Store} : Turn I P (.next e) S = I e S := rfl
theorem Turn_cont {I : Env' → Store → Prop} {e : Env'} {S : Store} : Turn I P (.cont e) S = I e S := rfl
theorem Turn_brk {I : Env' → Store → Prop} {e : Env'} {S : Store} : Turn I P (.brk e) S = P (.next e) S := rfl
theorem Turn_ret {I : Env' → Store → Prop} {d : D} {S : Store} : Turn I P (.ret d) S = P (.ret d) S := rfl
theorem Turn_exc {I : Env' → Store → Prop} {x : Xn} {e : Env'} {S : Store} : Turn I P (.exc x e) S = P (.exc x e) S := rfl
theorem Rt_forL (I : Nat → Env' → Store → Prop) (dep : ∀ i env S, I i env S → depsOk S deps = true) : ∀ (items : List D) (n : Nat) (env : Env') (S : Store), I n env S →
    (∀ i d env S, items[i]? = some d → I (n + i) env S → Rt (run (assign tg d env S) env fun e1 S1 => body e1 S1) (Turn (I (n + i + 1)) P) E) →
    (∀ env S, I (n + items.length) env S → P (.next env) S) → Rt (forL deps tg body items env S) P E
  | [], n, env, S, h0, _, fin => by
    unfold forL
    rw [if_pos (dep _ _ _ h0)]
    exact fin env S h0
  | d :: ds, n, env, S, h0, step, fin => by
    unfold forL
    rw [if_pos (dep _ _ _ h0)]
    have st := step 0 d env S rfl h0
    cases ha : assign tg d env S with
    | bad => rw [ha] at st; exact st.elim
    | exc x S1 =>
      rw [ha] at st
      exact st
    | ok e1 S1 =>
      rw [ha] at st
      show Rt ((body e1 S1).bind fun fl S2 => turn fl (forL deps tg body ds) S2) P E
      rw [Rt_bind]
      refine Rt.imp (show Rt (body e1 S1) _ E from st) fun fl S2 z => ?_
      have more : ∀ e S2, I (n + 0 + 1) e S2 → Rt (forL deps tg body ds e S2) P E := fun e S2 z => Rt_forL I dep ds (n + 1) e S2 z (fun i d env S e1 z => by
          have := step (i + 1) d env S e1 (by rw [show n + (i + 1) = n + 1 + i by omega]; exact z)
          rw [show n + (i + 1) + 1 = n + 1 + i + 1 by omega] at this
          exact this) fun env S z => fin env S (by rw [List.length_cons, show n + (ds.length + 1) = n + 1 + ds.length by omega]; exact z)
      cases fl with
      | next e => exact more e S2 z
      | cont e => exact more e S2 z
      | brk e => exact z
      | ret d => exact z
      | exc x e => exact z
/-- from the first turn on -/
theorem Rt_for (I : Nat → Env' → Store → Prop) {items : List D} {env : Env'} {S : Store} (h0 : I 0 env S) (dep : ∀ i env S, I i env S → depsOk S deps = true)
    (step : ∀ i d env S, items[i]? = some d → I i env S → Rt (run (assign tg d env S) env fun e1 S1 => body e1 S1) (Turn (I (i + 1)) P) E)
    (fin : ∀ env S, I items.length env S → P (.next env) S) : Rt (forL deps tg body items env S) P E :=
  Rt_forL I dep items 0 env S h0 (fun i d env S e z => by
    rw [Nat.zero_add] at z ⊢
    exact step i d env S e z) fun env S z => by
      rw [Nat.zero_add] at z
      exact fin env S z
/-- while, by an invariant with a measure below the fuel -/
theorem Rt_while {t : Env' → M Bool} (I : Env' → Store → Prop) (μ : Env' → Store → Nat) (step : ∀ env S, I env S → Rt (run (t env S) env fun k S1 => if k = true then body env S1 else .ok (.brk env) S1) (Turn (fun e S' => I e S' ∧ μ e S' < μ env S) P) E) :
    ∀ (n : Nat) (env : Env') (S : Store), I env S → μ env S < n → Rt (whileL t body n env S) P E
  | 0, env, S, _, h => by omega
  | n + 1, env, S, h0, hm => by
    unfold whileL
    have st := step env S h0
    cases ht : t env S with
    | bad => rw [ht] at st; exact st.elim
    | exc x S1 =>
      rw [ht] at st
      exact st
    | ok k S1 =>
      rw [ht] at st
      have st : Rt (if k = true then body env S1 else .ok (.brk env) S1) _ E := st
      show Rt (if k = true then _ else _) P E
      cases k with
      | false => exact st
      | true =>
        rw [if_pos rfl] at st ⊢
        rw [Rt_bind]
        refine Rt.imp st fun fl S2 z => ?_
        cases fl with
        | next e => exact Rt_while I μ step n e S2 z.1 (by have := z.2; omega)
        | cont e => exact Rt_while I μ step n e S2 z.1 (by have := z.2; omega)
        | brk e => exact z
        | ret d => exact z
        | exc x e => exact z
/-- a comprehension by an invariant over what is made so far -/
def TurnC (I : List D → Store → Prop) (acc : List D) (o : Option D) (S : Store) : Prop := match o with
  | none => I acc S
  | some x => acc.length < sizeLine ∧ I (acc ++ [x]) S
theorem TurnC_none {I : List D → Store → Prop} {acc : List D} {S : Store} : TurnC I acc none S = I acc S := rfl
theorem TurnC_some {I : List D → Store → Prop} {acc : List D} {x : D} {S : Store} : TurnC I acc (some x) S = (acc.length < sizeLine ∧ I (acc ++ [x]) S) := rfl
theorem Rt_lcL {turn : D → M (Option D)} {Q : D → Store → Prop} (I : Nat → List D → Store → Prop) (dep : ∀ i acc S, I i acc S → depsOk S deps = true) : ∀ (items : List D) (n : Nat) (acc : List D) (S : Store), I n acc S →
    (∀ i d acc S, items[i]? = some d → I (n + i) acc S → Rt (turn d S) (TurnC (I (n + i + 1)) acc) E) →
    (∀ acc S, I (n + items.length) acc S → Q (.obj S.length) (S ++ [.lst acc])) → Rt (lcL deps turn items acc S) Q E
  | [], n, acc, S, h0, _, fin => by
    unfold lcL
    rw [if_pos (dep _ _ _ h0)]
    exact fin acc S h0
  | d :: ds, n, acc, S, h0, step, fin => by
    unfold lcL
    rw [if_pos (dep _ _ _ h0), Rt_bind]
    refine Rt.imp (step 0 d acc S rfl h0) fun o S2 z => ?_
    have more : ∀ acc2, I (n + 1) acc2 S2 → Rt (lcL deps turn ds acc2 S2) Q E := fun acc2 z => Rt_lcL I dep ds (n + 1) acc2 S2 z (fun i d acc S e1 z => by
        have := step (i + 1) d acc S e1 (by rw [show n + (i + 1) = n + 1 + i by omega]; exact z)
        rw [show n + (i + 1) + 1 = n + 1 + i + 1 by omega] at this
        exact this) fun acc S z => fin acc S (by rw [List.length_cons, show n + (ds.length + 1) = n + 1 + ds.length by omega]; exact z)
    cases o with
    | none => exact more acc z
    | some x =>
      show Rt (if acc.length < sizeLine then _ else _) Q E
      rw [if_pos z.1]
      exact more _ z.2
theorem Rt_lc {turn : D → M (Option D)} {Q : D → Store → Prop} (I : Nat → List D → Store → Prop) {items : List D} {S : Store} (h0 : I 0 [] S) (dep : ∀ i acc S, I i acc S → depsOk S deps = true)
    (step : ∀ i d acc S, items[i]? = some d → I i acc S → Rt (turn d S) (TurnC (I (i + 1)) acc) nx)
    (fin : ∀ acc S, I items.length acc S → Q (.obj S.length) (S ++ [.lst acc])) : Rt (nox (lcL deps turn items [] S)) Q E :=
  Rt_nox (Rt_lcL I dep items 0 [] S h0 (fun i d acc S e z => by
    rw [Nat.zero_add] at z ⊢
    exact step i d acc S e z) fun acc S z => by
      rw [Nat.zero_add] at z
      exact fin acc S z)
end
/-! ### calls -/
theorem callN_succ {fds : List Fd} {k f : Nat} {fd : Fd} {args : List D} {S : Store} (e : fds[f]? = some fd) : callN fds (k + 1) f args S = runFd (callN fds k) fd args S := by
  unfold callN
  rw [e]
/-- what a def's body must reach -/
def Back (P : D → Store → Prop) (E : Xn → Store → Prop) (fl : Fl) (S : Store) : Prop := match fl with
  | .next _ => P .non S
  | .ret d => P d S
  | .exc x _ => E x S
  | _ => False
section
variable {P : D → Store → Prop} {E : Xn → Store → Prop} {S : Store}
theorem Back_next {e : Env'} : Back P E (.next e) S = P .non S := rfl
theorem Back_ret {d : D} : Back P E (.ret d) S = P d S := rfl
theorem Back_exc {x : Xn} {e : Env'} : Back P E (.exc x e) S = E x S := rfl
theorem Rt_call {fds : List Fd} {k f : Nat} {fd : Fd} {args : List D} (e : fds[f]? = some fd) (hl : args.length = fd.np)
    (h : Rt (execs (callN fds k) fd.body (args.map some ++ List.replicate (fd.n - fd.np) none) S) (Back P E) nx) : Rt (callN fds (k + 1) f args S) P E := by
  rw [callN_succ e]
  unfold runFd
  rw [if_pos hl, Rt_bind]
  refine Rt_nox (Rt.imp h fun fl S' z => ?_)
  cases fl with
  | next e => exact z
  | ret d => exact z
  | brk e => exact z.elim
  | cont e => exact z.elim
  | exc x e => exact z
end
/-- what stands behind a statement -/
def Then (F : Nat → List D → M D) (r : Sms) (P : Fl → Store → Prop) (E : Xn → Store → Prop) (fl : Fl) (S : Store) : Prop := match fl with
  | .next e => Rt (execs F r e S) P E
  | fl => P fl S
section
variable {F : Nat → List D → M D} {r : Sms} {P : Fl → Store → Prop} {E : Xn → Store → Prop} {S : Store}
theorem Then_next {e : Env'} : Then F r P E (.next e) S = Rt (execs F r e S) P E := rfl
theorem Then_ret {d : D} : Then F r P E (.ret d) S = P (.ret d) S := rfl
theorem Then_brk {e : Env'} : Then F r P E (.brk e) S = P (.brk e) S := rfl
theorem Then_cont {e : Env'} : Then F r P E (.cont e) S = P (.cont e) S := rfl
theorem Then_exc {x : Xn} {e : Env'} : Then F r P E (.exc x e) S = P (.exc x e) S := rfl
theorem Rt_nil {env : Env'} : Rt (execs F .nil env S) P E = P (.next env) S := rfl
theorem Rt_cons {s : Sm} {env : Env'} : Rt (execs F (.cons s r) env S) P E = Rt (exec F s env S) (Then F r P E) E := by
  unfold execs
  rw [Rt_bind]
  congr 1
  funext fl S'
  cases fl <;> rfl
end
/-! ### a store that stays -/
/-- all objects but these are as they were -/
def Stays (X : List Nat) (S S' : Store) : Prop := S.length ≤ S'.length ∧ ∀ j, j < S.length → j ∉ X → S'[j]? = S[j]?
theorem Stays.refl {X : List Nat} {S : Store} : Stays X S S := ⟨Nat.le_refl _, fun _ _ _ => rfl⟩
theorem Stays.trans {X : List Nat} {S S1 S2 : Store} (a : Stays X S S1) (b : Stays X S1 S2) : Stays X S S2 :=
  ⟨Nat.le_trans a.1 b.1, fun j hj hx => (b.2 j (Nat.lt_of_lt_of_le hj a.1) hx).trans (a.2 j hj hx)⟩
theorem Stays.mono {X Y : List Nat} {S S' : Store} (a : Stays X S S') (h : ∀ x ∈ X, x ∈ Y) : Stays Y S S' := ⟨a.1, fun j hj hy => a.2 j hj fun z => hy (h j z)⟩
theorem Stays.get {X : List Nat} {S S' : Store} (a : Stays X S S') {j : Nat} {o : O} (h : S[j]? = some o) (hx : j ∉ X) : S'[j]? = some o :=
  (a.2 j (List.getElem?_eq_some_iff.mp h).1 hx).trans h
theorem Stays.add {X : List Nat} {S : Store} {T : Store} : Stays X S (S ++ T) := ⟨by simp, fun j hj _ => List.getElem?_append_left hj⟩
theorem Stays.set {X : List Nat} {S : Store} {i : Nat} {o : O} (h : i ∈ X) : Stays X S (S.set i o) := ⟨by simp, fun j hj hx => List.getElem?_set_ne fun z : i = j => hx (by rw [← z]; exact h)⟩
theorem get_new {S : Store} {o : O} : (S ++ [o])[S.length]? = some o := by simp
theorem get_old {S T : Store} {i : Nat} {o : O} (h : S[i]? = some o) : (S ++ T)[i]? = some o := by
  rw [List.getElem?_append_left (List.getElem?_eq_some_iff.mp h).1]; exact h
theorem depsOk_of {S : Store} {i : Nat} {ds : List D} (h : S[i]? = some (.lst ds)) : depsOk S [(i, ds)] = true := by
  unfold depsOk
  simp [h, beqDs_refl]
theorem depsOk_two {S : Store} {i j : Nat} {ds es : List D} (h : S[i]? = some (.lst ds)) (h' : S[j]? = some (.lst es)) : depsOk S [(i, ds), (j, es)] = true := by
  unfold depsOk
  simp [h, h', beqDs_refl]
end PyI
/-! PyiK: one step at a time. -/
namespace PyI
open PySem L2
/-- two ways -/
def Br (k : Bool) (A B : Prop) : Prop := if k = true then A else B
theorem Br.congr {k k' : Bool} {A B : Prop} (h : k = k') : Br k A B = Br k' A B := by rw [h]
theorem Br_true {A B : Prop} : Br true A B = A := by simp [Br]
theorem Br_false {A B : Prop} : Br false A B = B := by simp [Br]
theorem Br.mk {k : Bool} {A B : Prop} (h1 : k = true → A) (h2 : k = false → B) : Br k A B := by
  cases k
  · exact h2 rfl
  · exact h1 rfl
theorem Br.dec {p : Prop} [Decidable p] {A B : Prop} (h1 : p → A) (h2 : ¬ p → B) : Br (decide p) A B :=
  .mk (fun e => h1 (of_decide_eq_true e)) fun e => h2 (of_decide_eq_false e)
/-- a condition, then what follows -/
def Nd (c : Prop) (A : Prop) : Prop := c ∧ A
theorem Nd.congr {c c' : Prop} {A : Prop} (h : c = c') : Nd c A = Nd c' A := by rw [h]
theorem Nd_true {A : Prop} : Nd True A = A := by simp [Nd]
theorem Nd.mk {c A : Prop} (h1 : c) (h2 : A) : Nd c A := ⟨h1, h2⟩
def VarP (o : Option (Option D)) (P : D → Store → Prop) (S : Store) : Prop := match o with
  | some (some d) => P d S
  | _ => False
theorem VarP.congr {o o' : Option (Option D)} {P : D → Store → Prop} {S : Store} (h : o = o') : VarP o P S = VarP o' P S := by rw [h]
theorem VarP_some {d : D} {P : D → Store → Prop} {S : Store} : VarP (some (some d)) P S = P d S := rfl
def OptP {α : Type} (o : Option α) (P : α → Prop) : Prop := match o with
  | some d => P d
  | none => False
theorem OptP.congr {α : Type} {o o' : Option α} {P : α → Prop} (h : o = o') : OptP o P = OptP o' P := by rw [h]
theorem OptP_some {α : Type} {d : α} {P : α → Prop} : OptP (some d) P = P d := rfl
/-- a list object's items -/
def LstP (o : Option O) (P : List D → Prop) : Prop := match o with
  | some (.lst ds) => P ds
  | _ => False
theorem LstP.congr {o o' : Option O} {P : List D → Prop} (h : o = o') : LstP o P = LstP o' P := by rw [h]
theorem LstP_some {ds : List D} {P : List D → Prop} : LstP (some (.lst ds)) P = P ds := rfl
section
variable {F : Nat → List D → M D} {P : D → Store → Prop} {PB : Bool → Store → Prop} {PL : List D → Store → Prop} {PF : Fl → Store → Prop} {E : Xn → Store → Prop} {S : Store} {env : Env'}
/-! ### expressions -/
theorem sv_var {i : Nat} : Rt (eval F (.var i) env S) P E = VarP env[i]? P S := by
  unfold eval VarP
  try dsimp only
  cases env[i]? with
  | none => rfl
  | some o => cases o <;> rfl
theorem sv_int {i : Int} : Rt (eval F (.int i) env S) P E = P (.int i) S := rfl
theorem sv_bl {i : Bool} : Rt (eval F (.bl i) env S) P E = P (.bl i) S := rfl
theorem sv_non : Rt (eval F .non env S) P E = P .non S := rfl
theorem sv_str {i : Str} : Rt (eval F (.str i) env S) P E = P (.str i) S := rfl
theorem sv_glob {x : Str} {d : D} : Rt (eval F (.glob x d) env S) P E = P d S := rfl
theorem sv_bin {op : Operator} {a b : Ex} : Rt (eval F (.bin op a b) env S) P E = Rt (eval F a env S) (fun x S => Rt (eval F b env S) (fun y S => Rt (binD op x y S) P E) E) E := by
  rw [eval]; simp only [Rt_bind]
theorem sv_neg {a : Ex} : Rt (eval F (.neg a) env S) P E = Rt (eval F a env S) (fun x S => Rt (negD x S) P E) E := by
  rw [eval]; simp only [Rt_bind]
theorem sv_cmp {op : CmpOp} {a b : Ex} : Rt (eval F (.cmp op a b) env S) P E = Rt (eval F a env S) (fun x S => Rt (eval F b env S) (fun y S => Rt (cmpD op x y S) (fun k S => P (.bl k) S) E) E) E := by
  rw [eval]; simp only [Rt_bind, Rt_ok]
theorem sv_chain {op op2 : CmpOp} {a b c : Ex} : Rt (eval F (.chain op op2 a b c) env S) P E = Rt (eval F a env S) (fun x S => Rt (eval F b env S) (fun y S => Rt (cmpD op x y S) (fun k S => Br k (Rt (eval F c env S) (fun z S => Rt (cmpD op2 y z S) (fun k S => P (.bl k) S) E) E) (P (.bl false) S)) E) E) E := by
  rw [eval]; simp only [Rt_bind, Rt_ok, Rt_ite, Br]
theorem sv_and {a b : Ex} : Rt (eval F (.and a b) env S) P E = Rt (eval F a env S) (fun x S => match x with
    | .bl k => Br k (Rt (eval F b env S) P E) (P (.bl false) S)
    | _ => False) E := by
  rw [eval]; simp only [Rt_bind]
  congr 1
  funext x S
  cases x <;> try rfl
  simp only [Rt_ite, Br, Rt_ok]
theorem sv_or {a b : Ex} : Rt (eval F (.or a b) env S) P E = Rt (eval F a env S) (fun x S => match x with
    | .bl k => Br k (P (.bl true) S) (Rt (eval F b env S) P E)
    | _ => False) E := by
  rw [eval]; simp only [Rt_bind]
  congr 1
  funext x S
  cases x <;> try rfl
  simp only [Rt_ite, Br, Rt_ok]
theorem sv_one {a : Ex} : Rt (eval F (.one a) env S) P E = Rt (eval F a env S) P E := by rw [eval]
theorem sv_not {a : Ex} : Rt (eval F (.not a) env S) P E = Rt (eval F a env S) (fun x S => match x with
    | .bl k => P (.bl (!k)) S
    | _ => False) E := by
  rw [eval]; simp only [Rt_bind]
  congr 1
  funext x S
  cases x <;> rfl
theorem sv_ite {t a b : Ex} : Rt (eval F (.ite t a b) env S) P E = Rt (test F t env S) (fun k S => Br k (Rt (eval F a env S) P E) (Rt (eval F b env S) P E)) E := by
  rw [eval]; simp only [Rt_bind, Rt_ite, Br]
theorem sv_tup {es : Exs} : Rt (eval F (.tup es) env S) P E = Rt (evals F es env S) (fun ds S => Nd (ds.length ≤ sizeLine) (P (.tup ds) S)) E := by
  rw [eval]; simp only [Rt_bind]
  congr 1
  funext x S
  by_cases h : x.length ≤ sizeLine <;> simp [h, Rt, Nd]
theorem sv_lst {es : Exs} : Rt (eval F (.lst es) env S) P E = Rt (evals F es env S) (fun ds S => Nd (ds.length ≤ sizeLine) (P (.obj S.length) (S ++ [.lst ds]))) E := by
  rw [eval]; simp only [Rt_bind]
  congr 1
  funext x S
  by_cases h : x.length ≤ sizeLine <;> simp [h, Rt, Nd, alloc]
theorem sv_ix {a b : Ex} : Rt (eval F (.ix a b) env S) P E = Rt (eval F a env S) (fun x S => Rt (eval F b env S) (fun y S => Rt (ixD x y S) P E) E) E := by
  rw [eval]; simp only [Rt_bind]
theorem sv_sl {a : Ex} {l h : OEx} : Rt (eval F (.sl a l h) env S) P E = Rt (eval F a env S) (fun x S => Rt (evalO F l env S) (fun l S => Rt (evalO F h env S) (fun h S => Rt (slD x l h S) P E) E) E) E := by
  rw [eval]; simp only [Rt_bind]
theorem sv_call {f : Nat} {es : Exs} : Rt (eval F (.call f es) env S) P E = Rt (evals F es env S) (fun ds S => Rt (F f ds S) P E) E := by
  rw [eval]; simp only [Rt_bind]
theorem sv_blt {f : Bn} {es : Exs} : Rt (eval F (.blt f es) env S) P E = Rt (evals F es env S) (fun ds S => Rt (bltD f ds S) P E) E := by
  rw [eval]; simp only [Rt_bind]
theorem sv_isi {a : Ex} {t : Ty} : Rt (eval F (.isi a t) env S) P E = Rt (eval F a env S) (fun x S => OptP (isiD S x t) fun k => P (.bl k) S) E := by
  rw [eval]; simp only [Rt_bind]
  congr 1
  funext x S
  cases isiD S x t <;> rfl
theorem sv_mth {m : Mn} {o : Ex} {es : Exs} : Rt (eval F (.mth m o es) env S) P E = Rt (eval F o env S) (fun x S => Nd (m.isTy S x = true) (Rt (evals F es env S) (fun ds S => Rt (mthD m x ds S) P E) E)) E := by
  rw [eval]; simp only [Rt_bind]
  congr 1
  funext x S
  by_cases h : m.isTy S x = true
  · rw [if_pos h]
    simp only [Rt_bind, Nd, h, true_and]
  · rw [if_neg h]
    simp only [Rt_bad, Nd, h, false_and]
    simp
theorem sv_lc {own : List (Str × Nat)} {tg : Tg} {it : Iu} {cond : OEx} {e : Ex} : Rt (eval F (.lc own tg it cond e) env S) P E = Rt (src F it env S) (fun s S => Rt (nox (lcL s.deps (fun d S => (assign tg d (wipeE env (own.map (·.2))) S).bind fun env2 S =>
      (tests F cond env2 S).bind fun k S => if k = true then (eval F e env2 S).bind fun x S => .ok (some x) S else .ok none S) s.items [] S)) P E) E := by
  rw [eval]; simp only [Rt_bind]
/-- a comprehension's turn -/
theorem sv_turn {tg : Tg} {env1 : Env'} {cond : OEx} {e : Ex} {d : D} {Q : Option D → Store → Prop} : Rt ((assign tg d env1 S).bind fun env2 S => (tests F cond env2 S).bind fun k S => if k = true then (eval F e env2 S).bind fun x S => .ok (some x) S else .ok none S) Q E =
    Rt (assign tg d env1 S) (fun env2 S => Rt (tests F cond env2 S) (fun k S => Br k (Rt (eval F e env2 S) (fun x S => Q (some x) S) E) (Q none S)) E) E := by
  simp only [Rt_bind, Rt_ite, Br, Rt_ok]
theorem sv_esnil : Rt (evals F .nil env S) PL E = PL [] S := rfl
theorem sv_escons {e : Ex} {r : Exs} : Rt (evals F (.cons e r) env S) PL E = Rt (eval F e env S) (fun d S => Rt (evals F r env S) (fun ds S => PL (d :: ds) S) E) E := by
  rw [evals]; simp only [Rt_bind, Rt_ok]
theorem sv_no {PO : Option Int → Store → Prop} : Rt (evalO F .no env S) PO E = PO none S := rfl
theorem sv_yes {e : Ex} {PO : Option Int → Store → Prop} : Rt (evalO F (.yes e) env S) PO E = Rt (eval F e env S) (fun d S => match d with
    | .int i => PO (some i) S
    | _ => False) E := by
  rw [evalO]; simp only [Rt_bind]
  congr 1
  funext x S
  cases x <;> rfl
theorem sv_tno : Rt (tests F .no env S) PB E = PB true S := rfl
theorem sv_tyes {e : Ex} : Rt (tests F (.yes e) env S) PB E = Rt (test F e env S) PB E := by rw [tests]
/-! ### tests -/
theorem tv_and {a b : Ex} : Rt (test F (.and a b) env S) PB E = Rt (test F a env S) (fun k S => Br k (Rt (test F b env S) PB E) (PB false S)) E := by
  rw [test]; simp only [Rt_bind, Rt_ite, Rt_ok, Br]
theorem tv_or {a b : Ex} : Rt (test F (.or a b) env S) PB E = Rt (test F a env S) (fun k S => Br k (PB true S) (Rt (test F b env S) PB E)) E := by
  rw [test]; simp only [Rt_bind, Rt_ite, Rt_ok, Br]
theorem tv_one {a : Ex} : Rt (test F (.one a) env S) PB E = Rt (test F a env S) PB E := by rw [test]
theorem tv_not {a : Ex} : Rt (test F (.not a) env S) PB E = Rt (test F a env S) (fun k S => PB (!k) S) E := by
  rw [test]; simp only [Rt_bind, Rt_ok]
theorem tv_cmp {op : CmpOp} {a b : Ex} : Rt (test F (.cmp op a b) env S) PB E = Rt (eval F a env S) (fun x S => Rt (eval F b env S) (fun y S => Rt (cmpD op x y S) PB E) E) E := by
  rw [test]; simp only [Rt_bind]
theorem tv_chain {op op2 : CmpOp} {a b c : Ex} : Rt (test F (.chain op op2 a b c) env S) PB E = Rt (eval F a env S) (fun x S => Rt (eval F b env S) (fun y S => Rt (cmpD op x y S) (fun k S => Br k (Rt (eval F c env S) (fun z S => Rt (cmpD op2 y z S) PB E) E) (PB false S)) E) E) E := by
  rw [test]; simp only [Rt_bind, Rt_ok, Rt_ite, Br]
theorem tv_var {i : Nat} : Rt (test F (.var i) env S) PB E = VarP env[i]? (fun d S => Rt (truD d S) PB E) S := by
  unfold test VarP
  dsimp only
  cases env[i]? with
  | none => rfl
  | some o => cases o <;> rfl
theorem tv_bl {b : Bool} : Rt (test F (.bl b) env S) PB E = PB b S := rfl
theorem tv_ix {a b : Ex} : Rt (test F (.ix a b) env S) PB E = Rt (eval F a env S) (fun x S => Rt (eval F b env S) (fun y S => Rt (ixD x y S) (fun d S => Rt (truD d S) PB E) E) E) E := by
  rw [test]; simp only [Rt_bind]
theorem tv_call {f : Nat} {es : Exs} : Rt (test F (.call f es) env S) PB E = Rt (evals F es env S) (fun ds S => Rt (F f ds S) (fun d S => Rt (truD d S) PB E) E) E := by
  rw [test]; simp only [Rt_bind]
theorem tv_isi {a : Ex} {t : Ty} : Rt (test F (.isi a t) env S) PB E = Rt (eval F a env S) (fun x S => OptP (isiD S x t) fun k => PB k S) E := by
  rw [test]; simp only [Rt_bind]
  congr 1
  funext x S
  cases isiD S x t <;> rfl
/-! ### statements -/
theorem st_skip : Rt (exec F .skip env S) PF E = PF (.next env) S := rfl
theorem st_expr {e : Ex} : Rt (exec F (.expr e) env S) PF E = Rt (eval F e env S) (fun _ S => PF (.next env) S) (fun x S => PF (.exc x env) S) := by
  rw [exec]; simp only [Rt_run, Rt_ok]
theorem st_set {i : Nat} {e : Ex} : Rt (exec F (.set i e) env S) PF E = Rt (eval F e env S) (fun d S => PF (.next (env.set i (some d))) S) (fun x S => PF (.exc x env) S) := by
  rw [exec]; simp only [Rt_run, Rt_ok]
theorem st_unp {tg : Tg} {e : Ex} : Rt (exec F (.unp tg e) env S) PF E = Rt (eval F e env S) (fun d S => Rt (assign tg d env S) (fun e1 S => PF (.next e1) S) (fun x S => PF (.exc x env) S)) (fun x S => PF (.exc x env) S) := by
  rw [exec]; simp only [Rt_run, Rt_ok]
theorem st_setIx {o i e : Ex} : Rt (exec F (.setIx o i e) env S) PF E = Rt (eval F e env S) (fun d S => Rt (eval F o env S) (fun x S => Rt (eval F i env S) (fun y S => Rt (putIx x y d S) (fun _ S => PF (.next env) S) (fun x S => PF (.exc x env) S)) (fun x S => PF (.exc x env) S)) (fun x S => PF (.exc x env) S)) (fun x S => PF (.exc x env) S) := by
  rw [exec]; simp only [Rt_run, Rt_ok]
theorem st_ret {e : Ex} : Rt (exec F (.ret e) env S) PF E = Rt (eval F e env S) (fun d S => PF (.ret d) S) (fun x S => PF (.exc x env) S) := by
  rw [exec]; simp only [Rt_run, Rt_ok]
theorem st_retN : Rt (exec F .retN env S) PF E = PF (.ret .non) S := rfl
theorem st_ite {t : Ex} {a b : Sms} : Rt (exec F (.ite t a b) env S) PF E = Rt (test F t env S) (fun k S => Br k (Rt (execs F a env S) PF E) (Rt (execs F b env S) PF E)) (fun x S => PF (.exc x env) S) := by
  rw [exec]; simp only [Rt_run, Rt_ite, Br]
theorem st_for {tg : Tg} {it : Iu} {body : Sms} : Rt (exec F (.for_ tg it body) env S) PF E = Rt (src F it env S) (fun s S => Rt (forL s.deps tg (execs F body) s.items env S) PF E) (fun x S => PF (.exc x env) S) := by
  rw [exec]; simp only [Rt_run]
theorem st_while {t : Ex} {body : Sms} : Rt (exec F (.while_ t body) env S) PF E = Rt (whileL (test F t) (execs F body) manyTurns env S) PF E := by
  rw [exec]
theorem st_brk : Rt (exec F .brk env S) PF E = PF (.brk env) S := rfl
theorem st_cont : Rt (exec F .cont env S) PF E = PF (.cont env) S := rfl
/-! ### operations -/
theorem ov_add {i j : Int} : Rt (binD .Add (.int i) (.int j) S) P E = P (.int (i + j)) S := rfl
theorem ov_sub {i j : Int} : Rt (binD .Sub (.int i) (.int j) S) P E = P (.int (i - j)) S := rfl
theorem Rt_need {α : Type} {c : Prop} [Decidable c] {r : R α} {P : α → Store → Prop} : Rt (if c then r else .bad) P E = Nd c (Rt r P E) := by
  by_cases h : c <;> simp [h, Rt, Nd]
theorem ov_mul {i j : Int} : Rt (binD .Mult (.int i) (.int j) S) P E = Nd (mulOk i j = true) (P (.int (i * j)) S) := by
  show Rt (if _ then _ else _) P E = _
  rw [Rt_need]; rfl
theorem ov_fdiv {i j : Int} : Rt (binD .FloorDiv (.int i) (.int j) S) P E = Nd (0 < j ∧ j.natAbs.log2 < 9000) (P (.int (i / j)) S) := by
  show Rt (if _ then _ else _) P E = _
  rw [Rt_need]; rfl
theorem ov_mod {i j : Int} : Rt (binD .Mod (.int i) (.int j) S) P E = Nd (0 < j) (P (.int (i % j)) S) := by
  show Rt (if _ then _ else _) P E = _
  rw [Rt_need]; rfl
theorem ov_pow {i j : Int} : Rt (binD .Pow (.int i) (.int j) S) P E = Nd (0 ≤ j ∧ j ≤ 1000000 ∧ i.natAbs < 2 ^ 64) (P (.int (i ^ j.toNat)) S) := by
  show Rt (if _ then _ else _) P E = _
  rw [Rt_need]; rfl
theorem ov_neg {i : Int} : Rt (negD (.int i) S) P E = P (.int (-i)) S := rfl
theorem ov_addstr {x y : Str} : Rt (binD .Add (.str x) (.str y) S) P E = Nd (x.length + y.length ≤ sizeLine) (P (.str (x ++ y)) S) := by
  show Rt (if _ then _ else _) P E = _
  rw [Rt_need]; rfl
theorem ov_addtup {x y : List D} : Rt (binD .Add (.tup x) (.tup y) S) P E = Nd (x.isEmpty = false ∧ x.length + y.length ≤ sizeLine) (P (.tup (x ++ y)) S) := by
  show Rt (if _ then _ else _) P E = _
  rw [Rt_need]; rfl
theorem cv_lt {i j : Int} : Rt (cmpD .Lt (.int i) (.int j) S) PB E = PB (decide (i < j)) S := rfl
theorem cv_le {i j : Int} : Rt (cmpD .LtE (.int i) (.int j) S) PB E = PB (decide (i ≤ j)) S := rfl
theorem cv_gt {i j : Int} : Rt (cmpD .Gt (.int i) (.int j) S) PB E = PB (decide (j < i)) S := rfl
theorem cv_ge {i j : Int} : Rt (cmpD .GtE (.int i) (.int j) S) PB E = PB (decide (j ≤ i)) S := rfl
theorem shaped_int (i : Int) : SeqAt.shaped (.int i) = true := by simp [SeqAt.shaped, PyData.canLay0, PyData.depth]
theorem eqD_int {i j : Int} : eqD (.int i) (.int j) S = .ok (i == j) S := by
  have e1 : toPy S deepest (.int i) = some (.int i) := rfl
  have e2 : toPy S deepest (.int j) = some (.int j) := rfl
  unfold eqD
  rw [e1, e2]
  dsimp only
  rw [shaped_int, shaped_int, if_pos (by rfl)]
  simp [PyData.eqv]
theorem cv_eq {i j : Int} : Rt (cmpD .Eq (.int i) (.int j) S) PB E = PB (decide (i = j)) S := by
  have e : cmpD .Eq (.int i) (.int j) S = eqD (.int i) (.int j) S := rfl
  rw [e, eqD_int, Rt_ok]
  congr 1
theorem cv_ne {i j : Int} : Rt (cmpD .NotEq (.int i) (.int j) S) PB E = PB (!decide (i = j)) S := by
  have e : cmpD .NotEq (.int i) (.int j) S = (eqD (.int i) (.int j) S).bind fun k S => .ok (!k) S := rfl
  rw [e, eqD_int, R.bind_ok, Rt_ok]
  congr 1
theorem cv_isN {a : D} : Rt (cmpD .Is a .non S) PB E = PB (isNonD a) S := by
  cases a <;> rfl
theorem cv_isnN {a : D} : Rt (cmpD .IsNot a .non S) PB E = PB (!isNonD a) S := by
  cases a <;> rfl
theorem uv_bl {b : Bool} : Rt (truD (.bl b) S) PB E = PB b S := rfl
theorem uv_int {b : Int} : Rt (truD (.int b) S) PB E = PB (b != 0) S := rfl
theorem xv_tup {ds : List D} {i : Int} : Rt (ixD (.tup ds) (.int i) S) P E = OptP (atI ds i) fun d => P d S := by
  unfold ixD
  dsimp only [seqOf]
  cases atI ds i <;> rfl
theorem xv_rol {ds : List D} {i : Int} : Rt (ixD (.rol ds) (.int i) S) P E = OptP (atI ds i) fun d => P d S := by
  unfold ixD
  dsimp only [seqOf]
  cases atI ds i <;> rfl
theorem xv_obj {o : Nat} {i : Int} : Rt (ixD (.obj o) (.int i) S) P E = LstP S[o]? fun ds => OptP (atI ds i) fun d => P d S := by
  unfold ixD
  dsimp only [seqOf]
  cases h : S[o]? with
  | none => rfl
  | some u =>
    cases u with
    | lst ds => dsimp only [LstP]; cases atI ds i <;> rfl
    | ins _ _ => rfl
theorem at_0 {α : Type} {x : α} {r : List α} : atI (x :: r) 0 = some x := by
  unfold atI ixN
  simp
theorem at_1 {α : Type} {x y : α} {r : List α} : atI (x :: y :: r) 1 = some y := by
  have h : ((1 : Nat) : Int) = 1 := rfl
  rw [← h]
  exact atI_nat rfl
theorem at_2 {α : Type} {x y z : α} {r : List α} : atI (x :: y :: z :: r) 2 = some z := by
  have h : ((2 : Nat) : Int) = 2 := rfl
  rw [← h]
  exact atI_nat rfl
theorem lv_obj {o : Nat} : Rt (bltD .len [.obj o] S) P E = LstP S[o]? fun ds => P (.int ds.length) S := by
  show Rt (lenD (.obj o) S) P E = _
  unfold lenD
  dsimp only [seqOf]
  cases h : S[o]? with
  | none => rfl
  | some u => cases u <;> rfl
theorem lv_tup {ds : List D} : Rt (bltD .len [.tup ds] S) P E = P (.int ds.length) S := rfl
theorem lv_rol {ds : List D} : Rt (bltD .len [.rol ds] S) P E = P (.int ds.length) S := rfl
theorem bv_int {i : Int} : Rt (bltD .int [.int i] S) P E = P (.int i) S := rfl
theorem bv_intb {i : Bool} : Rt (bltD .int [.bl i] S) P E = P (.int (if i then 1 else 0)) S := rfl
theorem bv_abs {i : Int} : Rt (bltD .abs [.int i] S) P E = P (.int (if i < 0 then -i else i)) S := rfl
theorem bv_list {o : Nat} : Rt (bltD .list [.obj o] S) P E = LstP S[o]? fun ds => P (.obj S.length) (S ++ [.lst ds]) := by
  show Rt (listD (.obj o) S) P E = _
  unfold listD
  dsimp only [seqOf]
  cases h : S[o]? with
  | none => rfl
  | some u => cases u <;> rfl
theorem bv_tuple {o : Nat} : Rt (bltD .tuple [.obj o] S) P E = LstP S[o]? fun ds => P (.tup ds) S := by
  show Rt (tupleD (.obj o) S) P E = _
  unfold tupleD
  dsimp only [seqOf]
  cases h : S[o]? with
  | none => rfl
  | some u => cases u <;> rfl
theorem bv_gcd {i j : Int} : Rt (bltD .gcd [.int i, .int j] S) P E = P (.int (Nat.gcd i.natAbs j.natAbs : Nat)) S := rfl
theorem bv_lcm {i j : Int} : Rt (bltD .lcm [.int i, .int j] S) P E = Nd (i.natAbs.log2 ≤ 13000 ∧ j.natAbs.log2 ≤ 13000) (P (.int (Nat.lcm i.natAbs j.natAbs : Nat)) S) := by
  show Rt (if _ then _ else _) P E = _
  rw [Rt_need]; rfl
theorem pv_obj {o : Nat} {i : Int} {d : D} {Q : Unit → Store → Prop} : Rt (putIx (.obj o) (.int i) d S) Q E = LstP S[o]? fun ds => OptP (ixN ds.length i) fun j => Q () (S.set o (.lst (ds.set j d))) := by
  unfold putIx
  dsimp only
  cases h : S[o]? with
  | none => rfl
  | some u =>
    cases u with
    | lst ds => dsimp only [LstP]; cases ixN ds.length i <;> rfl
    | ins _ _ => rfl
theorem mv_append {o : Nat} {d : D} : Rt (mthD .append (.obj o) [d] S) P E = LstP S[o]? fun ds => Nd (ds.length < sizeLine) (P .non (S.set o (.lst (ds ++ [d])))) := by
  unfold mthD
  dsimp only
  cases h : S[o]? with
  | none => rfl
  | some u =>
    cases u with
    | lst ds => dsimp only [LstP]; rw [Rt_need]; rfl
    | ins _ _ => rfl
theorem gv_nm {i : Nat} {d : D} {Q : Env' → Store → Prop} : Rt (assign (.nm i) d env S) Q E = Q (env.set i (some d)) S := rfl
theorem gv_tp {is : List Nat} {ds : List D} {Q : Env' → Store → Prop} : Rt (assign (.tp is) (.tup ds) env S) Q E = Nd (ds.length = is.length) (Q (sets env is ds) S) := by
  show Rt (if _ then _ else _) Q E = _
  rw [Rt_need]; rfl
/-! ### what is walked -/
variable {PS : Src → Store → Prop}
theorem iv_seq {e : Ex} : Rt (src F (.seq e) env S) PS E = Rt (eval F e env S) (fun d S => OptP (srcOf S d) fun s => PS s S) E := by
  rw [src]; simp only [Rt_bind]
  congr 1
  funext x S
  cases srcOf S x <;> rfl
theorem iv_rng1 {e : Ex} : Rt (src F (.rng1 e) env S) PS E = Rt (eval F e env S) (fun d S => match d with
    | .int j => Nd (-(2 ^ 62) ≤ j ∧ j < 2 ^ 62) (PS ⟨[], rngI 0 j.toNat⟩ S)
    | _ => False) E := by
  rw [src]; simp only [Rt_bind]
  congr 1
  funext x S
  cases x <;> try rfl
  dsimp only
  rw [Rt_need]; rfl
theorem iv_rng2 {e e2 : Ex} : Rt (src F (.rng2 e e2) env S) PS E = Rt (eval F e env S) (fun d S => Rt (eval F e2 env S) (fun d2 S => match d, d2 with
    | .int i, .int j => Nd ((-(2 ^ 62) ≤ i ∧ i < 2 ^ 62) ∧ -(2 ^ 62) ≤ j ∧ j < 2 ^ 62) (PS ⟨[], rngI i (j - i).toNat⟩ S)
    | _, _ => False) E) E := by
  rw [src]; simp only [Rt_bind]
  congr 1
  funext x S
  congr 1
  funext y S
  cases x <;> cases y <;> try rfl
  dsimp only
  rw [Rt_need]; rfl
theorem iv_zip {e e2 : Ex} : Rt (src F (.zip e e2) env S) PS E = Rt (eval F e env S) (fun d S => Rt (eval F e2 env S) (fun d2 S => OptP (srcL S d) fun s => OptP (srcL S d2) fun s2 => PS ⟨s.deps ++ s2.deps, List.zipWith (fun x y => .tup [x, y]) s.items s2.items⟩ S) E) E := by
  rw [src]; simp only [Rt_bind]
  congr 1
  funext x S
  congr 1
  funext y S
  cases srcL S x <;> cases srcL S y <;> rfl
theorem iv_enum {e : Ex} : Rt (src F (.enum e) env S) PS E = Rt (eval F e env S) (fun d S => OptP (srcL S d) fun s => PS ⟨s.deps, enumI s.items⟩ S) E := by
  rw [src]; simp only [Rt_bind]
  congr 1
  funext x S
  cases srcL S x <;> rfl
theorem srcOf_obj {o : Nat} {ds : List D} (h : S[o]? = some (.lst ds)) : srcOf S (.obj o) = some ⟨[(o, ds)], ds⟩ := by
  unfold srcOf
  simp only [h]
theorem srcL_obj {o : Nat} {ds : List D} (h : S[o]? = some (.lst ds)) : srcL S (.obj o) = some ⟨[(o, ds)], ds⟩ := by
  unfold srcL
  simp only [h]
end
end PyI
/-! PyiL: == and in over nested data. -/
namespace PyI
open PySem L2
/-- the datum's plain value, no deeper than h -/
structure Py (S : Store) (h : Nat) (d : D) (p : PyData) : Prop where
  ty : ∀ n, h < n → toPy S n d = some p
  lay : p.canLay0 = true
  dp : p.depth ≤ h
def Pys (S : Store) (h : Nat) : List D → List PyData → Prop
  | [], [] => True
  | d :: ds, p :: ps => Py S h d p ∧ Pys S h ds ps
  | _, _ => False
section
variable {S : Store} {h : Nat}
theorem Py.int {i : Int} : Py S h (.int i) (.int i) := ⟨fun n l => by
  cases n with
  | zero => omega
  | succ n => rfl, by simp [PyData.canLay0], by simp [PyData.depth]⟩
theorem Py.bl {i : Bool} : Py S h (.bl i) (.bool i) := ⟨fun n l => by
  cases n with
  | zero => omega
  | succ n => rfl, by simp [PyData.canLay0], by simp [PyData.depth]⟩
theorem Py.non : Py S h .non .none := ⟨fun n l => by
  cases n with
  | zero => omega
  | succ n => rfl, by simp [PyData.canLay0], by simp [PyData.depth]⟩
theorem Py.str {x : Str} (k : (PyData.str x).canLay0 = true) : Py S h (.str x) (.str x) := ⟨fun n l => by
  cases n with
  | zero => omega
  | succ n => rfl, k, by simp [PyData.depth]⟩
theorem Pys.all : ∀ {ds : List D} {ps : List PyData}, Pys S h ds ps → (∀ n, h < n → ds.mapM (toPy S n) = some ps) ∧ PyData.canLayAll0 ps = true ∧ PyData.depthAll ps ≤ h
  | [], [], _ => ⟨fun _ _ => rfl, by simp [PyData.canLayAll0], by simp [PyData.depthAll]⟩
  | [], _ :: _, z => z.elim
  | _ :: _, [], z => z.elim
  | d :: ds, p :: ps, ⟨a, b⟩ => by
    obtain ⟨x, y, z⟩ := Pys.all b
    refine ⟨fun n l => ?_, by simp [PyData.canLayAll0, a.lay, y], by simp only [PyData.depthAll]; have := a.dp; omega⟩
    rw [List.mapM_cons, a.ty n l, x n l]
    rfl
theorem Pys.map {α : Type} {f : α → D} {g : α → PyData} : ∀ {xs : List α}, (∀ x ∈ xs, Py S h (f x) (g x)) → Pys S h (xs.map f) (xs.map g)
  | [], _ => trivial
  | x :: xs, k => ⟨k x List.mem_cons_self, Pys.map fun y hy => k y (List.mem_cons_of_mem _ hy)⟩
theorem Py.tup {ds : List D} {ps : List PyData} (k : Pys S h ds ps) : Py S (h + 1) (.tup ds) (.tuple ps) := by
  obtain ⟨x, y, z⟩ := k.all
  refine ⟨fun n l => ?_, by simpa [PyData.canLay0] using y, by simp only [PyData.depth]; omega⟩
  cases n with
  | zero => omega
  | succ n =>
    unfold toPy
    rw [x n (by omega)]
    rfl
theorem Py.rol {ds : List D} {ps : List PyData} (k : Pys S h ds ps) : Py S (h + 1) (.rol ds) (.list ps) := by
  obtain ⟨x, y, z⟩ := k.all
  refine ⟨fun n l => ?_, by simpa [PyData.canLay0] using y, by simp only [PyData.depth]; omega⟩
  cases n with
  | zero => omega
  | succ n =>
    unfold toPy
    rw [x n (by omega)]
    rfl
theorem Py.obj {o : Nat} {ds : List D} {ps : List PyData} (e : S[o]? = some (.lst ds)) (k : Pys S h ds ps) : Py S (h + 1) (.obj o) (.list ps) := by
  obtain ⟨x, y, z⟩ := k.all
  refine ⟨fun n l => ?_, by simpa [PyData.canLay0] using y, by simp only [PyData.depth]; omega⟩
  cases n with
  | zero => omega
  | succ n =>
    unfold toPy
    rw [e]
    show (ds.mapM (toPy S n)).map PyData.list = _
    rw [x n (by omega)]
    rfl
theorem Py.shp {d : D} {p : PyData} (k : Py S h d p) (l : h ≤ 64) : SeqAt.shaped p = true := by
  unfold SeqAt.shaped
  rw [k.lay, decide_eq_true (Nat.le_trans k.dp l)]
  rfl
theorem eqD_py {h2 : Nat} {a b : D} {p q : PyData} (x : Py S h a p) (y : Py S h2 b q) (l : h ≤ 64) (l2 : h2 ≤ 64) : eqD a b S = .ok (PyData.eqv p q) S := by
  unfold eqD
  rw [x.ty deepest (by show h < 66; omega), y.ty deepest (by show h2 < 66; omega)]
  dsimp only
  rw [x.shp l, y.shp l2]
  rfl
theorem cv_eqP {h2 : Nat} {a b : D} {p q : PyData} {PB : Bool → Store → Prop} {E : Xn → Store → Prop} (x : Py S h a p) (y : Py S h2 b q) (l : h ≤ 64) (l2 : h2 ≤ 64) : Rt (cmpD .Eq a b S) PB E = PB (PyData.eqv p q) S := by
  show Rt (eqD a b S) PB E = _
  rw [eqD_py x y l l2]
  rfl
theorem cv_neP {h2 : Nat} {a b : D} {p q : PyData} {PB : Bool → Store → Prop} {E : Xn → Store → Prop} (x : Py S h a p) (y : Py S h2 b q) (l : h ≤ 64) (l2 : h2 ≤ 64) : Rt (cmpD .NotEq a b S) PB E = PB (!PyData.eqv p q) S := by
  show Rt ((eqD a b S).bind fun k S => R.ok (!k) S) PB E = _
  rw [eqD_py x y l l2]
  rfl
theorem inD_py {h2 o : Nat} {a : D} {ds : List D} {p : PyData} {qs : List PyData} (x : Py S h a p) (e : S[o]? = some (.lst ds)) (y : Pys S h2 ds qs) (l : h ≤ 64) (l2 : h2 < 64) : inD a (.obj o) S = .ok (qs.any fun z => PyData.eqv z p) S := by
  have w := Py.obj e y
  show (match toPy S deepest a, toPy S deepest (.obj o) with
    | some p, some (.list qs) => if (SeqAt.shaped p && SeqAt.shaped (.list qs)) = true then R.ok (qs.any fun z => PyData.eqv z p) S else .bad
    | _, _ => .bad) = _
  rw [x.ty deepest (by show h < 66; omega), w.ty deepest (by show h2 + 1 < 66; omega)]
  dsimp only
  rw [x.shp l, w.shp (by omega)]
  rfl
theorem cv_niP {h2 o : Nat} {a : D} {ds : List D} {p : PyData} {qs : List PyData} {PB : Bool → Store → Prop} {E : Xn → Store → Prop} (x : Py S h a p) (e : S[o]? = some (.lst ds)) (y : Pys S h2 ds qs) (l : h ≤ 64) (l2 : h2 < 64) : Rt (cmpD .NotIn a (.obj o) S) PB E = PB (!(qs.any fun z => PyData.eqv z p)) S := by
  show Rt ((inD a (.obj o) S).bind fun k S => R.ok (!k) S) PB E = _
  rw [inD_py x e y l l2]
  rfl
theorem cv_inP {h2 o : Nat} {a : D} {ds : List D} {p : PyData} {qs : List PyData} {PB : Bool → Store → Prop} {E : Xn → Store → Prop} (x : Py S h a p) (e : S[o]? = some (.lst ds)) (y : Pys S h2 ds qs) (l : h ≤ 64) (l2 : h2 < 64) : Rt (cmpD .In a (.obj o) S) PB E = PB (qs.any fun z => PyData.eqv z p) S := by
  show Rt (inD a (.obj o) S) PB E = _
  rw [inD_py x e y l l2]
  rfl
end
theorem eqvAll_map {α : Type} [DecidableEq α] {g : α → PyData} (k : ∀ x y, PyData.eqv (g x) (g y) = decide (x = y)) : ∀ xs ys : List α, PyData.eqvAll (xs.map g) (ys.map g) = decide (xs = ys)
  | [], [] => by simp [PyData.eqvAll]
  | [], _ :: _ => by simp [PyData.eqvAll]
  | _ :: _, [] => by simp [PyData.eqvAll]
  | x :: xs, y :: ys => by
    simp only [List.map_cons, PyData.eqvAll, k, eqvAll_map k xs ys]
    by_cases h1 : x = y <;> by_cases h2 : xs = ys <;> simp [h1, h2]
theorem eqv_int (i j : Int) : PyData.eqv (.int i) (.int j) = decide (i = j) := by
  simp only [PyData.eqv]
  by_cases h : i = j <;> simp [h]
end PyI
namespace Law
open PySem PyI
abbrev pw : Program := PySem.Challenge.pw_soldtoworths_k86_exact_fractions
def topS (i : Nat) : Stmt := pw.main.body.getD i (.Pass ⟨0, 0, 0, 0⟩)
def ir_ratio : Fd := ⟨2, 3, (.cons (.ite (.cmp .Lt (.var 1) (.int 0)) (.cons (.set 0 (.neg (.var 0)))
  (.cons (.set 1 (.neg (.var 1)))
  .nil)) .nil)
  (.cons (.set 2 (.blt .gcd (.cons (.var 0) (.cons (.var 1) .nil))))
  (.cons (.ret (.tup (.cons (.bin .FloorDiv (.var 0) (.var 2)) (.cons (.bin .FloorDiv (.var 1) (.var 2)) .nil))))
  .nil)))⟩
def ir_add : Fd := ⟨2, 2, (.cons (.ret (.call 0 (.cons (.bin .Add (.bin .Mult (.ix (.var 0) (.int 0)) (.ix (.var 1) (.int 1))) (.bin .Mult (.ix (.var 1) (.int 0)) (.ix (.var 0) (.int 1)))) (.cons (.bin .Mult (.ix (.var 0) (.int 1)) (.ix (.var 1) (.int 1))) .nil))))
  .nil)⟩
def ir_sub : Fd := ⟨2, 2, (.cons (.ret (.call 0 (.cons (.bin .Sub (.bin .Mult (.ix (.var 0) (.int 0)) (.ix (.var 1) (.int 1))) (.bin .Mult (.ix (.var 1) (.int 0)) (.ix (.var 0) (.int 1)))) (.cons (.bin .Mult (.ix (.var 0) (.int 1)) (.ix (.var 1) (.int 1))) .nil))))
  .nil)⟩
def ir_mul : Fd := ⟨2, 2, (.cons (.ret (.call 0 (.cons (.bin .Mult (.ix (.var 0) (.int 0)) (.ix (.var 1) (.int 0))) (.cons (.bin .Mult (.ix (.var 0) (.int 1)) (.ix (.var 1) (.int 1))) .nil))))
  .nil)⟩
def ir_div : Fd := ⟨2, 2, (.cons (.ret (.call 0 (.cons (.bin .Mult (.ix (.var 0) (.int 0)) (.ix (.var 1) (.int 1))) (.cons (.bin .Mult (.ix (.var 0) (.int 1)) (.ix (.var 1) (.int 0))) .nil))))
  .nil)⟩
def ir_compare : Fd := ⟨2, 4, (.cons (.set 2 (.bin .Mult (.ix (.var 0) (.int 0)) (.ix (.var 1) (.int 1))))
  (.cons (.set 3 (.bin .Mult (.ix (.var 1) (.int 0)) (.ix (.var 0) (.int 1))))
  (.cons (.ite (.cmp .Lt (.var 2) (.var 3)) (.cons (.ret (.neg (.int 1)))
  .nil) .nil)
  (.cons (.ite (.cmp .Gt (.var 2) (.var 3)) (.cons (.ret (.int 1))
  .nil) .nil)
  (.cons (.ret (.int 0))
  .nil)))))⟩
def ir_total : Fd := ⟨1, 3, (.cons (.set 1 (.glob "ZERO" (.tup [(.int 0), (.int 1)])))
  (.cons (.for_ (.nm 2) (.seq (.var 0)) (.cons (.set 1 (.call 1 (.cons (.var 1) (.cons (.var 2) .nil))))
  .nil))
  (.cons (.ret (.var 1))
  .nil)))⟩
def ir_dot : Fd := ⟨2, 5, (.cons (.set 2 (.glob "ZERO" (.tup [(.int 0), (.int 1)])))
  (.cons (.for_ (.tp [3, 4]) (.zip (.var 0) (.var 1)) (.cons (.set 2 (.call 1 (.cons (.var 2) (.cons (.call 3 (.cons (.var 3) (.cons (.var 4) .nil))) .nil))))
  .nil))
  (.cons (.ret (.var 2))
  .nil)))⟩
def ir_greatest : Fd := ⟨1, 3, (.cons (.set 1 (.ix (.var 0) (.int 0)))
  (.cons (.for_ (.nm 2) (.seq (.var 0)) (.cons (.ite (.cmp .Gt (.call 5 (.cons (.var 2) (.cons (.var 1) .nil))) (.int 0)) (.cons (.set 1 (.var 2))
  .nil) .nil)
  .nil))
  (.cons (.ret (.var 1))
  .nil)))⟩
def ir_least : Fd := ⟨1, 3, (.cons (.set 1 (.ix (.var 0) (.int 0)))
  (.cons (.for_ (.nm 2) (.seq (.var 0)) (.cons (.ite (.cmp .Lt (.call 5 (.cons (.var 2) (.cons (.var 1) .nil))) (.int 0)) (.cons (.set 1 (.var 2))
  .nil) .nil)
  .nil))
  (.cons (.ret (.var 1))
  .nil)))⟩
def ir_scaled : Fd := ⟨1, 3, (.cons (.set 1 (.int 1))
  (.cons (.for_ (.nm 2) (.seq (.var 0)) (.cons (.set 1 (.blt .lcm (.cons (.var 1) (.cons (.ix (.var 2) (.int 1)) .nil))))
  .nil))
  (.cons (.ret (.tup (.cons (.lc [("fraction", 2)] (.nm 2) (.seq (.var 0)) .no (.bin .Mult (.ix (.var 2) (.int 0)) (.bin .FloorDiv (.var 1) (.ix (.var 2) (.int 1))))) (.cons (.var 1) .nil))))
  .nil)))⟩
def ir__law_start : Fd := ⟨1, 3, (.cons (.set 1 (.lc [("cell", 2)] (.nm 2) (.seq (.sl (.var 0) .no (.yes (.int 63)))) .no (.blt .abs (.cons (.blt .int (.cons (.var 2) .nil)) .nil))))
  (.cons (.ite (.cmp .Eq (.var 1) (.lst .nil)) (.cons (.set 1 (.lst (.cons (.int 0) .nil)))
  .nil) .nil)
  (.cons (.ret (.lst (.cons (.var 1) (.cons (.blt .list (.cons (.var 1) .nil)) (.cons (.int 0) .nil)))))
  .nil)))⟩
def ir__law_draw : Fd := ⟨2, 7, (.cons (.set 2 (.ix (.var 0) (.int 0)))
  (.cons (.set 3 (.ix (.var 0) (.int 1)))
  (.cons (.set 4 (.ix (.var 0) (.int 2)))
  (.cons (.set 5 (.bin .Mod (.blt .int (.cons (.var 4) .nil)) (.blt .len (.cons (.var 2) .nil))))
  (.cons (.setIx (.var 0) (.int 2) (.bin .Add (.var 4) (.int 1)))
  (.cons (.ite (.and (.cmp .GtE (.ix (.var 2) (.var 5)) (.bin .Pow (.int 10) (.int 18))) (.one (.cmp .Gt (.ix (.var 3) (.var 5)) (.int 0)))) (.cons (.set 6 (.bin .Mod (.blt .int (.cons (.ix (.var 3) (.var 5)) .nil)) (.var 1)))
  (.cons (.setIx (.var 3) (.var 5) (.bin .FloorDiv (.ix (.var 3) (.var 5)) (.var 1)))
  (.cons (.ret (.var 6))
  .nil))) .nil)
  (.cons (.set 6 (.bin .Mod (.blt .int (.cons (.bin .Add (.bin .Add (.bin .Mult (.ix (.var 2) (.var 5)) (.int 48271)) (.bin .Mult (.var 4) (.int 69621))) (.int 11)) .nil)) (.int 2147483647)))
  (.cons (.set 6 (.bin .Mod (.blt .int (.cons (.bin .Add (.bin .Add (.bin .Mult (.var 6) (.var 6)) (.bin .Mult (.var 4) (.int 7919))) (.int 3)) .nil)) (.int 2147483629)))
  (.cons (.ret (.bin .Mod (.blt .int (.cons (.var 6) .nil)) (.var 1)))
  .nil)))))))))⟩
def ir__law_great : Fd := ⟨2, 4, (.cons (.ite (.not (.var 1)) (.cons (.ret (.call 12 (.cons (.var 0) (.cons (.int 1000) .nil))))
  .nil) .nil)
  (.cons (.set 2 (.int 0))
  (.cons (.for_ (.nm 3) (.rng1 (.int 5)) (.cons (.set 2 (.bin .Add (.bin .Mult (.var 2) (.bin .Pow (.int 10) (.int 8))) (.call 12 (.cons (.var 0) (.cons (.bin .Pow (.int 10) (.int 8)) .nil)))))
  .nil))
  (.cons (.ret (.var 2))
  .nil))))⟩
def ir__law_gcd : Fd := ⟨2, 4, (.cons (.set 0 (.blt .abs (.cons (.var 0) .nil)))
  (.cons (.set 1 (.blt .abs (.cons (.var 1) .nil)))
  (.cons (.for_ (.nm 2) (.rng1 (.int 4000)) (.cons (.ite (.cmp .Eq (.var 1) (.int 0)) (.cons .brk
  .nil) .nil)
  (.cons (.set 3 (.bin .Mod (.blt .int (.cons (.var 0) .nil)) (.var 1)))
  (.cons (.set 0 (.var 1))
  (.cons (.set 1 (.var 3))
  .nil)))))
  (.cons (.ret (.var 0))
  .nil))))⟩
def ir__law_is_integer : Fd := ⟨1, 1, (.cons (.ret (.and (.isi (.var 0) .int) (.one (.not (.isi (.var 0) .bool)))))
  .nil)⟩
def ir__law_same : Fd := ⟨3, 3, (.cons (.ite (.or (.not (.isi (.var 0) .tuple)) (.one (.cmp .NotEq (.blt .len (.cons (.var 0) .nil)) (.int 2)))) (.cons (.ret (.bl false))
  .nil) .nil)
  (.cons (.ite (.or (.not (.call 15 (.cons (.ix (.var 0) (.int 0)) .nil))) (.one (.not (.call 15 (.cons (.ix (.var 0) (.int 1)) .nil))))) (.cons (.ret (.bl false))
  .nil) .nil)
  (.cons (.ite (.or (.cmp .Lt (.ix (.var 0) (.int 1)) (.int 1)) (.one (.cmp .NotEq (.call 14 (.cons (.ix (.var 0) (.int 0)) (.cons (.ix (.var 0) (.int 1)) .nil))) (.int 1)))) (.cons (.ret (.bl false))
  .nil) .nil)
  (.cons (.ret (.cmp .Eq (.bin .Mult (.ix (.var 0) (.int 0)) (.var 2)) (.bin .Mult (.var 1) (.ix (.var 0) (.int 1)))))
  .nil))))⟩
def ir__law_fraction : Fd := ⟨2, 6, (.cons (.set 2 (.call 12 (.cons (.var 0) (.cons (.int 5) .nil))))
  (.cons (.set 3 (.call 13 (.cons (.var 0) (.cons (.var 1) .nil))))
  (.cons (.set 4 (.bin .Add (.int 1) (.call 13 (.cons (.var 0) (.cons (.var 1) .nil)))))
  (.cons (.ite (.cmp .Eq (.var 2) (.int 0)) (.cons (.set 3 (.int 0))
  .nil) .nil)
  (.cons (.ite (.or (.cmp .Eq (.var 2) (.int 1)) (.one (.cmp .Eq (.var 2) (.int 2)))) (.cons (.set 3 (.neg (.var 3)))
  .nil) .nil)
  (.cons (.set 5 (.call 14 (.cons (.var 3) (.cons (.var 4) .nil))))
  (.cons (.ret (.tup (.cons (.bin .FloorDiv (.var 3) (.var 5)) (.cons (.bin .FloorDiv (.var 4) (.var 5)) .nil))))
  .nil)))))))⟩
def ir__law_pair : Fd := ⟨2, 5, (.cons (.ite (.not (.call 16 (.cons (.call 1 (.cons (.var 0) (.cons (.var 1) .nil))) (.cons (.bin .Add (.bin .Mult (.ix (.var 0) (.int 0)) (.ix (.var 1) (.int 1))) (.bin .Mult (.ix (.var 1) (.int 0)) (.ix (.var 0) (.int 1)))) (.cons (.bin .Mult (.ix (.var 0) (.int 1)) (.ix (.var 1) (.int 1))) .nil))))) (.cons (.ret (.bl false))
  .nil) .nil)
  (.cons (.ite (.not (.call 16 (.cons (.call 2 (.cons (.var 0) (.cons (.var 1) .nil))) (.cons (.bin .Sub (.bin .Mult (.ix (.var 0) (.int 0)) (.ix (.var 1) (.int 1))) (.bin .Mult (.ix (.var 1) (.int 0)) (.ix (.var 0) (.int 1)))) (.cons (.bin .Mult (.ix (.var 0) (.int 1)) (.ix (.var 1) (.int 1))) .nil))))) (.cons (.ret (.bl false))
  .nil) .nil)
  (.cons (.ite (.not (.call 16 (.cons (.call 3 (.cons (.var 0) (.cons (.var 1) .nil))) (.cons (.bin .Mult (.ix (.var 0) (.int 0)) (.ix (.var 1) (.int 0))) (.cons (.bin .Mult (.ix (.var 0) (.int 1)) (.ix (.var 1) (.int 1))) .nil))))) (.cons (.ret (.bl false))
  .nil) .nil)
  (.cons (.ite (.and (.cmp .NotEq (.ix (.var 1) (.int 0)) (.int 0)) (.one (.not (.call 16 (.cons (.call 4 (.cons (.var 0) (.cons (.var 1) .nil))) (.cons (.bin .Mult (.ix (.var 0) (.int 0)) (.ix (.var 1) (.int 1))) (.cons (.bin .Mult (.ix (.var 0) (.int 1)) (.ix (.var 1) (.int 0))) .nil))))))) (.cons (.ret (.bl false))
  .nil) .nil)
  (.cons (.set 2 (.call 5 (.cons (.var 0) (.cons (.var 1) .nil))))
  (.cons (.ite (.not (.call 15 (.cons (.var 2) .nil))) (.cons (.ret (.bl false))
  .nil) .nil)
  (.cons (.set 3 (.bin .Mult (.ix (.var 0) (.int 0)) (.ix (.var 1) (.int 1))))
  (.cons (.set 4 (.bin .Mult (.ix (.var 1) (.int 0)) (.ix (.var 0) (.int 1))))
  (.cons (.ret (.cmp .Eq (.var 2) (.bin .Sub (.blt .int (.cons (.cmp .Gt (.var 3) (.var 4)) .nil)) (.blt .int (.cons (.cmp .Lt (.var 3) (.var 4)) .nil)))))
  .nil)))))))))⟩
def ir__law_ends : Fd := ⟨1, 4, (.cons (.set 1 (.call 8 (.cons (.blt .list (.cons (.var 0) .nil)) .nil)))
  (.cons (.set 2 (.call 9 (.cons (.blt .list (.cons (.var 0) .nil)) .nil)))
  (.cons (.ite (.or (.cmp .NotIn (.var 1) (.var 0)) (.one (.cmp .NotIn (.var 2) (.var 0)))) (.cons (.ret (.bl false))
  .nil) .nil)
  (.cons (.for_ (.nm 3) (.seq (.var 0)) (.cons (.ite (.or (.cmp .Gt (.bin .Mult (.ix (.var 3) (.int 0)) (.ix (.var 1) (.int 1))) (.bin .Mult (.ix (.var 1) (.int 0)) (.ix (.var 3) (.int 1)))) (.one (.cmp .Lt (.bin .Mult (.ix (.var 3) (.int 0)) (.ix (.var 2) (.int 1))) (.bin .Mult (.ix (.var 2) (.int 0)) (.ix (.var 3) (.int 1)))))) (.cons (.ret (.bl false))
  .nil) .nil)
  .nil))
  (.cons (.ret (.and (.call 16 (.cons (.var 1) (.cons (.ix (.var 1) (.int 0)) (.cons (.ix (.var 1) (.int 1)) .nil)))) (.one (.call 16 (.cons (.var 2) (.cons (.ix (.var 2) (.int 0)) (.cons (.ix (.var 2) (.int 1)) .nil)))))))
  .nil)))))⟩
def ir__law_scaled : Fd := ⟨1, 5, (.cons (.set 1 (.call 10 (.cons (.var 0) .nil)))
  (.cons (.ite (.or (.not (.isi (.var 1) .tuple)) (.one (.cmp .NotEq (.blt .len (.cons (.var 1) .nil)) (.int 2)))) (.cons (.ret (.bl false))
  .nil) .nil)
  (.cons (.ite (.or (.not (.isi (.ix (.var 1) (.int 0)) .list)) (.or (.cmp .NotEq (.blt .len (.cons (.ix (.var 1) (.int 0)) .nil)) (.blt .len (.cons (.var 0) .nil))) (.one (.not (.call 15 (.cons (.ix (.var 1) (.int 1)) .nil)))))) (.cons (.ret (.bl false))
  .nil) .nil)
  (.cons (.set 2 (.int 1))
  (.cons (.for_ (.nm 3) (.seq (.var 0)) (.cons (.set 2 (.bin .Mult (.bin .FloorDiv (.var 2) (.call 14 (.cons (.var 2) (.cons (.ix (.var 3) (.int 1)) .nil)))) (.ix (.var 3) (.int 1))))
  .nil))
  (.cons (.ite (.cmp .NotEq (.ix (.var 1) (.int 1)) (.var 2)) (.cons (.ret (.bl false))
  .nil) .nil)
  (.cons (.for_ (.nm 4) (.rng1 (.blt .len (.cons (.var 0) .nil))) (.cons (.ite (.or (.not (.call 15 (.cons (.ix (.ix (.var 1) (.int 0)) (.var 4)) .nil))) (.one (.cmp .NotEq (.bin .Mult (.ix (.ix (.var 1) (.int 0)) (.var 4)) (.ix (.ix (.var 0) (.var 4)) (.int 1))) (.bin .Mult (.ix (.ix (.var 0) (.var 4)) (.int 0)) (.var 2))))) (.cons (.ret (.bl false))
  .nil) .nil)
  .nil))
  (.cons (.ret (.bl true))
  .nil))))))))⟩
def ir__law_sums : Fd := ⟨2, 6, (.cons (.set 2 (.int 0))
  (.cons (.set 3 (.int 1))
  (.cons (.for_ (.nm 4) (.seq (.var 0)) (.cons (.set 2 (.bin .Add (.bin .Mult (.var 2) (.ix (.var 4) (.int 1))) (.bin .Mult (.ix (.var 4) (.int 0)) (.var 3))))
  (.cons (.set 3 (.bin .Mult (.var 3) (.ix (.var 4) (.int 1))))
  .nil)))
  (.cons (.ite (.not (.call 16 (.cons (.call 6 (.cons (.var 0) .nil)) (.cons (.var 2) (.cons (.var 3) .nil))))) (.cons (.ret (.bl false))
  .nil) .nil)
  (.cons (.set 2 (.int 0))
  (.cons (.set 3 (.int 1))
  (.cons (.for_ (.nm 5) (.rng1 (.blt .len (.cons (.var 0) .nil))) (.cons (.set 2 (.bin .Add (.bin .Mult (.bin .Mult (.var 2) (.ix (.ix (.var 0) (.var 5)) (.int 1))) (.ix (.ix (.var 1) (.var 5)) (.int 1))) (.bin .Mult (.bin .Mult (.ix (.ix (.var 0) (.var 5)) (.int 0)) (.ix (.ix (.var 1) (.var 5)) (.int 0))) (.var 3))))
  (.cons (.set 3 (.bin .Mult (.bin .Mult (.var 3) (.ix (.ix (.var 0) (.var 5)) (.int 1))) (.ix (.ix (.var 1) (.var 5)) (.int 1))))
  .nil)))
  (.cons (.ret (.call 16 (.cons (.call 7 (.cons (.var 0) (.cons (.var 1) .nil))) (.cons (.var 2) (.cons (.var 3) .nil)))))
  .nil))))))))⟩
def ir_law : Fd := ⟨1, 11, (.cons (.set 1 (.call 11 (.cons (.var 0) .nil)))
  (.cons (.set 2 (.bin .Add (.int 1) (.call 12 (.cons (.var 1) (.cons (.int 8) .nil)))))
  (.cons (.set 3 (.cmp .Eq (.call 12 (.cons (.var 1) (.cons (.int 4) .nil))) (.int 0)))
  (.cons (.set 4 (.lc [("k", 10)] (.nm 10) (.rng1 (.var 2)) .no (.call 17 (.cons (.var 1) (.cons (.var 3) .nil)))))
  (.cons (.set 5 (.lc [("k", 10)] (.nm 10) (.rng1 (.var 2)) .no (.call 17 (.cons (.var 1) (.cons (.var 3) .nil)))))
  (.cons (.ite (.cmp .Eq (.call 12 (.cons (.var 1) (.cons (.int 3) .nil))) (.int 0)) (.cons (.setIx (.var 4) (.call 12 (.cons (.var 1) (.cons (.var 2) .nil))) (.ix (.var 4) (.call 12 (.cons (.var 1) (.cons (.var 2) .nil)))))
  .nil) .nil)
  (.cons (.ite (.or (.not (.call 16 (.cons (.glob "ZERO" (.tup [(.int 0), (.int 1)])) (.cons (.int 0) (.cons (.int 1) .nil))))) (.one (.not (.call 16 (.cons (.glob "ONE" (.tup [(.int 1), (.int 1)])) (.cons (.int 1) (.cons (.int 1) .nil))))))) (.cons (.ret (.bl false))
  .nil) .nil)
  (.cons (.set 6 (.bin .Sub (.call 13 (.cons (.var 1) (.cons (.var 3) .nil))) (.call 13 (.cons (.var 1) (.cons (.var 3) .nil)))))
  (.cons (.set 7 (.bin .Add (.int 1) (.call 13 (.cons (.var 1) (.cons (.var 3) .nil)))))
  (.cons (.set 8 (.bin .Add (.int 1) (.call 12 (.cons (.var 1) (.cons (.int 30) .nil)))))
  (.cons (.ite (.cmp .Eq (.call 12 (.cons (.var 1) (.cons (.int 2) .nil))) (.int 1)) (.cons (.set 8 (.neg (.var 8)))
  .nil) .nil)
  (.cons (.ite (.not (.call 16 (.cons (.call 0 (.cons (.bin .Mult (.var 6) (.var 8)) (.cons (.bin .Mult (.var 7) (.var 8)) .nil))) (.cons (.var 6) (.cons (.var 7) .nil))))) (.cons (.ret (.bl false))
  .nil) .nil)
  (.cons (.set 9 (.tup (.cons (.blt .list (.cons (.var 4) .nil)) (.cons (.blt .list (.cons (.var 5) .nil)) .nil))))
  (.cons (.for_ (.nm 10) (.rng1 (.var 2)) (.cons (.ite (.or (.not (.call 18 (.cons (.ix (.var 4) (.var 10)) (.cons (.ix (.var 5) (.var 10)) .nil)))) (.one (.not (.call 18 (.cons (.ix (.var 4) (.var 10)) (.cons (.ix (.var 4) (.int 0)) .nil)))))) (.cons (.ret (.bl false))
  .nil) .nil)
  .nil))
  (.cons (.ite (.or (.not (.call 19 (.cons (.var 4) .nil))) (.or (.not (.call 20 (.cons (.var 4) .nil))) (.one (.not (.call 20 (.cons (.lst .nil) .nil)))))) (.cons (.ret (.bl false))
  .nil) .nil)
  (.cons (.ite (.or (.not (.call 21 (.cons (.var 4) (.cons (.var 5) .nil)))) (.one (.not (.call 21 (.cons (.lst .nil) (.cons (.lst .nil) .nil)))))) (.cons (.ret (.bl false))
  .nil) .nil)
  (.cons (.ret (.cmp .Eq (.var 9) (.tup (.cons (.var 4) (.cons (.var 5) .nil)))))
  .nil)))))))))))))))))⟩
def row_ratio : Row := ⟨"ratio", topS 4, ["n", "d", "common"], ["n", "d"], ir_ratio⟩
theorem bd_ratio : row_ratio.Binds' := fun _ _ _ _ _ _ us hl => match us, hl with | [_, _], _ => rfl
def row_add : Row := ⟨"add", topS 5, ["a", "b"], ["a", "b"], ir_add⟩
theorem bd_add : row_add.Binds' := fun _ _ _ _ _ _ us hl => match us, hl with | [_, _], _ => rfl
def row_sub : Row := ⟨"sub", topS 6, ["a", "b"], ["a", "b"], ir_sub⟩
theorem bd_sub : row_sub.Binds' := fun _ _ _ _ _ _ us hl => match us, hl with | [_, _], _ => rfl
def row_mul : Row := ⟨"mul", topS 7, ["a", "b"], ["a", "b"], ir_mul⟩
theorem bd_mul : row_mul.Binds' := fun _ _ _ _ _ _ us hl => match us, hl with | [_, _], _ => rfl
def row_div : Row := ⟨"div", topS 8, ["a", "b"], ["a", "b"], ir_div⟩
theorem bd_div : row_div.Binds' := fun _ _ _ _ _ _ us hl => match us, hl with | [_, _], _ => rfl
def row_compare : Row := ⟨"compare", topS 9, ["a", "b", "left", "right"], ["a", "b"], ir_compare⟩
theorem bd_compare : row_compare.Binds' := fun _ _ _ _ _ _ us hl => match us, hl with | [_, _], _ => rfl
def row_total : Row := ⟨"total", topS 10, ["fractions", "amount", "fraction"], ["fractions"], ir_total⟩
theorem bd_total : row_total.Binds' := fun _ _ _ _ _ _ us hl => match us, hl with | [_], _ => rfl
def row_dot : Row := ⟨"dot", topS 11, ["first", "second", "amount", "a", "b"], ["first", "second"], ir_dot⟩
theorem bd_dot : row_dot.Binds' := fun _ _ _ _ _ _ us hl => match us, hl with | [_, _], _ => rfl
def row_greatest : Row := ⟨"greatest", topS 12, ["fractions", "best", "fraction"], ["fractions"], ir_greatest⟩
theorem bd_greatest : row_greatest.Binds' := fun _ _ _ _ _ _ us hl => match us, hl with | [_], _ => rfl
def row_least : Row := ⟨"least", topS 13, ["fractions", "best", "fraction"], ["fractions"], ir_least⟩
theorem bd_least : row_least.Binds' := fun _ _ _ _ _ _ us hl => match us, hl with | [_], _ => rfl
def row_scaled : Row := ⟨"scaled", topS 14, ["fractions", "common", "fraction"], ["fractions"], ir_scaled⟩
theorem bd_scaled : row_scaled.Binds' := fun _ _ _ _ _ _ us hl => match us, hl with | [_], _ => rfl
def row__law_start : Row := ⟨"_law_start", topS 16, ["script", "cells", "cell"], ["script"], ir__law_start⟩
theorem bd__law_start : row__law_start.Binds' := fun _ _ _ _ _ _ us hl => match us, hl with | [_], _ => rfl
def row__law_draw : Row := ⟨"_law_draw", topS 17, ["state", "base", "cells", "rests", "turn", "at", "number"], ["state", "base"], ir__law_draw⟩
theorem bd__law_draw : row__law_draw.Binds' := fun _ _ _ _ _ _ us hl => match us, hl with | [_, _], _ => rfl
def row__law_great : Row := ⟨"_law_great", topS 18, ["state", "big", "number", "k"], ["state", "big"], ir__law_great⟩
theorem bd__law_great : row__law_great.Binds' := fun _ _ _ _ _ _ us hl => match us, hl with | [_, _], _ => rfl
def row__law_gcd : Row := ⟨"_law_gcd", topS 19, ["a", "b", "k", "rest"], ["a", "b"], ir__law_gcd⟩
theorem bd__law_gcd : row__law_gcd.Binds' := fun _ _ _ _ _ _ us hl => match us, hl with | [_, _], _ => rfl
def row__law_is_integer : Row := ⟨"_law_is_integer", topS 20, ["actual"], ["actual"], ir__law_is_integer⟩
theorem bd__law_is_integer : row__law_is_integer.Binds' := fun _ _ _ _ _ _ us hl => match us, hl with | [_], _ => rfl
def row__law_same : Row := ⟨"_law_same", topS 21, ["actual", "n", "d"], ["actual", "n", "d"], ir__law_same⟩
theorem bd__law_same : row__law_same.Binds' := fun _ _ _ _ _ _ us hl => match us, hl with | [_, _, _], _ => rfl
def row__law_fraction : Row := ⟨"_law_fraction", topS 22, ["state", "big", "kind", "n", "d", "common"], ["state", "big"], ir__law_fraction⟩
theorem bd__law_fraction : row__law_fraction.Binds' := fun _ _ _ _ _ _ us hl => match us, hl with | [_, _], _ => rfl
def row__law_pair : Row := ⟨"_law_pair", topS 23, ["a", "b", "order", "left", "right"], ["a", "b"], ir__law_pair⟩
theorem bd__law_pair : row__law_pair.Binds' := fun _ _ _ _ _ _ us hl => match us, hl with | [_, _], _ => rfl
def row__law_ends : Row := ⟨"_law_ends", topS 24, ["rows", "high", "low", "row"], ["rows"], ir__law_ends⟩
theorem bd__law_ends : row__law_ends.Binds' := fun _ _ _ _ _ _ us hl => match us, hl with | [_], _ => rfl
def row__law_scaled : Row := ⟨"_law_scaled", topS 25, ["rows", "actual", "common", "row", "k"], ["rows"], ir__law_scaled⟩
theorem bd__law_scaled : row__law_scaled.Binds' := fun _ _ _ _ _ _ us hl => match us, hl with | [_], _ => rfl
def row__law_sums : Row := ⟨"_law_sums", topS 26, ["rows", "others", "n", "d", "row", "k"], ["rows", "others"], ir__law_sums⟩
theorem bd__law_sums : row__law_sums.Binds' := fun _ _ _ _ _ _ us hl => match us, hl with | [_, _], _ => rfl
def row_law : Row := ⟨"law", topS 27, ["script", "state", "size", "big", "rows", "others", "n", "d", "times", "kept", "k"], ["script"], ir_law⟩
theorem bd_law : row_law.Binds' := fun _ _ _ _ _ _ us hl => match us, hl with | [_], _ => rfl
def rows : List Row := [row_ratio, row_add, row_sub, row_mul, row_div, row_compare, row_total, row_dot, row_greatest, row_least, row_scaled, row__law_start, row__law_draw, row__law_great, row__law_gcd, row__law_is_integer, row__law_same, row__law_fraction, row__law_pair, row__law_ends, row__law_scaled, row__law_sums, row_law]
theorem rows_bd : ∀ r ∈ rows, r.Binds' := (List.forall_mem_cons.mpr ⟨bd_ratio, (List.forall_mem_cons.mpr ⟨bd_add, (List.forall_mem_cons.mpr ⟨bd_sub, (List.forall_mem_cons.mpr ⟨bd_mul, (List.forall_mem_cons.mpr ⟨bd_div, (List.forall_mem_cons.mpr ⟨bd_compare, (List.forall_mem_cons.mpr ⟨bd_total, (List.forall_mem_cons.mpr ⟨bd_dot, (List.forall_mem_cons.mpr ⟨bd_greatest, (List.forall_mem_cons.mpr ⟨bd_least, (List.forall_mem_cons.mpr ⟨bd_scaled, (List.forall_mem_cons.mpr ⟨bd__law_start, (List.forall_mem_cons.mpr ⟨bd__law_draw, (List.forall_mem_cons.mpr ⟨bd__law_great, (List.forall_mem_cons.mpr ⟨bd__law_gcd, (List.forall_mem_cons.mpr ⟨bd__law_is_integer, (List.forall_mem_cons.mpr ⟨bd__law_same, (List.forall_mem_cons.mpr ⟨bd__law_fraction, (List.forall_mem_cons.mpr ⟨bd__law_pair, (List.forall_mem_cons.mpr ⟨bd__law_ends, (List.forall_mem_cons.mpr ⟨bd__law_scaled, (List.forall_mem_cons.mpr ⟨bd__law_sums, (List.forall_mem_cons.mpr ⟨bd_law, (fun _ h => nomatch h)⟩)⟩)⟩)⟩)⟩)⟩)⟩)⟩)⟩)⟩)⟩)⟩)⟩)⟩)⟩)⟩)⟩)⟩)⟩)⟩)⟩)⟩)⟩)
def gt : GT := ⟨["ratio", "add", "sub", "mul", "div", "compare", "total", "dot", "greatest", "least", "scaled", "_law_start", "_law_draw", "_law_great", "_law_gcd", "_law_is_integer", "_law_same", "_law_fraction", "_law_pair", "_law_ends", "_law_scaled", "_law_sums", "law"], [("ONE", (.tup [(.int 1), (.int 1)])), ("ZERO", (.tup [(.int 0), (.int 1)]))], ["abs", "bool", "int", "isinstance", "len", "list", "range", "tuple", "zip"], [("gcd", "math.gcd"), ("lcm", "math.lcm")]⟩
def loose : List Str := ["gcd", "lcm", "ZERO", "ONE", "ratio", "add", "sub", "mul", "div", "compare", "total", "dot", "greatest", "least", "scaled", "_law_start", "_law_draw", "_law_great", "_law_gcd", "_law_is_integer", "_law_same", "_law_fraction", "_law_pair", "_law_ends", "_law_scaled", "_law_sums"]
def lawAt : Nat := 27
def lawIx : Nat := 22
end Law
namespace Law
open PySem PyI L2
theorem rows_ok : (rows.all fun r => r.okB gt) = true := by decide +kernel
theorem fns_eq : gt.fns = rows.map (·.x) := by decide +kernel
theorem frees_ok : gt.frees.all plainB = true := by decide +kernel
theorem bf_ok : (gt.bf.map (·.1)).all plainB = true := by decide +kernel
end Law
/-! M86: fractions in plain integers. -/
namespace PyI
abbrev Qt := Int × Int
def Fr (c : Qt) : Prop := 1 ≤ c.2 ∧ Nat.gcd c.1.natAbs c.2.natAbs = 1
def Sml (c : Qt) : Prop := c.1.natAbs < 2 ^ 133 ∧ c.2.natAbs < 2 ^ 133
/-- the same number -/
def Sq (c : Qt) (n d : Int) : Prop := Fr c ∧ c.1 * d = n * c.2
def rat0 (n d : Int) : Qt := (n / (Nat.gcd n.natAbs d.natAbs : Nat), d / (Nat.gcd n.natAbs d.natAbs : Nat))
def rat (n d : Int) : Qt := if d < 0 then rat0 (-n) (-d) else rat0 n d
theorem gcd_pos {n d : Int} (h : d ≠ 0) : 0 < Nat.gcd n.natAbs d.natAbs := Nat.gcd_pos_of_pos_right _ (by omega)
theorem gcd_le {n d : Int} (h : d ≠ 0) : Nat.gcd n.natAbs d.natAbs ≤ d.natAbs := Nat.le_of_dvd (by omega) (Nat.gcd_dvd_right _ _)
theorem rat0_sq {n d : Int} (h : 0 < d) : Sq (rat0 n d) n d := by
  have gp : 0 < Nat.gcd n.natAbs d.natAbs := gcd_pos (by omega)
  have gn : ((Nat.gcd n.natAbs d.natAbs : Nat) : Int) ∣ n := Int.ofNat_dvd_left.mpr (Nat.gcd_dvd_left _ _)
  have gd : ((Nat.gcd n.natAbs d.natAbs : Nat) : Int) ∣ d := Int.ofNat_dvd_left.mpr (Nat.gcd_dvd_right _ _)
  unfold rat0 Sq Fr
  generalize hg : Nat.gcd n.natAbs d.natAbs = g at *
  obtain ⟨x, hx⟩ := gn
  obtain ⟨y, hy⟩ := gd
  have g0 : (g : Int) ≠ 0 := by omega
  have ex : n / (g : Int) = x := by rw [hx]; exact Int.mul_ediv_cancel_left _ g0
  have ey : d / (g : Int) = y := by rw [hy]; exact Int.mul_ediv_cancel_left _ g0
  show (1 ≤ d / (g : Int) ∧ Nat.gcd (n / (g : Int)).natAbs (d / (g : Int)).natAbs = 1) ∧ n / (g : Int) * d = n * (d / (g : Int))
  rw [ex, ey]
  refine ⟨⟨?_, ?_⟩, ?_⟩
  · have : 0 < y := by
      rw [hy] at h
      exact Int.pos_of_mul_pos_right h (by omega)
    omega
  · have e : Nat.gcd (g * x.natAbs) (g * y.natAbs) = g := by
      rw [hx, hy, Int.natAbs_mul, Int.natAbs_mul] at hg
      simpa using hg
    rw [Nat.gcd_mul_left] at e
    exact Nat.eq_of_mul_eq_mul_left gp (by rw [e, Nat.mul_one])
  · rw [hx, hy]
    rw [← Int.mul_assoc, Int.mul_comm x, Int.mul_assoc]
theorem rat_sq {n d : Int} (h : d ≠ 0) : Sq (rat n d) n d := by
  unfold rat
  split
  · have := rat0_sq (n := -n) (d := -d) (by omega)
    refine ⟨this.1, ?_⟩
    have e := this.2
    rw [Int.mul_neg, Int.neg_mul] at e
    exact Int.neg_inj.mp e
  · exact rat0_sq (by omega)
theorem Sq.sizes {c : Qt} {n d : Int} (h : Sq c n d) (hd : d ≠ 0) : c.1.natAbs ≤ n.natAbs ∧ c.2.natAbs ≤ d.natAbs := by
  obtain ⟨⟨h1, hg⟩, e⟩ := h
  have e2 : c.1.natAbs * d.natAbs = n.natAbs * c.2.natAbs := by rw [← Int.natAbs_mul, ← Int.natAbs_mul, e]
  constructor
  · by_cases hn : n = 0
    · subst hn
      have : c.1 * d = 0 := by rw [e, Int.zero_mul]
      rcases Int.mul_eq_zero.mp this with z | z
      · rw [z]; omega
      · exact absurd z hd
    · refine Nat.le_of_dvd (by omega) ?_
      exact (show Nat.Coprime c.1.natAbs c.2.natAbs from hg).dvd_of_dvd_mul_right ⟨d.natAbs, e2.symm⟩
  · refine Nat.le_of_dvd (by omega) ?_
    exact (show Nat.Coprime c.2.natAbs c.1.natAbs from (show Nat.Coprime _ _ from hg).symm).dvd_of_dvd_mul_left ⟨n.natAbs, by rw [e2, Nat.mul_comm]⟩
theorem Sq.trans_add {a b c : Qt} {n d : Int} (ha : Sq a n d) (hb : Fr b) (hd : 0 < d) (h : Sq c (a.1 * b.2 + b.1 * a.2) (a.2 * b.2)) : Sq c (n * b.2 + b.1 * d) (d * b.2) := by
  refine ⟨h.1, ?_⟩
  have a2 : a.2 ≠ 0 := by have := ha.1.1; omega
  have e := h.2
  have f := ha.2
  refine Int.eq_of_mul_eq_mul_left a2 ?_
  have k1 : a.2 * (c.1 * (d * b.2)) = d * (c.1 * (a.2 * b.2)) := by grind
  have k2 : a.2 * ((n * b.2 + b.1 * d) * c.2) = d * ((a.1 * b.2 + b.1 * a.2) * c.2) := by grind
  rw [k1, k2, e]
/-- Fibonacci -/
def fb : Nat → Nat
  | 0 => 0
  | 1 => 1
  | n + 2 => fb n + fb (n + 1)
theorem fb_5 (n : Nat) : 11 * fb (n + 5) ≤ fb (n + 10) := by
  have s : ∀ m, fb (m + 2) = fb m + fb (m + 1) := fun _ => by rw [fb]
  have := s n; have := s (n+1); have := s (n+2); have := s (n+3); have := s (n+4); have := s (n+5); have := s (n+6); have := s (n+7); have := s (n+8)
  simp only [Nat.add_assoc, Nat.reduceAdd] at *
  omega
theorem fb_pow : ∀ k, 5 * 11 ^ k ≤ fb (5 * k + 5)
  | 0 => by decide
  | k + 1 => by
    have h := fb_pow k
    have := fb_5 (5 * k)
    rw [Nat.pow_succ]
    show _ ≤ fb (5 * (k + 1) + 5)
    rw [show 5 * (k + 1) + 5 = 5 * k + 10 by omega]
    omega
theorem fb_4000 : 2 ^ 2700 ≤ fb 4000 := Nat.le_trans (by decide +kernel : 2 ^ 2700 ≤ 5 * 11 ^ 799) (fb_pow 799)
/-- what is left of Euclid's way -/
def Lm (m a b : Nat) : Prop := b < fb m ∨ (a < fb (m + 1) ∧ b ≤ a)
theorem Lm.step {m a b : Nat} (h : Lm (m + 1) a b) (hb : 0 < b) : Lm m b (a % b) := by
  have lt := Nat.mod_lt a hb
  rcases h with h | ⟨h, l⟩
  · exact .inr ⟨h, by omega⟩
  · by_cases k : b < fb (m + 1)
    · exact .inr ⟨k, by omega⟩
    · left
      have e : a % b ≤ a - b := by
        rw [Nat.mod_eq_sub_mod l]
        exact Nat.mod_le _ _
      have : fb (m + 2) = fb m + fb (m + 1) := by rw [fb]
      rw [show m + 1 + 1 = m + 2 from rfl] at h
      omega
theorem Lm.last {a b : Nat} (h : Lm 0 a b) : b = 0 := by
  rcases h with h | ⟨h, l⟩
  · exact absurd h (by simp [fb])
  · have : fb (0 + 1) = 1 := rfl
    omega
/-! ### sizes -/
theorem lg {x : Nat} {b : Nat} (h : x < 2 ^ b) (hb : 0 < b) : x.log2 < b := by
  by_cases z : x = 0
  · subst z; simpa using hb
  · exact (Nat.log2_lt z).mpr h
theorem lt_mul {x y : Int} {a b c : Nat} (hx : x.natAbs < 2 ^ a) (hy : y.natAbs < 2 ^ b) (h : a + b ≤ c) : (x * y).natAbs < 2 ^ c := by
  rw [Int.natAbs_mul]
  have : x.natAbs * y.natAbs < 2 ^ a * 2 ^ b := Nat.mul_lt_mul'' hx hy
  rw [← Nat.pow_add] at this
  exact Nat.lt_of_lt_of_le this (Nat.pow_le_pow_right (by decide) h)
theorem lt_add {x y : Int} {a c : Nat} (hx : x.natAbs < 2 ^ a) (hy : y.natAbs < 2 ^ a) (h : a + 1 ≤ c) : (x + y).natAbs < 2 ^ c := by
  have k : 2 ^ (a + 1) ≤ 2 ^ c := Nat.pow_le_pow_right (by decide) h
  rw [Nat.pow_succ] at k
  omega
theorem lt_sub {x y : Int} {a c : Nat} (hx : x.natAbs < 2 ^ a) (hy : y.natAbs < 2 ^ a) (h : a + 1 ≤ c) : (x - y).natAbs < 2 ^ c := by
  have k : 2 ^ (a + 1) ≤ 2 ^ c := Nat.pow_le_pow_right (by decide) h
  rw [Nat.pow_succ] at k
  omega
theorem lt_up {x : Nat} {a c : Nat} (hx : x < 2 ^ a) (h : a ≤ c) : x < 2 ^ c := Nat.lt_of_lt_of_le hx (Nat.pow_le_pow_right (by decide) h)
end PyI
namespace Law
open PySem PyI
local macro_rules | `(tactic| walk_at "px") => `(tactic| simp only [↓sv_var, ↓sv_int, ↓sv_bl, ↓sv_non, ↓sv_str, ↓sv_glob, ↓sv_bin, ↓sv_neg, ↓sv_cmp, ↓sv_chain, ↓sv_and, ↓sv_or, ↓sv_one, ↓sv_not, ↓sv_ite, ↓sv_tup, ↓sv_lst, ↓sv_ix, ↓sv_sl, ↓sv_call, ↓sv_blt, ↓sv_isi, ↓sv_mth, ↓sv_lc, ↓sv_turn, ↓sv_esnil, ↓sv_escons, ↓sv_no, ↓sv_yes, ↓sv_tno, ↓sv_tyes, ↓tv_and, ↓tv_or, ↓tv_one, ↓tv_not, ↓tv_cmp, ↓tv_chain, ↓tv_var, ↓tv_bl, ↓tv_ix, ↓tv_call, ↓tv_isi, ↓st_skip, ↓st_expr, ↓st_set, ↓st_unp, ↓st_setIx, ↓st_ret, ↓st_retN, ↓st_ite, ↓st_for, ↓st_while, ↓st_brk, ↓st_cont, ↓ov_add, ↓ov_sub, ↓ov_mul, ↓ov_fdiv, ↓ov_mod, ↓ov_pow, ↓ov_neg, ↓ov_addstr, ↓ov_addtup, ↓cv_lt, ↓cv_le, ↓cv_gt, ↓cv_ge, ↓cv_eq, ↓cv_ne, ↓cv_isN, ↓cv_isnN, ↓uv_bl, ↓uv_int, ↓xv_tup, ↓xv_rol, ↓xv_obj, at_0, at_1, at_2, ↓lv_obj, ↓lv_tup, ↓lv_rol, ↓bv_int, ↓bv_intb, ↓bv_abs, ↓bv_list, ↓bv_tuple, ↓bv_gcd, ↓bv_lcm, ↓pv_obj, ↓mv_append, ↓gv_nm, ↓gv_tp, ↓iv_seq, ↓iv_rng1, ↓iv_rng2, ↓iv_zip, ↓iv_enum, ↓Rt_cons, ↓Rt_nil, ↓Rt_ok, ↓Rt_run, ↓VarP_some, ↓OptP_some, ↓LstP_some, ↓Then_next, ↓Then_ret, ↓Then_brk, ↓Then_cont, ↓Then_exc, ↓Back_next, ↓Back_ret, ↓Back_exc, ↓Turn_next, ↓Turn_cont, ↓Turn_brk, ↓Turn_ret, ↓Turn_exc, ↓TurnC_none, ↓TurnC_some, ↓Br_true, ↓Br_false, PyI.isiD, PyI.isNonD, PyI.sets, PyI.wipeE, List.map_cons, List.map_nil, List.cons_append, List.nil_append, List.getElem?_cons_zero, List.getElem?_cons_succ, List.set_cons_zero, List.set_cons_succ, List.replicate, Nat.reduceSub, List.length_cons, List.length_nil, Nat.reduceAdd, Bool.not_true, Bool.not_false])
abbrev fds : List Fd := rows.map (·.fd)
def fr (q : Qt) : D := .tup [.int q.1, .int q.2]
theorem mulOk_of {i j : Int} {a b : Nat} (h : i.natAbs < 2 ^ a) (h2 : j.natAbs < 2 ^ b) (ha : 0 < a) (hb : 0 < b) (h3 : a + b ≤ 1000000) : mulOk i j = true := by
  have := lg h ha
  have := lg h2 hb
  unfold mulOk
  rw [decide_eq_true (p := i.natAbs.log2 + j.natAbs.log2 < 1000000) (by omega), Bool.or_true]
/-- numbers whose product is no matter -/
abbrev Bg (i : Int) : Prop := i.natAbs < 2 ^ 8000
theorem mulOk_bg {i j : Int} (h : Bg i) (h2 : Bg j) : mulOk i j = true := mulOk_of h h2 (by decide) (by decide) (by decide)
theorem bg {i : Int} {a : Nat} (h : i.natAbs < 2 ^ a) (ha : a ≤ 8000 := by decide) : Bg i := lt_up h ha
theorem sp_ratio (k : Nat) (n d : Int) (S : Store) (hd : d ≠ 0) (hb : Bg d) : Rt (callN fds (k + 1) 0 [.int n, .int d] S) (fun v S' => S' = S ∧ v = fr (rat n d)) nx := by
  refine Rt_call (fd := ir_ratio) rfl rfl ?_
  unfold ir_ratio
  walk_at "px"
  have key : ∀ n d : Int, 0 < d → Bg d → (0 : Int) < (Nat.gcd n.natAbs d.natAbs : Nat) ∧ ((Nat.gcd n.natAbs d.natAbs : Nat) : Int).natAbs.log2 < 9000 := fun n d h b => by
    have g1 := gcd_pos (n := n) (d := d) (by omega)
    have g2 := gcd_le (n := n) (d := d) (by omega)
    refine ⟨by omega, ?_⟩
    rw [Int.natAbs_natCast]
    have := lg (Nat.lt_of_le_of_lt g2 b) (by decide)
    omega
  refine Br.dec (fun h => ?_) (fun h => ?_)
  · have := key (-n) (-d) (by omega) (by unfold Bg; rw [Int.natAbs_neg]; exact hb)
    refine ⟨this, this, by simp [sizeLine], trivial, ?_⟩
    unfold rat
    rw [if_pos h]
    rfl
  · have := key n d (by omega) hb
    refine ⟨this, this, by simp [sizeLine], trivial, ?_⟩
    unfold rat
    rw [if_neg h]
    rfl
/-- what the four operations reach -/
def Says (S : Store) (n d : Int) (v : D) (S' : Store) : Prop := S' = S ∧ ∃ c, v = fr c ∧ Sq c n d
theorem sp_rat {k : Nat} {n d : Int} {S : Store} (hd : d ≠ 0) (hb : Bg d) {P : D → Store → Prop} {E : Xn → Store → Prop} (h : ∀ c, Sq c n d → P (fr c) S) : Rt (callN fds (k + 1) 0 [.int n, .int d] S) P E :=
  Rt.use (sp_ratio k n d S hd hb) fun v S' z => by
    obtain ⟨rfl, rfl⟩ := z
    exact h _ (rat_sq hd)
theorem ne0 {x y : Int} (hx : x ≠ 0) (hy : y ≠ 0) : x * y ≠ 0 := fun h => by
  rcases Int.mul_eq_zero.mp h with z | z
  · exact hx z
  · exact hy z
section
variable {k : Nat} {a b : Qt} {S : Store} {P : D → Store → Prop} {E : Xn → Store → Prop} {s t : Nat}
theorem sp_add (ha : a.1.natAbs < 2 ^ 3500 ∧ a.2.natAbs < 2 ^ 3500) (hb : b.1.natAbs < 2 ^ 3500 ∧ b.2.natAbs < 2 ^ 3500) (fa : Fr a) (fb : Fr b)
    (h : ∀ c, Sq c (a.1 * b.2 + b.1 * a.2) (a.2 * b.2) → P (fr c) S) : Rt (callN fds (k + 2) 1 [fr a, fr b] S) P E := by
  refine Rt_call (fd := ir_add) rfl rfl ?_
  unfold ir_add fr
  walk_at "px"
  exact ⟨mulOk_bg (bg ha.1) (bg hb.2), mulOk_bg (bg hb.1) (bg ha.2), mulOk_bg (bg ha.2) (bg hb.2), sp_rat (ne0 (by have := fa.1; omega) (by have := fb.1; omega)) (bg (lt_mul ha.2 hb.2 (Nat.le_refl _))) h⟩
theorem sp_sub (ha : a.1.natAbs < 2 ^ 3500 ∧ a.2.natAbs < 2 ^ 3500) (hb : b.1.natAbs < 2 ^ 3500 ∧ b.2.natAbs < 2 ^ 3500) (fa : Fr a) (fb : Fr b)
    (h : ∀ c, Sq c (a.1 * b.2 - b.1 * a.2) (a.2 * b.2) → P (fr c) S) : Rt (callN fds (k + 2) 2 [fr a, fr b] S) P E := by
  refine Rt_call (fd := ir_sub) rfl rfl ?_
  unfold ir_sub fr
  walk_at "px"
  exact ⟨mulOk_bg (bg ha.1) (bg hb.2), mulOk_bg (bg hb.1) (bg ha.2), mulOk_bg (bg ha.2) (bg hb.2), sp_rat (ne0 (by have := fa.1; omega) (by have := fb.1; omega)) (bg (lt_mul ha.2 hb.2 (Nat.le_refl _))) h⟩
theorem sp_mul (ha : a.1.natAbs < 2 ^ 3500 ∧ a.2.natAbs < 2 ^ 3500) (hb : b.1.natAbs < 2 ^ 3500 ∧ b.2.natAbs < 2 ^ 3500) (fa : Fr a) (fb : Fr b)
    (h : ∀ c, Sq c (a.1 * b.1) (a.2 * b.2) → P (fr c) S) : Rt (callN fds (k + 2) 3 [fr a, fr b] S) P E := by
  refine Rt_call (fd := ir_mul) rfl rfl ?_
  unfold ir_mul fr
  walk_at "px"
  exact ⟨mulOk_bg (bg ha.1) (bg hb.1), mulOk_bg (bg ha.2) (bg hb.2), sp_rat (ne0 (by have := fa.1; omega) (by have := fb.1; omega)) (bg (lt_mul ha.2 hb.2 (Nat.le_refl _))) h⟩
theorem sp_div (ha : a.1.natAbs < 2 ^ 3500 ∧ a.2.natAbs < 2 ^ 3500) (hb : b.1.natAbs < 2 ^ 3500 ∧ b.2.natAbs < 2 ^ 3500) (fa : Fr a) (nz : b.1 ≠ 0)
    (h : ∀ c, Sq c (a.1 * b.2) (a.2 * b.1) → P (fr c) S) : Rt (callN fds (k + 2) 4 [fr a, fr b] S) P E := by
  refine Rt_call (fd := ir_div) rfl rfl ?_
  unfold ir_div fr
  walk_at "px"
  exact ⟨mulOk_bg (bg ha.1) (bg hb.2), mulOk_bg (bg ha.2) (bg hb.1), sp_rat (ne0 (by have := fa.1; omega) nz) (bg (lt_mul ha.2 hb.1 (Nat.le_refl _))) h⟩
theorem sp_cmp (ha : a.1.natAbs < 2 ^ 3500 ∧ a.2.natAbs < 2 ^ 3500) (hb : b.1.natAbs < 2 ^ 3500 ∧ b.2.natAbs < 2 ^ 3500)
    (h : P (.int (if a.1 * b.2 < b.1 * a.2 then -1 else if b.1 * a.2 < a.1 * b.2 then 1 else 0)) S) : Rt (callN fds (k + 1) 5 [fr a, fr b] S) P E := by
  refine Rt_call (fd := ir_compare) rfl rfl ?_
  unfold ir_compare fr
  walk_at "px"
  refine ⟨mulOk_bg (bg ha.1) (bg hb.2), mulOk_bg (bg hb.1) (bg ha.2), Br.dec (fun h1 => ?_) (fun h1 => Br.dec (fun h2 => ?_) (fun h2 => ?_))⟩
  · rw [if_pos h1] at h; exact h
  · rw [if_neg h1, if_pos h2] at h; exact h
  · rw [if_neg h1, if_neg h2] at h; exact h
end
end Law
namespace Law
open PySem PyI
local macro_rules | `(tactic| walk_at "px") => `(tactic| simp only [↓sv_var, ↓sv_int, ↓sv_bl, ↓sv_non, ↓sv_str, ↓sv_glob, ↓sv_bin, ↓sv_neg, ↓sv_cmp, ↓sv_chain, ↓sv_and, ↓sv_or, ↓sv_one, ↓sv_not, ↓sv_ite, ↓sv_tup, ↓sv_lst, ↓sv_ix, ↓sv_sl, ↓sv_call, ↓sv_blt, ↓sv_isi, ↓sv_mth, ↓sv_lc, ↓sv_turn, ↓sv_esnil, ↓sv_escons, ↓sv_no, ↓sv_yes, ↓sv_tno, ↓sv_tyes, ↓tv_and, ↓tv_or, ↓tv_one, ↓tv_not, ↓tv_cmp, ↓tv_chain, ↓tv_var, ↓tv_bl, ↓tv_ix, ↓tv_call, ↓tv_isi, ↓st_skip, ↓st_expr, ↓st_set, ↓st_unp, ↓st_setIx, ↓st_ret, ↓st_retN, ↓st_ite, ↓st_for, ↓st_while, ↓st_brk, ↓st_cont, ↓ov_add, ↓ov_sub, ↓ov_mul, ↓ov_fdiv, ↓ov_mod, ↓ov_pow, ↓ov_neg, ↓ov_addstr, ↓ov_addtup, ↓cv_lt, ↓cv_le, ↓cv_gt, ↓cv_ge, ↓cv_eq, ↓cv_ne, ↓cv_isN, ↓cv_isnN, ↓uv_bl, ↓uv_int, ↓xv_tup, ↓xv_rol, ↓xv_obj, at_0, at_1, at_2, ↓lv_obj, ↓lv_tup, ↓lv_rol, ↓bv_int, ↓bv_intb, ↓bv_abs, ↓bv_list, ↓bv_tuple, ↓bv_gcd, ↓bv_lcm, ↓pv_obj, ↓mv_append, ↓gv_nm, ↓gv_tp, ↓iv_seq, ↓iv_rng1, ↓iv_rng2, ↓iv_zip, ↓iv_enum, ↓Rt_cons, ↓Rt_nil, ↓Rt_ok, ↓Rt_run, ↓VarP_some, ↓OptP_some, ↓LstP_some, ↓Then_next, ↓Then_ret, ↓Then_brk, ↓Then_cont, ↓Then_exc, ↓Back_next, ↓Back_ret, ↓Back_exc, ↓Turn_next, ↓Turn_cont, ↓Turn_brk, ↓Turn_ret, ↓Turn_exc, ↓TurnC_none, ↓TurnC_some, ↓Br_true, ↓Br_false, PyI.isiD, PyI.isNonD, PyI.sets, PyI.wipeE, List.map_cons, List.map_nil, List.cons_append, List.nil_append, List.getElem?_cons_zero, List.getElem?_cons_succ, List.set_cons_zero, List.set_cons_succ, List.replicate, Nat.reduceSub, List.length_cons, List.length_nil, Nat.reduceAdd, Bool.not_true, Bool.not_false])
theorem Br.t {k : Bool} {A B : Prop} (h : k = true) (a : A) : Br k A B := by subst h; simpa [Br] using a
theorem Br.f {k : Bool} {A B : Prop} (h : k = false) (a : B) : Br k A B := by subst h; simpa [Br] using a
theorem sp_isint {k : Nat} {i : Int} {S : Store} {P : D → Store → Prop} {E : Xn → Store → Prop} (h : P (.bl true) S) : Rt (callN fds (k + 1) 15 [.int i] S) P E := by
  refine Rt_call (fd := ir__law_is_integer) rfl rfl ?_
  unfold ir__law_is_integer
  walk_at "px"
  simpa [OptP, Br] using h
theorem abs_nat (a : Int) : (if a < 0 then -a else a) = (a.natAbs : Int) := by split <;> omega
theorem sp_gcd {k : Nat} {a b : Int} {S : Store} {P : D → Store → Prop} {E : Xn → Store → Prop} (hb : b.natAbs < 2 ^ 2700) (h : P (.int (Nat.gcd a.natAbs b.natAbs : Nat)) S) : Rt (callN fds (k + 1) 14 [.int a, .int b] S) P E := by
  refine Rt_call (fd := ir__law_gcd) rfl rfl ?_
  unfold ir__law_gcd
  walk_at "px"
  refine ⟨by omega, ?_⟩
  rw [abs_nat, abs_nat]
  refine Rt_for (fun i env S' => S' = S ∧ ∃ (x y : Nat) (u w : Option D), env = [some (.int x), some (.int y), u, w] ∧ Nat.gcd x y = Nat.gcd a.natAbs b.natAbs ∧ Lm (4000 - i) x y) ?_ ?_ ?_ ?_
  · exact ⟨rfl, _, _, _, _, rfl, rfl, .inl (Nat.lt_of_lt_of_le hb fb_4000)⟩
  · intros; rfl
  · intro i d env S' hd ⟨e, x, y, u, w, e2, hg, hl⟩
    subst e; subst e2
    have hi : i < 4000 := by
      have := (List.getElem?_eq_some_iff.mp hd).1
      simpa [rngI] using this
    walk_at "px"
    refine Br.dec (fun hz => ?_) (fun hz => ?_)
    · have : y = 0 := by omega
      subst this
      rw [Nat.gcd_zero_right] at hg
      rw [hg]
      exact h
    · refine ⟨by omega, trivial, y, x % y, _, _, rfl, ?_, ?_⟩
      · rw [Nat.gcd_comm y, ← Nat.gcd_rec, Nat.gcd_comm]; exact hg
      · exact Lm.step (by rw [show 4000 - (i + 1) + 1 = 4000 - i by omega]; exact hl) (by omega)
  · intro env S' ⟨e, x, y, u, w, e2, hg, hl⟩
    subst e; subst e2
    have : (rngI 0 (4000 : Int).toNat).length = 4000 := by simp [rngI]
    rw [this] at hl
    have := hl.last
    subst this
    rw [Nat.gcd_zero_right] at hg
    walk_at "px"
    rw [hg]
    exact h
theorem sp_same {k : Nat} {c : Qt} {n d : Int} {S : Store} {P : D → Store → Prop} {E : Xn → Store → Prop} (hq : Sq c n d) (hd : d ≠ 0) (hn : n.natAbs < 2 ^ 2700) (hd2 : d.natAbs < 2 ^ 2700) (h : P (.bl true) S) : Rt (callN fds (k + 2) 16 [fr c, .int n, .int d] S) P E := by
  obtain ⟨z1, z2⟩ := hq.sizes hd
  have b1 : c.1.natAbs < 2 ^ 2700 := Nat.lt_of_le_of_lt z1 hn
  have b2 : c.2.natAbs < 2 ^ 2700 := Nat.lt_of_le_of_lt z2 hd2
  refine Rt_call (fd := ir__law_same) rfl rfl ?_
  unfold ir__law_same fr
  walk_at "px"
  have p1 : 1 ≤ c.2 := hq.1.1
  refine Br.f rfl (Br.f rfl (sp_isint ?_))
  walk_at "px"
  refine sp_isint ?_
  walk_at "px"
  refine Br.f (decide_eq_false (by omega)) (sp_gcd b2 ?_)
  walk_at "px"
  rw [hq.1.2]
  refine Br.f rfl ⟨mulOk_bg (bg b1) (bg hd2), mulOk_bg (bg hn) (bg b2), ?_⟩
  rw [decide_eq_true hq.2]
  exact h
/-! ### the draws -/
def nats (xs : List Nat) : List D := xs.map fun x => .int (x : Nat)
theorem nats_len {xs : List Nat} : (nats xs).length = xs.length := by simp [nats]
theorem nats_at {xs : List Nat} {i : Nat} (h : i < xs.length) : L2.atI (nats xs) (i : Int) = some (.int (xs[i] : Nat)) := by
  refine L2.atI_nat ?_
  unfold nats
  rw [List.getElem?_map, List.getElem?_eq_getElem h]
  rfl
theorem nats_set {xs : List Nat} {i : Nat} {v : Nat} : (nats xs).set i (.int v) = nats (xs.set i v) := by
  unfold nats
  rw [List.map_set]
structure Draws (st ci ri : Nat) (S : Store) : Prop where
  ex : ∃ (t : Nat) (cs rs : List Nat), S[st]? = some (.lst [.obj ci, .obj ri, .int t]) ∧ S[ci]? = some (.lst (nats cs)) ∧ S[ri]? = some (.lst (nats rs)) ∧ cs.length = rs.length ∧ 0 < cs.length
  n1 : st ≠ ci
  n2 : st ≠ ri
  n3 : ci ≠ ri
theorem Draws.stay {st ci ri : Nat} {S S' : Store} {X : List Nat} (h : Draws st ci ri S) (s : Stays X S S') (a : st ∉ X) (b : ci ∉ X) (c : ri ∉ X) : Draws st ci ri S' := by
  obtain ⟨t, cs, rs, e1, e2, e3, e4, e5⟩ := h.ex
  exact ⟨⟨t, cs, rs, s.get e1 a, s.get e2 b, s.get e3 c, e4, e5⟩, h.n1, h.n2, h.n3⟩
theorem nat_mod (a : Int) (b : Nat) (h : 0 < b) : ∃ r : Nat, a % (b : Int) = r ∧ r < b := by
  have h1 := Int.emod_nonneg a (b := (b : Int)) (by omega)
  have h2 := Int.emod_lt_of_pos a (b := (b : Int)) (by omega)
  exact ⟨(a % (b : Int)).toNat, by omega, by omega⟩
theorem sp_draw {k : Nat} {st ci ri : Nat} {S : Store} {b : Nat} {P : D → Store → Prop} {E : Xn → Store → Prop} (hs : Draws st ci ri S) (hb : 0 < b) (hb2 : b < 2 ^ 100)
    (h : ∀ (x : Nat) S', x < b → Draws st ci ri S' → Stays [st, ri] S S' → P (.int x) S') : Rt (callN fds (k + 1) 12 [.obj st, .int b] S) P E := by
  obtain ⟨t, cs, rs, e1, e2, e3, e4, e5⟩ := hs.ex
  have n1 := hs.n1
  have n2 := hs.n2
  have n3 := hs.n3
  refine Rt_call (fd := ir__law_draw) rfl rfl ?_
  unfold ir__law_draw
  walk_at "px"
  obtain ⟨m, hm, hlt⟩ := nat_mod t cs.length e5
  have x3 : L2.ixN (0 + 1 + 1 + 1) 2 = some 2 := rfl
  simp only [e1, LstP_some, at_0, at_1, at_2, OptP_some]
  walk_at "px"
  simp only [e2, LstP_some, nats_len, hm]
  refine ⟨by omega, ?_⟩
  simp only [e1, LstP_some, List.length_cons, List.length_nil, x3, OptP_some, List.set_cons_succ, List.set_cons_zero]
  have f1 : (S.set st (.lst [.obj ci, .obj ri, .int (t + 1)]))[st]? = some (.lst [.obj ci, .obj ri, .int ((t + 1 : Nat) : Int)]) := by
    rw [List.getElem?_set_self (List.getElem?_eq_some_iff.mp e1).1]; rfl
  have f2 : (S.set st (.lst [.obj ci, .obj ri, .int (t + 1)]))[ci]? = some (.lst (nats cs)) := by rw [List.getElem?_set_ne n1]; exact e2
  have f3 : (S.set st (.lst [.obj ci, .obj ri, .int (t + 1)]))[ri]? = some (.lst (nats rs)) := by rw [List.getElem?_set_ne n2]; exact e3
  have st1 : Stays [st, ri] S (S.set st (.lst [.obj ci, .obj ri, .int (t + 1)])) := Stays.set (by simp)
  generalize hS1 : S.set st (.lst [.obj ci, .obj ri, .int (t + 1)]) = S1 at *
  have at1 := nats_at (xs := cs) hlt
  have hlt2 : m < rs.length := by omega
  have at2 := nats_at (xs := rs) hlt2
  have bp : (0 : Int) < b := by omega
  have lg1 : (b : Int).natAbs.log2 < 9000 := by
    have := lg hb2 (by decide)
    rw [Int.natAbs_natCast]; omega
  have p48 : ∀ i : Int, mulOk i 48271 = true := fun i => by unfold mulOk; simp
  have p69 : ∀ i : Int, mulOk i 69621 = true := fun i => by unfold mulOk; simp
  have p79 : ∀ i : Int, mulOk i 7919 = true := fun i => by unfold mulOk; simp
  have d1 : Draws st ci ri S1 := ⟨⟨t + 1, cs, rs, f1, f2, f3, e4, e5⟩, n1, n2, n3⟩
  have last : ∀ i : Int, Nd ((0 : Int) < b) (P (.int (i % b)) S1) := fun i => by
    obtain ⟨r, e, l⟩ := nat_mod i b hb
    rw [e]
    exact ⟨bp, h r S1 l d1 st1⟩
  have tail : LstP S1[ci]? fun ds => OptP (L2.atI ds (m : Int)) fun d => Rt (binD .Mult d (.int 48271) S1) (fun x S => Nd (mulOk (t : Int) 69621 = true) (Rt (binD .Add x (.int (t * 69621)) S) (fun x S => Rt (binD .Add x (.int 11) S) (fun d S => Rt (bltD .int [d] S) (fun x S => Rt (binD .Mod x (.int 2147483647) S) (fun d S => Rt (binD .Mult d d S) (fun x S => Nd (mulOk (t : Int) 7919 = true) (Rt (binD .Add x (.int (t * 7919)) S) (fun x S => Rt (binD .Add x (.int 3) S) (fun d S => Rt (bltD .int [d] S) (fun x S => Rt (binD .Mod x (.int 2147483629) S) (fun d S => Rt (bltD .int [d] S) (fun x S => Rt (binD .Mod x (.int b) S) (fun d S => P d S) fun x S => E x S) fun x S => E x S) fun x S => E x S) fun x S => E x S) fun x S => E x S) fun x S => E x S)) fun x S => E x S) fun x S => E x S) fun x S => E x S) fun x S => E x S) fun x S => E x S)) fun x S => E x S := by
    rw [f2, LstP_some, at1, OptP_some]
    walk_at "px"
    refine ⟨p48 _, p69 _, by decide, ?_, p79 _, by decide, last _⟩
    have z1 := Int.emod_nonneg ((cs[m] : Int) * 48271 + t * 69621 + 11) (b := 2147483647) (by decide)
    have z2 := Int.emod_lt_of_pos ((cs[m] : Int) * 48271 + t * 69621 + 11) (b := 2147483647) (by decide)
    unfold mulOk
    rw [decide_eq_true (by omega), Bool.true_or]
    rfl
  simp only [f2, LstP_some, at1, OptP_some]
  refine ⟨by decide, ?_⟩
  walk_at "px"
  refine Br.dec (fun h1 => ?_) (fun h1 => tail)
  simp only [f3, LstP_some, at2, OptP_some]
  walk_at "px"
  refine Br.dec (fun h2 => ?_) (fun h2 => tail)
  simp only [f3, LstP_some, at2, OptP_some]
  walk_at "px"
  refine ⟨bp, ?_⟩
  simp only [f3, LstP_some, at2, OptP_some]
  walk_at "px"
  refine ⟨⟨bp, lg1⟩, ?_⟩
  have x4 : L2.ixN rs.length (m : Int) = some m := by
    unfold L2.ixN
    rw [if_pos (by omega), if_pos (by omega)]
    rfl
  simp only [f3, LstP_some, nats_len, x4, OptP_some]
  obtain ⟨r, e, l⟩ := nat_mod (rs[m] : Int) b hb
  rw [e]
  have q : (rs[m] : Int) / (b : Int) = ((rs[m] / b : Nat) : Int) := rfl
  rw [q, nats_set]
  refine h r _ l ⟨⟨t + 1, cs, rs.set m (rs[m] / b), ?_, ?_, ?_, by simp [e4], e5⟩, n1, n2, n3⟩ (st1.trans (Stays.set (by simp)))
  · rw [List.getElem?_set_ne (Ne.symm n2)]; exact f1
  · rw [List.getElem?_set_ne (Ne.symm n3)]; exact f2
  · rw [List.getElem?_set_self (List.getElem?_eq_some_iff.mp f3).1]
end Law
namespace Law
open PySem PyI
local macro_rules | `(tactic| walk_at "px") => `(tactic| simp only [↓sv_var, ↓sv_int, ↓sv_bl, ↓sv_non, ↓sv_str, ↓sv_glob, ↓sv_bin, ↓sv_neg, ↓sv_cmp, ↓sv_chain, ↓sv_and, ↓sv_or, ↓sv_one, ↓sv_not, ↓sv_ite, ↓sv_tup, ↓sv_lst, ↓sv_ix, ↓sv_sl, ↓sv_call, ↓sv_blt, ↓sv_isi, ↓sv_mth, ↓sv_lc, ↓sv_turn, ↓sv_esnil, ↓sv_escons, ↓sv_no, ↓sv_yes, ↓sv_tno, ↓sv_tyes, ↓tv_and, ↓tv_or, ↓tv_one, ↓tv_not, ↓tv_cmp, ↓tv_chain, ↓tv_var, ↓tv_bl, ↓tv_ix, ↓tv_call, ↓tv_isi, ↓st_skip, ↓st_expr, ↓st_set, ↓st_unp, ↓st_setIx, ↓st_ret, ↓st_retN, ↓st_ite, ↓st_for, ↓st_while, ↓st_brk, ↓st_cont, ↓ov_add, ↓ov_sub, ↓ov_mul, ↓ov_fdiv, ↓ov_mod, ↓ov_pow, ↓ov_neg, ↓ov_addstr, ↓ov_addtup, ↓cv_lt, ↓cv_le, ↓cv_gt, ↓cv_ge, ↓cv_eq, ↓cv_ne, ↓cv_isN, ↓cv_isnN, ↓uv_bl, ↓uv_int, ↓xv_tup, ↓xv_rol, ↓xv_obj, at_0, at_1, at_2, ↓lv_obj, ↓lv_tup, ↓lv_rol, ↓bv_int, ↓bv_intb, ↓bv_abs, ↓bv_list, ↓bv_tuple, ↓bv_gcd, ↓bv_lcm, ↓pv_obj, ↓mv_append, ↓gv_nm, ↓gv_tp, ↓iv_seq, ↓iv_rng1, ↓iv_rng2, ↓iv_zip, ↓iv_enum, ↓Rt_cons, ↓Rt_nil, ↓Rt_ok, ↓Rt_run, ↓VarP_some, ↓OptP_some, ↓LstP_some, ↓Then_next, ↓Then_ret, ↓Then_brk, ↓Then_cont, ↓Then_exc, ↓Back_next, ↓Back_ret, ↓Back_exc, ↓Turn_next, ↓Turn_cont, ↓Turn_brk, ↓Turn_ret, ↓Turn_exc, ↓TurnC_none, ↓TurnC_some, ↓Br_true, ↓Br_false, PyI.isiD, PyI.isNonD, PyI.sets, PyI.wipeE, List.map_cons, List.map_nil, List.cons_append, List.nil_append, List.getElem?_cons_zero, List.getElem?_cons_succ, List.set_cons_zero, List.set_cons_succ, List.replicate, Nat.reduceSub, List.length_cons, List.length_nil, Nat.reduceAdd, Bool.not_true, Bool.not_false])
theorem sp_start {k : Nat} {ns : List Int} {S : Store} {P : D → Store → Prop} {E : Xn → Store → Prop}
    (h : ∀ (st ci ri : Nat) S', Draws st ci ri S' → P (.obj st) S') : Rt (callN fds (k + 1) 11 [.rol (ns.map D.int)] S) P E := by
  refine Rt_call (fd := ir__law_start) rfl rfl ?_
  unfold ir__law_start
  walk_at "px"
  rw [show ∀ {Q : D → Store → Prop} {E' : Xn → Store → Prop}, Rt (slD (.rol (ns.map D.int)) none (some 63) S) Q E' = Q (.obj S.length) (S ++ [.lst (cutD (ns.map D.int) none (some 63))]) from rfl]
  have hcut : ∃ ms : List Int, cutD (ns.map D.int) none (some 63) = ms.map D.int ∧ ms.length ≤ 63 := by
    unfold cutD
    rw [List.length_map, ← List.map_drop, ← List.map_take]
    refine ⟨_, rfl, ?_⟩
    rw [List.length_take]
    have : ((63 : Int)).toNat = 63 := rfl
    simp only [HT.sIx]
    rw [if_neg (by decide)]
    omega
  obtain ⟨ms, hms, hl⟩ := hcut
  rw [hms]
  generalize hS1 : S ++ [O.lst (ms.map D.int)] = S1
  have h1 : S1[S.length]? = some (.lst (ms.map D.int)) := by rw [← hS1]; exact get_new
  rw [srcOf_obj h1, OptP_some]
  refine Rt_lc (fun i acc S' => S' = S1 ∧ ∃ xs : List Nat, acc = nats xs ∧ xs.length = i) ⟨rfl, [], rfl, rfl⟩ (fun i acc S' z => by rw [z.1]; exact depsOk_of h1) ?_ ?_
  · intro i d acc S' hd ⟨e, xs, e2, e3⟩
    subst e; subst e2
    have hi : i < ms.length := by
      have := (List.getElem?_eq_some_iff.mp hd).1
      simpa using this
    rw [List.getElem?_map, List.getElem?_eq_getElem hi] at hd
    cases hd
    walk_at "px"
    rw [abs_nat]
    refine ⟨by rw [nats_len, e3]; simp only [sizeLine]; omega, trivial, xs ++ [(ms[i]).natAbs], by simp [nats], by simp [e3]⟩
  · intro acc S' ⟨e, xs, e2, e3⟩
    subst e; subst e2
    refine ⟨by decide, ?_⟩
    have py : ∀ zs : List Nat, ∀ S, Pys S 0 (nats zs) (zs.map fun z => PyData.int (z : Nat)) := fun zs S => Pys.map fun _ _ => Py.int
    have g1 : (S' ++ [O.lst (nats xs)] ++ [O.lst []])[S'.length]? = some (.lst (nats xs)) := get_old get_new
    rw [show (S' ++ [O.lst (nats xs)]).length = S'.length + 1 by simp]
    have g2 : (S' ++ [O.lst (nats xs)] ++ [O.lst []])[S'.length + 1]? = some (.lst []) := by simp
    rw [cv_eqP (Py.obj g1 (py xs _)) (Py.obj (h := 0) (ps := []) g2 trivial) (by decide) (by decide)]
    have fin : ∀ (T : Store) (c : Nat) (zs : List Nat), T[c]? = some (.lst (nats zs)) → 0 < zs.length → P (.obj (T ++ [O.lst (nats zs)]).length) (T ++ [O.lst (nats zs)] ++ [O.lst [.obj c, .obj T.length, .int 0]]) := fun T c zs hT hz => by
      have hc := (List.getElem?_eq_some_iff.mp hT).1
      have hlen : (T ++ [O.lst (nats zs)]).length = T.length + 1 := by simp
      refine h _ c T.length _ ⟨⟨0, zs, zs, get_new, get_old (get_old hT), get_old get_new, rfl, hz⟩, by omega, by omega, by omega⟩
    cases xs with
    | nil =>
      refine Br.t rfl ⟨by decide, ?_⟩
      rw [get_new, LstP_some]
      exact ⟨by decide, fin _ _ [0] get_new (by decide)⟩
    | cons x xs =>
      refine Br.f rfl ?_
      rw [bv_list, g1, LstP_some]
      exact ⟨by decide, fin _ _ (x :: xs) g1 (by simp)⟩
theorem sp_great {k : Nat} {st ci ri : Nat} {S : Store} {b : Bool} {P : D → Store → Prop} {E : Xn → Store → Prop} (hs : Draws st ci ri S)
    (h : ∀ (x : Nat) S', x < 10 ^ 40 → Draws st ci ri S' → Stays [st, ri] S S' → P (.int x) S') : Rt (callN fds (k + 2) 13 [.obj st, .bl b] S) P E := by
  refine Rt_call (fd := ir__law_great) rfl rfl ?_
  unfold ir__law_great
  walk_at "px"
  cases b with
  | false =>
    refine Br.t rfl ?_
    refine sp_draw (b := 1000) hs (by decide) (by decide) fun x S' hx d s => ?_
    exact h x S' (Nat.lt_trans hx (by decide)) d s
  | true =>
    refine Br.f rfl ?_
    refine ⟨by decide, ?_⟩
    refine Rt_for (fun i env S' => Draws st ci ri S' ∧ Stays [st, ri] S S' ∧ ∃ (x : Nat) (w : Option D), env = [some (.obj st), some (.bl true), some (.int x), w] ∧ x < 10 ^ (8 * i)) ?_ ?_ ?_ ?_
    · exact ⟨hs, Stays.refl, 0, _, rfl, by decide⟩
    · intros; rfl
    · intro i d env S' hd ⟨hs', s', x, w, e2, hx⟩
      subst e2
      have hi : i < 5 := by
        have := (List.getElem?_eq_some_iff.mp hd).1
        simpa [rngI] using this
      walk_at "px"
      have p8 : (10 : Int) ^ Int.toNat 8 = ((10 ^ 8 : Nat) : Int) := rfl
      refine ⟨by decide, ?_, by decide, ?_⟩
      · unfold mulOk
        rw [decide_eq_true (p := Int.natAbs (10 ^ Int.toNat 8) < 2 ^ 64) (by decide), Bool.or_true, Bool.true_or]
      · rw [p8]
        refine sp_draw (b := 10 ^ 8) hs' (by decide) (by decide) fun y S2 hy d2 s2 => ?_
        walk_at "px"
        refine ⟨d2, s'.trans s2, x * 10 ^ 8 + y, _, rfl, ?_⟩
        rw [show 8 * (i + 1) = 8 * i + 8 by omega, Nat.pow_add]
        have : (x + 1) * 10 ^ 8 ≤ 10 ^ (8 * i) * 10 ^ 8 := Nat.mul_le_mul_right _ hx
        omega
    · intro env S' ⟨hs', s', x, w, e2, hx⟩
      subst e2
      have : (rngI 0 (5 : Int).toNat).length = 5 := by simp [rngI]
      rw [this] at hx
      walk_at "px"
      exact h x S' hx hs' s'
theorem sp_fraction {k : Nat} {st ci ri : Nat} {S : Store} {b : Bool} {P : D → Store → Prop} {E : Xn → Store → Prop} (hs : Draws st ci ri S)
    (h : ∀ (q : Qt) S', Fr q → Sml q → Draws st ci ri S' → Stays [st, ri] S S' → P (fr q) S') : Rt (callN fds (k + 3) 17 [.obj st, .bl b] S) P E := by
  refine Rt_call (fd := ir__law_fraction) rfl rfl ?_
  unfold ir__law_fraction
  walk_at "px"
  refine sp_draw (b := 5) hs (by decide) (by decide) fun kind S1 hk d1 s1 => ?_
  walk_at "px"
  refine sp_great d1 fun n S2 hn d2 s2 => ?_
  walk_at "px"
  refine sp_great d2 fun d S3 hd d3 s3 => ?_
  walk_at "px"
  have ss := (s1.trans s2).trans s3
  have key : ∀ (v : Int), v.natAbs < 10 ^ 40 → ∀ {E' : Xn → Store → Prop} {P2 : D → Store → Prop}, (∀ g : Nat, Nat.gcd v.natAbs (1 + (d : Int)).natAbs = g → 0 < g → (g : Int).natAbs.log2 < 9000 → P2 (.int g) S3) → Rt (callN fds (k + 2) 14 [.int v, .int (1 + d)] S3) P2 E' := fun v hv E' P2 hh => by
    refine sp_gcd (by
      have : (1 + (d : Int)).natAbs = 1 + d := by omega
      rw [this]
      exact lt_up (show 1 + d < 2 ^ 133 by omega) (by decide)) ?_
    have g1 := gcd_pos (n := v) (d := 1 + (d : Int)) (by omega)
    have g2 := gcd_le (n := v) (d := 1 + (d : Int)) (by omega)
    refine hh _ rfl g1 ?_
    rw [Int.natAbs_natCast]
    have := lg (show Nat.gcd v.natAbs (1 + (d : Int)).natAbs < 2 ^ 133 by omega) (by decide)
    omega
  have fin : ∀ (v : Int), v.natAbs < 10 ^ 40 → P (fr (rat0 v (1 + d))) S3 := fun v hv => by
    have sq := rat0_sq (n := v) (d := 1 + (d : Int)) (by omega)
    have sz := sq.sizes (by omega)
    exact h _ _ sq.1 ⟨by omega, by omega⟩ d3 ss
  have go : ∀ (v : Int), v.natAbs < 10 ^ 40 → Rt (callN fds (k + 2) 14 [.int v, .int (1 + d)] S3) (fun d_1 S => Rt (binD .FloorDiv (.int v) d_1 S) (fun d_2 S => Rt (binD .FloorDiv (.int (1 + d)) d_1 S) (fun d S => Nd (2 ≤ sizeLine) (P (.tup [d_2, d]) S)) fun x S => E x S) fun x S => E x S) fun x S => E x S := fun v hv => by
    refine key v hv fun g hg g0 gl => ?_
    walk_at "px"
    refine ⟨⟨by omega, gl⟩, ⟨by omega, gl⟩, by simp [sizeLine], ?_⟩
    have := fin v hv
    unfold rat0 fr at this
    rw [hg] at this
    exact this
  refine Br.dec (fun h1 => Br.dec (fun h2 => ?_) (fun h2 => Br.dec (fun h3 => ?_) (fun h3 => ?_))) (fun h1 => Br.dec (fun h2 => ?_) (fun h2 => Br.dec (fun h3 => ?_) (fun h3 => ?_)))
  all_goals exact go _ (by omega)
end Law
namespace PyI
theorem fle_trans {a b c : Qt} (ha : 0 < a.2) (hb : 0 < b.2) (hc : 0 < c.2) (h1 : a.1 * b.2 ≤ b.1 * a.2) (h2 : b.1 * c.2 ≤ c.1 * b.2) : a.1 * c.2 ≤ c.1 * a.2 := by
  refine Int.le_of_mul_le_mul_left ?_ hb
  have k1 : b.2 * (a.1 * c.2) = a.1 * b.2 * c.2 := by grind
  have k2 : b.2 * (c.1 * a.2) = c.1 * b.2 * a.2 := by grind
  have k3 : b.1 * a.2 * c.2 = b.1 * c.2 * a.2 := by grind
  rw [k1, k2]
  refine Int.le_trans (Int.mul_le_mul_of_nonneg_right h1 (by omega)) ?_
  rw [k3]
  exact Int.mul_le_mul_of_nonneg_right h2 (by omega)
theorem Sq.add {a b c : Qt} {n d n' d' : Int} (ha : Sq a n d) (hb : Sq b n' d') (h : Sq c (a.1 * b.2 + b.1 * a.2) (a.2 * b.2)) : Sq c (n * d' + n' * d) (d * d') := by
  refine ⟨h.1, ?_⟩
  have a2 : a.2 ≠ 0 := by have := ha.1.1; omega
  have b2 : b.2 ≠ 0 := by have := hb.1.1; omega
  have e := h.2
  have f := ha.2
  have g := hb.2
  refine Int.eq_of_mul_eq_mul_left b2 (Int.eq_of_mul_eq_mul_left a2 ?_)
  have k1 : a.2 * (b.2 * (c.1 * (d * d'))) = d * d' * (c.1 * (a.2 * b.2)) := by grind
  have k2 : a.2 * (b.2 * ((n * d' + n' * d) * c.2)) = d * d' * ((a.1 * b.2 + b.1 * a.2) * c.2) := by grind
  rw [k1, k2, e]
theorem Sq.self {q : Qt} (h : Fr q) : Sq q q.1 q.2 := ⟨h, rfl⟩
/-- the sum, unreduced -/
def nd1 (p q : Qt) : Qt := (p.1 * q.2 + q.1 * p.2, p.2 * q.2)
def nd (fs : List Qt) : Qt := fs.foldl nd1 (0, 1)
def nd2 (p : Qt) (q : Qt × Qt) : Qt := (p.1 * q.1.2 * q.2.2 + q.1.1 * q.2.1 * p.2, p.2 * q.1.2 * q.2.2)
def ndz (fs : List (Qt × Qt)) : Qt := fs.foldl nd2 (0, 1)
def lcF (fs : List Qt) : Nat := fs.foldl (fun l q => Nat.lcm l q.2.natAbs) 1
theorem foldl_take {α β : Type} {f : β → α → β} {z : β} {xs : List α} {i : Nat} (h : i < xs.length) : (xs.take (i + 1)).foldl f z = f ((xs.take i).foldl f z) xs[i] := by
  rw [← List.take_append_getElem h, List.foldl_append]
  rfl
def Gd (q : Qt) : Prop := Fr q ∧ Sml q
theorem nd_ok {fs : List Qt} (h : ∀ q ∈ fs, Gd q) : ∀ i, i ≤ fs.length → (nd (fs.take i)).1.natAbs < 2 ^ (134 * i + 1) ∧ (nd (fs.take i)).2.natAbs < 2 ^ (134 * i + 1) ∧ 0 < (nd (fs.take i)).2
  | 0, _ => ⟨by simp [nd, ndz], by simp [nd, ndz], by simp [nd, ndz]⟩
  | i + 1, hi => by
    obtain ⟨h1, h2, h3⟩ := nd_ok h i (by omega)
    have hq := h fs[i] (List.getElem_mem _)
    have e : nd (fs.take (i + 1)) = nd1 (nd (fs.take i)) fs[i] := foldl_take (by omega)
    rw [e]
    unfold nd1
    refine ⟨?_, ?_, ?_⟩
    · exact lt_add (lt_mul h1 hq.2.2 (Nat.le_refl _)) (lt_mul hq.2.1 h2 (c := 134 * i + 1 + 133) (by omega)) (by omega)
    · exact lt_mul h2 hq.2.2 (by omega)
    · exact Int.mul_pos h3 (by have := hq.1.1; omega)
theorem ndz_ok {fs : List (Qt × Qt)} (h : ∀ q ∈ fs, Gd q.1 ∧ Gd q.2) : ∀ i, i ≤ fs.length → (ndz (fs.take i)).1.natAbs < 2 ^ (268 * i + 1) ∧ (ndz (fs.take i)).2.natAbs < 2 ^ (268 * i + 1) ∧ 0 < (ndz (fs.take i)).2
  | 0, _ => ⟨by simp [nd, ndz], by simp [nd, ndz], by simp [nd, ndz]⟩
  | i + 1, hi => by
    obtain ⟨h1, h2, h3⟩ := ndz_ok h i (by omega)
    have hq := h fs[i] (List.getElem_mem _)
    have e : ndz (fs.take (i + 1)) = nd2 (ndz (fs.take i)) fs[i] := foldl_take (by omega)
    rw [e]
    unfold nd2
    refine ⟨?_, ?_, ?_⟩
    · exact lt_add (lt_mul (lt_mul h1 hq.1.2.2 (Nat.le_refl _)) hq.2.2.2 (Nat.le_refl _)) (lt_mul (lt_mul hq.1.2.1 hq.2.2.1 (Nat.le_refl _)) h2 (by omega)) (by omega)
    · exact lt_mul (lt_mul h2 hq.1.2.2 (Nat.le_refl _)) hq.2.2.2 (by omega)
    · exact Int.mul_pos (Int.mul_pos h3 (by have := hq.1.1.1; omega)) (by have := hq.2.1.1; omega)
theorem lcF_ok {fs : List Qt} (h : ∀ q ∈ fs, Gd q) : ∀ i, i ≤ fs.length → lcF (fs.take i) < 2 ^ (133 * i + 1) ∧ 0 < lcF (fs.take i) ∧ ∀ j (hj : j < fs.length), j < i → fs[j].2.natAbs ∣ lcF (fs.take i)
  | 0, _ => ⟨by simp [lcF], by simp [lcF], fun j _ z => by omega⟩
  | i + 1, hi => by
    obtain ⟨h1, h2, h3⟩ := lcF_ok h i (by omega)
    have hq := h fs[i] (List.getElem_mem _)
    have e : lcF (fs.take (i + 1)) = Nat.lcm (lcF (fs.take i)) fs[i].2.natAbs := foldl_take (by omega)
    rw [e]
    have p2 : 0 < fs[i].2.natAbs := by have := hq.1.1; omega
    refine ⟨?_, Nat.lcm_pos h2 p2, fun j hj l => ?_⟩
    · have a : Nat.lcm (lcF (fs.take i)) fs[i].2.natAbs ≤ lcF (fs.take i) * fs[i].2.natAbs := Nat.le_of_dvd (Nat.mul_pos h2 p2) (Nat.lcm_dvd (Nat.dvd_mul_right _ _) (Nat.dvd_mul_left _ _))
      have b := Nat.mul_lt_mul'' h1 hq.2.2
      rw [← Nat.pow_add] at b
      rw [show 133 * (i + 1) + 1 = 133 * i + 1 + 133 by omega]
      omega
    · by_cases q : j = i
      · subst q; exact Nat.dvd_lcm_right _ _
      · exact Nat.dvd_trans (h3 j hj (by omega)) (Nat.dvd_lcm_left _ _)
theorem lcm_way (m : Nat) (r : Int) (hr : 0 < r) : ((m : Int) / (Nat.gcd m r.natAbs : Nat)) * r = (Nat.lcm m r.natAbs : Nat) := by
  have e : r = (r.natAbs : Int) := by omega
  generalize r.natAbs = n at *
  subst e
  rw [show ((m : Int) / ((Nat.gcd m n : Nat) : Int)) = ((m / Nat.gcd m n : Nat) : Int) from rfl, ← Int.natCast_mul]
  congr 1
  rw [Nat.lcm, Nat.div_mul_right_comm (Nat.gcd_dvd_left m n)]
theorem scale_way {q : Qt} {L : Nat} (hq : 0 < q.2) (h : q.2.natAbs ∣ L) : q.1 * ((L : Int) / q.2) * q.2 = q.1 * L := by
  have : q.2 ∣ (L : Int) := by
    obtain ⟨c, e⟩ := h
    refine ⟨c, ?_⟩
    rw [e, Int.natCast_mul]
    congr 1
    omega
  rw [Int.mul_assoc, Int.ediv_mul_cancel this]
end PyI
namespace Law
open PySem PyI
local macro_rules | `(tactic| walk_at "px") => `(tactic| simp only [↓sv_var, ↓sv_int, ↓sv_bl, ↓sv_non, ↓sv_str, ↓sv_glob, ↓sv_bin, ↓sv_neg, ↓sv_cmp, ↓sv_chain, ↓sv_and, ↓sv_or, ↓sv_one, ↓sv_not, ↓sv_ite, ↓sv_tup, ↓sv_lst, ↓sv_ix, ↓sv_sl, ↓sv_call, ↓sv_blt, ↓sv_isi, ↓sv_mth, ↓sv_lc, ↓sv_turn, ↓sv_esnil, ↓sv_escons, ↓sv_no, ↓sv_yes, ↓sv_tno, ↓sv_tyes, ↓tv_and, ↓tv_or, ↓tv_one, ↓tv_not, ↓tv_cmp, ↓tv_chain, ↓tv_var, ↓tv_bl, ↓tv_ix, ↓tv_call, ↓tv_isi, ↓st_skip, ↓st_expr, ↓st_set, ↓st_unp, ↓st_setIx, ↓st_ret, ↓st_retN, ↓st_ite, ↓st_for, ↓st_while, ↓st_brk, ↓st_cont, ↓ov_add, ↓ov_sub, ↓ov_mul, ↓ov_fdiv, ↓ov_mod, ↓ov_pow, ↓ov_neg, ↓ov_addstr, ↓ov_addtup, ↓cv_lt, ↓cv_le, ↓cv_gt, ↓cv_ge, ↓cv_eq, ↓cv_ne, ↓cv_isN, ↓cv_isnN, ↓uv_bl, ↓uv_int, ↓xv_tup, ↓xv_rol, ↓xv_obj, at_0, at_1, at_2, ↓lv_obj, ↓lv_tup, ↓lv_rol, ↓bv_int, ↓bv_intb, ↓bv_abs, ↓bv_list, ↓bv_tuple, ↓bv_gcd, ↓bv_lcm, ↓pv_obj, ↓mv_append, ↓gv_nm, ↓gv_tp, ↓iv_seq, ↓iv_rng1, ↓iv_rng2, ↓iv_zip, ↓iv_enum, ↓Rt_cons, ↓Rt_nil, ↓Rt_ok, ↓Rt_run, ↓VarP_some, ↓OptP_some, ↓LstP_some, ↓Then_next, ↓Then_ret, ↓Then_brk, ↓Then_cont, ↓Then_exc, ↓Back_next, ↓Back_ret, ↓Back_exc, ↓Turn_next, ↓Turn_cont, ↓Turn_brk, ↓Turn_ret, ↓Turn_exc, ↓TurnC_none, ↓TurnC_some, ↓Br_true, ↓Br_false, PyI.isiD, PyI.isNonD, PyI.sets, PyI.wipeE, List.map_cons, List.map_nil, List.cons_append, List.nil_append, List.getElem?_cons_zero, List.getElem?_cons_succ, List.set_cons_zero, List.set_cons_succ, List.replicate, Nat.reduceSub, List.length_cons, List.length_nil, Nat.reduceAdd, Bool.not_true, Bool.not_false])
theorem _root_.PyI.Gd.big {q : Qt} (h : Gd q) : q.1.natAbs < 2 ^ 3500 ∧ q.2.natAbs < 2 ^ 3500 := ⟨lt_up h.2.1 (by decide), lt_up h.2.2 (by decide)⟩
theorem _root_.PyI.Gd.ne {q : Qt} (h : Gd q) : q.2 ≠ 0 := by have := h.1.1; omega
theorem _root_.PyI.Gd.pos {q : Qt} (h : Gd q) : 0 < q.2 := by have := h.1.1; omega
theorem mulOk_gd {i j : Int} (h : i.natAbs < 2 ^ 133) (h2 : j.natAbs < 2 ^ 133) : mulOk i j = true := mulOk_bg (bg h) (bg h2)
theorem sp_isint' {k : Nat} {i : Int} {S : Store} {P : D → Store → Prop} {E : Xn → Store → Prop} (h : P (.bl true) S) : Rt (callN fds (k + 1) 15 [.int i] S) P E := sp_isint h
theorem sp_pair {k : Nat} {a b : Qt} {S : Store} {P : D → Store → Prop} {E : Xn → Store → Prop} (ha : Gd a) (hb : Gd b) (h : P (.bl true) S) : Rt (callN fds (k + 3) 18 [fr a, fr b] S) P E := by
  refine Rt_call (fd := ir__law_pair) rfl rfl ?_
  unfold ir__law_pair fr
  try walk_at "px"
  have m1 : ∀ {i j : Int}, i.natAbs < 2 ^ 133 → j.natAbs < 2 ^ 133 → (i * j).natAbs < 2 ^ 266 := fun h1 h2 => lt_mul h1 h2 (Nat.le_refl _)
  have up : ∀ {x : Nat}, x < 2 ^ 266 → x < 2 ^ 2700 := fun h => lt_up h (by decide)
  have up7 : ∀ {x : Nat}, x < 2 ^ 267 → x < 2 ^ 2700 := fun h => lt_up h (by decide)
  have k12 := mulOk_gd ha.2.1 hb.2.2
  have k21 := mulOk_gd hb.2.1 ha.2.2
  have k11 := mulOk_gd ha.2.1 hb.2.1
  have k22 := mulOk_gd ha.2.2 hb.2.2
  have k22' := mulOk_gd ha.2.2 hb.2.1
  refine sp_add (a := a) (b := b) ha.big hb.big ha.1 hb.1 fun c hc => ?_
  try walk_at "px"
  refine ⟨k12, k21, k22, sp_same hc (ne0 ha.ne hb.ne) (up7 (lt_add (m1 ha.2.1 hb.2.2) (m1 hb.2.1 ha.2.2) (Nat.le_refl _))) (up (m1 ha.2.2 hb.2.2)) ?_⟩
  try walk_at "px"
  refine sp_sub (a := a) (b := b) ha.big hb.big ha.1 hb.1 fun c hc => ?_
  try walk_at "px"
  refine ⟨k12, k21, k22, sp_same hc (ne0 ha.ne hb.ne) (up7 (lt_sub (m1 ha.2.1 hb.2.2) (m1 hb.2.1 ha.2.2) (Nat.le_refl _))) (up (m1 ha.2.2 hb.2.2)) ?_⟩
  try walk_at "px"
  refine sp_mul (a := a) (b := b) ha.big hb.big ha.1 hb.1 fun c hc => ?_
  try walk_at "px"
  refine ⟨k11, k22, sp_same hc (ne0 ha.ne hb.ne) (up (m1 ha.2.1 hb.2.1)) (up (m1 ha.2.2 hb.2.2)) ?_⟩
  try walk_at "px"
  refine Br.mk (fun hz => ?_) (fun _ => ?_)
  · have nz : b.1 ≠ 0 := by simpa using hz
    refine sp_div (a := a) (b := b) ha.big hb.big ha.1 nz fun c hc => ?_
    try walk_at "px"
    refine ⟨k12, k22', sp_same hc (ne0 ha.ne nz) (up (m1 ha.2.1 hb.2.2)) (up (m1 ha.2.2 hb.2.1)) ?_⟩
    try walk_at "px"
    refine sp_cmp (a := a) (b := b) ha.big hb.big ?_
    try walk_at "px"
    refine sp_isint ?_
    try walk_at "px"
    refine ⟨k12, k21, ?_⟩
    try walk_at "px"
    generalize a.1 * b.2 = x
    generalize b.1 * a.2 = y
    rw [decide_eq_true (by
      by_cases h1 : x < y
      · have : ¬ y < x := by omega
        simp [h1, this]
      · by_cases h2 : y < x <;> simp [h1, h2])]
    exact h
  · refine sp_cmp (a := a) (b := b) ha.big hb.big ?_
    try walk_at "px"
    refine sp_isint ?_
    try walk_at "px"
    refine ⟨k12, k21, ?_⟩
    try walk_at "px"
    generalize a.1 * b.2 = x
    generalize b.1 * a.2 = y
    rw [decide_eq_true (by
      by_cases h1 : x < y
      · have : ¬ y < x := by omega
        simp [h1, this]
      · by_cases h2 : y < x <;> simp [h1, h2])]
    exact h
/-! ### rows -/
def qs (fs : List Qt) : List D := fs.map fr
theorem qs_len {fs : List Qt} : (qs fs).length = fs.length := by simp [qs]
theorem qs_get {fs : List Qt} {i : Nat} {d : D} (h : (qs fs)[i]? = some d) : ∃ hi : i < fs.length, d = fr fs[i] := by
  have hi : i < fs.length := by simpa [qs] using (List.getElem?_eq_some_iff.mp h).1
  refine ⟨hi, ?_⟩
  unfold qs at h
  rw [List.getElem?_map, List.getElem?_eq_getElem hi] at h
  cases h
  rfl
theorem qs_at {fs : List Qt} {i : Nat} (h : i < fs.length) : L2.atI (qs fs) (i : Int) = some (fr fs[i]) := by
  refine L2.atI_nat ?_
  unfold qs
  rw [List.getElem?_map, List.getElem?_eq_getElem h]
  rfl
def Best (fs : List Qt) (i : Nat) (q : Qt) : Prop := q ∈ fs ∧ ∀ j (h : j < fs.length), j < i → fs[j].1 * q.2 ≤ q.1 * fs[j].2
def Worst (fs : List Qt) (i : Nat) (q : Qt) : Prop := q ∈ fs ∧ ∀ j (h : j < fs.length), j < i → q.1 * fs[j].2 ≤ fs[j].1 * q.2
theorem sp_greatest {k : Nat} {o : Nat} {fs : List Qt} {S : Store} {P : D → Store → Prop} {E : Xn → Store → Prop} (hS : S[o]? = some (.lst (qs fs))) (hg : ∀ q ∈ fs, Gd q) (h0 : 0 < fs.length)
    (h : ∀ q, Best fs fs.length q → P (fr q) S) : Rt (callN fds (k + 2) 8 [.obj o] S) P E := by
  refine Rt_call (fd := ir_greatest) rfl rfl ?_
  unfold ir_greatest
  walk_at "px"
  have h00 := qs_at (fs := fs) h0
  rw [show ((0 : Nat) : Int) = 0 from rfl] at h00
  simp only [hS, LstP_some, h00, OptP_some]
  try walk_at "px"
  rw [srcOf_obj hS, OptP_some]
  refine Rt_for (fun i env S' => S' = S ∧ ∃ q w, env = [some (.obj o), some (fr q), w] ∧ Best fs i q) ⟨rfl, _, _, rfl, List.getElem_mem _, fun j _ z => by omega⟩ (fun i env S' z => by rw [z.1]; exact depsOk_of hS) ?_ ?_
  · intro i d env S' hd ⟨e, q, w, e2, hb⟩
    subst e; subst e2
    obtain ⟨hi, e⟩ := qs_get hd
    subst e
    have gi := hg fs[i] (List.getElem_mem _)
    have gq := hg q hb.1
    try walk_at "px"
    refine sp_cmp gi.big gq.big ?_
    try walk_at "px"
    refine Br.dec (fun hc => ?_) (fun hc => ?_)
    · refine ⟨trivial, fs[i], _, rfl, List.getElem_mem _, fun j hj l => ?_⟩
      have h1 : q.1 * fs[i].2 ≤ fs[i].1 * q.2 := by
        split at hc
        · omega
        · split at hc <;> omega
      by_cases e : j = i
      · subst e; exact Int.le_refl _
      · exact fle_trans (hg _ (List.getElem_mem hj)).pos gq.pos gi.pos (hb.2 j hj (by omega)) h1
    · refine ⟨trivial, q, _, rfl, hb.1, fun j hj l => ?_⟩
      by_cases e : j = i
      · subst e
        split at hc
        · omega
        · split at hc <;> omega
      · exact hb.2 j hj (by omega)
  · intro env S' ⟨e, q, w, e2, hb⟩
    subst e; subst e2
    try walk_at "px"
    rw [show (qs fs).length = fs.length from qs_len] at hb
    exact h q hb
theorem sp_least {k : Nat} {o : Nat} {fs : List Qt} {S : Store} {P : D → Store → Prop} {E : Xn → Store → Prop} (hS : S[o]? = some (.lst (qs fs))) (hg : ∀ q ∈ fs, Gd q) (h0 : 0 < fs.length)
    (h : ∀ q, Worst fs fs.length q → P (fr q) S) : Rt (callN fds (k + 2) 9 [.obj o] S) P E := by
  refine Rt_call (fd := ir_least) rfl rfl ?_
  unfold ir_least
  walk_at "px"
  have h00 := qs_at (fs := fs) h0
  rw [show ((0 : Nat) : Int) = 0 from rfl] at h00
  simp only [hS, LstP_some, h00, OptP_some]
  try walk_at "px"
  rw [srcOf_obj hS, OptP_some]
  refine Rt_for (fun i env S' => S' = S ∧ ∃ q w, env = [some (.obj o), some (fr q), w] ∧ Worst fs i q) ⟨rfl, _, _, rfl, List.getElem_mem _, fun j _ z => by omega⟩ (fun i env S' z => by rw [z.1]; exact depsOk_of hS) ?_ ?_
  · intro i d env S' hd ⟨e, q, w, e2, hb⟩
    subst e; subst e2
    obtain ⟨hi, e⟩ := qs_get hd
    subst e
    have gi := hg fs[i] (List.getElem_mem _)
    have gq := hg q hb.1
    try walk_at "px"
    refine sp_cmp gi.big gq.big ?_
    try walk_at "px"
    refine Br.dec (fun hc => ?_) (fun hc => ?_)
    · refine ⟨trivial, fs[i], _, rfl, List.getElem_mem _, fun j hj l => ?_⟩
      have h1 : fs[i].1 * q.2 ≤ q.1 * fs[i].2 := by
        split at hc
        · omega
        · split at hc <;> omega
      by_cases e : j = i
      · subst e; exact Int.le_refl _
      · exact fle_trans gi.pos gq.pos (hg _ (List.getElem_mem hj)).pos h1 (hb.2 j hj (by omega))
    · refine ⟨trivial, q, _, rfl, hb.1, fun j hj l => ?_⟩
      by_cases e : j = i
      · subst e
        split at hc
        · omega
        · omega
      · exact hb.2 j hj (by omega)
  · intro env S' ⟨e, q, w, e2, hb⟩
    subst e; subst e2
    try walk_at "px"
    rw [show (qs fs).length = fs.length from qs_len] at hb
    exact h q hb
end Law
namespace Law
open PySem PyI
local macro_rules | `(tactic| walk_at "px") => `(tactic| simp only [↓sv_var, ↓sv_int, ↓sv_bl, ↓sv_non, ↓sv_str, ↓sv_glob, ↓sv_bin, ↓sv_neg, ↓sv_cmp, ↓sv_chain, ↓sv_and, ↓sv_or, ↓sv_one, ↓sv_not, ↓sv_ite, ↓sv_tup, ↓sv_lst, ↓sv_ix, ↓sv_sl, ↓sv_call, ↓sv_blt, ↓sv_isi, ↓sv_mth, ↓sv_lc, ↓sv_turn, ↓sv_esnil, ↓sv_escons, ↓sv_no, ↓sv_yes, ↓sv_tno, ↓sv_tyes, ↓tv_and, ↓tv_or, ↓tv_one, ↓tv_not, ↓tv_cmp, ↓tv_chain, ↓tv_var, ↓tv_bl, ↓tv_ix, ↓tv_call, ↓tv_isi, ↓st_skip, ↓st_expr, ↓st_set, ↓st_unp, ↓st_setIx, ↓st_ret, ↓st_retN, ↓st_ite, ↓st_for, ↓st_while, ↓st_brk, ↓st_cont, ↓ov_add, ↓ov_sub, ↓ov_mul, ↓ov_fdiv, ↓ov_mod, ↓ov_pow, ↓ov_neg, ↓ov_addstr, ↓ov_addtup, ↓cv_lt, ↓cv_le, ↓cv_gt, ↓cv_ge, ↓cv_eq, ↓cv_ne, ↓cv_isN, ↓cv_isnN, ↓uv_bl, ↓uv_int, ↓xv_tup, ↓xv_rol, ↓xv_obj, at_0, at_1, at_2, ↓lv_obj, ↓lv_tup, ↓lv_rol, ↓bv_int, ↓bv_intb, ↓bv_abs, ↓bv_list, ↓bv_tuple, ↓bv_gcd, ↓bv_lcm, ↓pv_obj, ↓mv_append, ↓gv_nm, ↓gv_tp, ↓iv_seq, ↓iv_rng1, ↓iv_rng2, ↓iv_zip, ↓iv_enum, ↓Rt_cons, ↓Rt_nil, ↓Rt_ok, ↓Rt_run, ↓VarP_some, ↓OptP_some, ↓LstP_some, ↓Then_next, ↓Then_ret, ↓Then_brk, ↓Then_cont, ↓Then_exc, ↓Back_next, ↓Back_ret, ↓Back_exc, ↓Turn_next, ↓Turn_cont, ↓Turn_brk, ↓Turn_ret, ↓Turn_exc, ↓TurnC_none, ↓TurnC_some, ↓Br_true, ↓Br_false, PyI.isiD, PyI.isNonD, PyI.sets, PyI.wipeE, List.map_cons, List.map_nil, List.cons_append, List.nil_append, List.getElem?_cons_zero, List.getElem?_cons_succ, List.set_cons_zero, List.set_cons_succ, List.replicate, Nat.reduceSub, List.length_cons, List.length_nil, Nat.reduceAdd, Bool.not_true, Bool.not_false])
def qp (q : Qt) : PyData := .tuple [.int q.1, .int q.2]
theorem py_fr {S : Store} {q : Qt} : Py S 1 (fr q) (qp q) := Py.tup ⟨Py.int, Py.int, trivial⟩
theorem pys_qs {S : Store} {fs : List Qt} : Pys S 1 (qs fs) (fs.map qp) := Pys.map fun _ _ => py_fr
theorem any_qp {fs : List Qt} {q : Qt} (h : q ∈ fs) : ((fs.map qp).any fun z => PyData.eqv z (qp q)) = true := by
  rw [List.any_eq_true]
  exact ⟨qp q, List.mem_map_of_mem h, by simp [qp, PyData.eqv, PyData.eqvAll]⟩
theorem sp_ends {k : Nat} {o : Nat} {fs : List Qt} {S : Store} {P : D → Store → Prop} {E : Xn → Store → Prop} (hS : S[o]? = some (.lst (qs fs))) (hg : ∀ q ∈ fs, Gd q) (h0 : 0 < fs.length)
    (h : ∀ S', Stays [] S S' → P (.bl true) S') : Rt (callN fds (k + 3) 19 [.obj o] S) P E := by
  refine Rt_call (fd := ir__law_ends) rfl rfl ?_
  unfold ir__law_ends
  walk_at "px"
  rw [hS, LstP_some]
  refine sp_greatest get_new hg h0 fun hi bh => ?_
  try walk_at "px"
  rw [get_old hS, LstP_some]
  refine sp_least get_new hg h0 fun lo bl => ?_
  try walk_at "px"
  have gh := hg hi bh.1
  have gl := hg lo bl.1
  generalize hS1 : S ++ [O.lst (qs fs)] ++ [O.lst (qs fs)] = S1
  have s1 : Stays [] S S1 := by rw [← hS1]; exact Stays.add.trans Stays.add
  have hS2 : S1[o]? = some (.lst (qs fs)) := s1.get hS (by simp)
  rw [cv_niP py_fr hS2 pys_qs (by decide) (by decide), any_qp bh.1]
  refine Br.f rfl ?_
  try walk_at "px"
  rw [cv_niP py_fr hS2 pys_qs (by decide) (by decide), any_qp bl.1]
  refine Br.f rfl ?_
  try walk_at "px"
  rw [srcOf_obj hS2, OptP_some]
  refine Rt_for (fun i env S' => S' = S1 ∧ ∃ w, env = [some (.obj o), some (fr hi), some (fr lo), w]) ⟨rfl, _, rfl⟩ (fun i env S' z => by rw [z.1]; exact depsOk_of hS2) ?_ ?_
  · intro i d env S' hd ⟨e, w, e2⟩
    subst e; subst e2
    obtain ⟨hl, e⟩ := qs_get hd
    subst e
    have gi := hg fs[i] (List.getElem_mem _)
    unfold fr
    walk_at "px"
    refine ⟨mulOk_gd gi.2.1 gh.2.2, mulOk_gd gh.2.1 gi.2.2, Br.f (decide_eq_false ?_) ⟨mulOk_gd gi.2.1 gl.2.2, mulOk_gd gl.2.1 gi.2.2, Br.f (decide_eq_false ?_) ⟨trivial, _, rfl⟩⟩⟩
    · have := bh.2 i hl hl; omega
    · have := bl.2 i hl hl; omega
  · intro env S' ⟨e, w, e2⟩
    subst e; subst e2
    unfold fr
    walk_at "px"
    have up : ∀ {x : Nat}, x < 2 ^ 133 → x < 2 ^ 2700 := fun h => lt_up h (by decide)
    refine sp_same (c := hi) (Sq.self gh.1) gh.ne (up gh.2.1) (up gh.2.2) ?_
    refine Br.t rfl ?_
    try walk_at "px"
    refine sp_same (c := lo) (Sq.self gl.1) gl.ne (up gl.2.1) (up gl.2.2) ?_
    exact h _ s1
/-! ### scaled -/
def scs (fs : List Qt) (L : Nat) : List D := fs.map fun q => .int (q.1 * ((L : Int) / q.2))
theorem lcF_lg {fs : List Qt} (hg : ∀ q ∈ fs, Gd q) (h8 : fs.length ≤ 8) {i : Nat} (hi : i ≤ fs.length) : lcF (fs.take i) < 2 ^ 1100 :=
  lt_up (lcF_ok hg i hi).1 (by omega)
theorem lcF_bg {fs : List Qt} (hg : ∀ q ∈ fs, Gd q) (h8 : fs.length ≤ 8) {i : Nat} (hi : i ≤ fs.length) : (lcF (fs.take i) : Int).natAbs < 2 ^ 1100 := by
  rw [Int.natAbs_natCast]; exact lcF_lg hg h8 hi
theorem sp_scaled {k : Nat} {o : Nat} {fs : List Qt} {S : Store} {P : D → Store → Prop} {E : Xn → Store → Prop} (hS : S[o]? = some (.lst (qs fs))) (hg : ∀ q ∈ fs, Gd q) (h8 : fs.length ≤ 8)
    (h : P (.tup [.obj S.length, .int (lcF fs)]) (S ++ [.lst (scs fs (lcF fs))])) : Rt (callN fds (k + 1) 10 [.obj o] S) P E := by
  refine Rt_call (fd := ir_scaled) rfl rfl ?_
  unfold ir_scaled
  walk_at "px"
  rw [srcOf_obj hS, OptP_some]
  refine Rt_for (fun i env S' => S' = S ∧ ∃ w, env = [some (.obj o), some (.int (lcF (fs.take i))), w]) ⟨rfl, _, rfl⟩ (fun i env S' z => by rw [z.1]; exact depsOk_of hS) ?_ ?_
  · intro i d env S' hd ⟨e, w, e2⟩
    subst e; subst e2
    obtain ⟨hl, e⟩ := qs_get hd
    subst e
    have gi := hg fs[i] (List.getElem_mem _)
    unfold fr
    walk_at "px"
    refine ⟨⟨Nat.le_of_lt (Nat.lt_of_lt_of_le (lg (lcF_bg hg h8 (by omega)) (by decide)) (by decide)), Nat.le_of_lt (Nat.lt_of_lt_of_le (lg gi.2.2 (by decide)) (by decide))⟩, trivial, some (fr fs[i]), ?_⟩
    rw [show lcF (fs.take (i + 1)) = Nat.lcm (lcF (fs.take i)) fs[i].2.natAbs from foldl_take hl, Int.natAbs_natCast]
    rfl
  · intro env S' ⟨e, w, e2⟩
    subst e; subst e2
    rw [show (qs fs).length = fs.length from qs_len, List.take_length]
    have bgL := lcF_bg hg h8 (Nat.le_refl fs.length)
    rw [List.take_length] at bgL
    walk_at "px"
    rw [srcOf_obj hS, OptP_some]
    refine Rt_lc (fun i acc S'' => S'' = S' ∧ acc = scs (fs.take i) (lcF fs)) ⟨rfl, rfl⟩ (fun i acc S' z => by rw [z.1]; exact depsOk_of hS) ?_ ?_
    · intro i d acc S'' hd ⟨e, e2⟩
      subst e; subst e2
      obtain ⟨hl, e⟩ := qs_get hd
      subst e
      have gi := hg fs[i] (List.getElem_mem _)
      unfold fr
      walk_at "px"
      refine ⟨⟨gi.pos, Nat.lt_of_lt_of_le (lg gi.2.2 (by decide)) (by decide)⟩, ?_, ?_, trivial, ?_⟩
      · refine mulOk_bg (bg gi.2.1) (bg (a := 1100) ?_)
        rw [Int.natAbs_ediv_of_nonneg (by omega)]
        exact Nat.lt_of_le_of_lt (Nat.div_le_self _ _) bgL
      · simp only [scs, List.length_map, List.length_take, sizeLine]; omega
      · unfold scs
        rw [← List.take_append_getElem hl, List.map_append]
        rfl
    · intro acc S'' ⟨e, e2⟩
      subst e; subst e2
      rw [show (qs fs).length = fs.length from qs_len, List.take_length]
      refine ⟨by simp [sizeLine], h⟩
theorem rng_get {n i : Nat} {d : D} (h : (rngI 0 (n : Int).toNat)[i]? = some d) : i < n ∧ d = .int (i : Nat) := by
  unfold rngI at h
  rw [List.getElem?_map, Int.toNat_natCast] at h
  have hi : i < n := by
    cases e : (List.range n)[i]? with
    | none => rw [e] at h; cases h
    | some x => simpa using (List.getElem?_eq_some_iff.mp e).1
  rw [List.getElem?_range hi] at h
  cases h
  exact ⟨hi, by show D.int (0 + (i : Int)) = _; rw [Int.zero_add]⟩
theorem rng_len {n : Nat} : (rngI 0 (n : Int).toNat).length = n := by simp [rngI]
theorem sp_lawscaled {k : Nat} {o : Nat} {fs : List Qt} {S : Store} {P : D → Store → Prop} {E : Xn → Store → Prop} (hS : S[o]? = some (.lst (qs fs))) (hg : ∀ q ∈ fs, Gd q) (h8 : fs.length ≤ 8)
    (h : ∀ S', Stays [] S S' → P (.bl true) S') : Rt (callN fds (k + 2) 20 [.obj o] S) P E := by
  refine Rt_call (fd := ir__law_scaled) rfl rfl ?_
  unfold ir__law_scaled
  walk_at "px"
  refine sp_scaled hS hg h8 ?_
  have s1 : Stays [] S (S ++ [O.lst (scs fs (lcF fs))]) := Stays.add
  have hn : (S ++ [O.lst (scs fs (lcF fs))])[S.length]? = some (.lst (scs fs (lcF fs))) := get_new
  have hS2 : (S ++ [O.lst (scs fs (lcF fs))])[o]? = some (.lst (qs fs)) := get_old hS
  have hlen : (scs fs (lcF fs)).length = fs.length := by simp [scs]
  generalize S ++ [O.lst (scs fs (lcF fs))] = S1 at *
  generalize S.length = n at *
  try walk_at "px"
  refine Br.f rfl ?_
  try walk_at "px"
  refine Br.f rfl ?_
  try walk_at "px"
  rw [hn]
  try walk_at "px"
  refine Br.f rfl ?_
  try walk_at "px"
  rw [hS2, LstP_some, hlen, qs_len]
  refine Br.f (by simp) (sp_isint ?_)
  try walk_at "px"
  rw [srcOf_obj hS2, OptP_some]
  have bgL := lcF_bg hg h8 (Nat.le_refl fs.length)
  rw [List.take_length] at bgL
  refine Rt_for (fun i env S' => S' = S1 ∧ ∃ w, env = [some (.obj o), some (.tup [.obj n, .int (lcF fs)]), some (.int (lcF (fs.take i))), w, none]) ⟨rfl, _, rfl⟩ (fun i env S' z => by rw [z.1]; exact depsOk_of hS2) ?_ ?_
  · intro i d env S' hd ⟨e, w, e2⟩
    subst e; subst e2
    obtain ⟨hl, e⟩ := qs_get hd
    subst e
    have gi := hg fs[i] (List.getElem_mem _)
    obtain ⟨l1, l2, l3⟩ := lcF_ok hg i (by omega)
    unfold fr
    walk_at "px"
    refine sp_gcd (lt_up gi.2.2 (by decide)) ?_
    have gl : Nat.gcd (lcF (fs.take i)) fs[i].2.natAbs ≤ fs[i].2.natAbs := Nat.le_of_dvd (by have := gi.pos; omega) (Nat.gcd_dvd_right _ _)
    have g0 : 0 < Nat.gcd (lcF (fs.take i)) fs[i].2.natAbs := Nat.gcd_pos_of_pos_left _ l2
    rw [Int.natAbs_natCast]
    try walk_at "px"
    refine ⟨⟨by omega, ?_⟩, ?_, trivial, some (fr fs[i]), ?_⟩
    · rw [Int.natAbs_natCast]
      exact Nat.lt_of_lt_of_le (lg (Nat.lt_of_le_of_lt gl gi.2.2) (by decide)) (by decide)
    · refine mulOk_bg (bg (a := 1100) ?_) (bg gi.2.2)
      rw [Int.natAbs_ediv_of_nonneg (by omega)]
      exact Nat.lt_of_le_of_lt (Nat.div_le_self _ _) (lcF_bg hg h8 (by omega))
    · rw [show lcF (fs.take (i + 1)) = Nat.lcm (lcF (fs.take i)) fs[i].2.natAbs from foldl_take hl, lcm_way _ _ gi.pos]
      rfl
  · intro env S' ⟨e, w, e2⟩
    subst e; subst e2
    rw [show (qs fs).length = fs.length from qs_len, List.take_length]
    walk_at "px"
    refine Br.f (by simp) ?_
    rw [hS2, LstP_some, qs_len]
    refine ⟨by omega, ?_⟩
    have ati : ∀ {i : Nat} (hi : i < fs.length), L2.atI (scs fs (lcF fs)) (i : Int) = some (.int (fs[i].1 * ((lcF fs : Int) / fs[i].2))) := fun {i} hi => by
      refine L2.atI_nat ?_
      unfold scs
      rw [List.getElem?_map, List.getElem?_eq_getElem hi]
      rfl
    refine Rt_for (fun i env S'' => S'' = S' ∧ ∃ w x, env = [some (.obj o), some (.tup [.obj n, .int (lcF fs)]), some (.int (lcF fs)), w, x]) ⟨rfl, _, _, rfl⟩ (fun _ _ _ _ => rfl) ?_ ?_
    · intro i d env S'' hd ⟨e, w, x, e2⟩
      subst e; subst e2
      obtain ⟨hi, e⟩ := rng_get hd
      subst e
      have gi := hg fs[i] (List.getElem_mem _)
      walk_at "px"
      rw [hn, LstP_some, ati hi, OptP_some]
      refine sp_isint ?_
      try walk_at "px"
      rw [hn, LstP_some, ati hi, OptP_some, hS2, LstP_some, qs_at hi, OptP_some]
      unfold fr
      try walk_at "px"
      refine ⟨mulOk_bg (bg (lt_mul gi.2.1 (?_ : _ < 2 ^ 1100) (Nat.le_refl _))) (bg gi.2.2), ?_⟩
      · rw [Int.natAbs_ediv_of_nonneg (by omega)]
        exact Nat.lt_of_le_of_lt (Nat.div_le_self _ _) bgL
      rw [hS2, LstP_some, qs_at hi, OptP_some]
      unfold fr
      try walk_at "px"
      refine ⟨mulOk_bg (bg gi.2.1) (bg bgL), Br.f ?_ ⟨trivial, _, _, rfl⟩⟩
      have dv := (lcF_ok hg fs.length (Nat.le_refl _)).2.2 i hi hi
      rw [List.take_length] at dv
      rw [scale_way gi.pos dv]
      simp
    · intro env S'' ⟨e, w, x, e2⟩
      subst e; subst e2
      try walk_at "px"
      exact h _ s1
end Law
namespace Law
open PySem PyI
local macro_rules | `(tactic| walk_at "px") => `(tactic| simp only [↓sv_var, ↓sv_int, ↓sv_bl, ↓sv_non, ↓sv_str, ↓sv_glob, ↓sv_bin, ↓sv_neg, ↓sv_cmp, ↓sv_chain, ↓sv_and, ↓sv_or, ↓sv_one, ↓sv_not, ↓sv_ite, ↓sv_tup, ↓sv_lst, ↓sv_ix, ↓sv_sl, ↓sv_call, ↓sv_blt, ↓sv_isi, ↓sv_mth, ↓sv_lc, ↓sv_turn, ↓sv_esnil, ↓sv_escons, ↓sv_no, ↓sv_yes, ↓sv_tno, ↓sv_tyes, ↓tv_and, ↓tv_or, ↓tv_one, ↓tv_not, ↓tv_cmp, ↓tv_chain, ↓tv_var, ↓tv_bl, ↓tv_ix, ↓tv_call, ↓tv_isi, ↓st_skip, ↓st_expr, ↓st_set, ↓st_unp, ↓st_setIx, ↓st_ret, ↓st_retN, ↓st_ite, ↓st_for, ↓st_while, ↓st_brk, ↓st_cont, ↓ov_add, ↓ov_sub, ↓ov_mul, ↓ov_fdiv, ↓ov_mod, ↓ov_pow, ↓ov_neg, ↓ov_addstr, ↓ov_addtup, ↓cv_lt, ↓cv_le, ↓cv_gt, ↓cv_ge, ↓cv_eq, ↓cv_ne, ↓cv_isN, ↓cv_isnN, ↓uv_bl, ↓uv_int, ↓xv_tup, ↓xv_rol, ↓xv_obj, at_0, at_1, at_2, ↓lv_obj, ↓lv_tup, ↓lv_rol, ↓bv_int, ↓bv_intb, ↓bv_abs, ↓bv_list, ↓bv_tuple, ↓bv_gcd, ↓bv_lcm, ↓pv_obj, ↓mv_append, ↓gv_nm, ↓gv_tp, ↓iv_seq, ↓iv_rng1, ↓iv_rng2, ↓iv_zip, ↓iv_enum, ↓Rt_cons, ↓Rt_nil, ↓Rt_ok, ↓Rt_run, ↓VarP_some, ↓OptP_some, ↓LstP_some, ↓Then_next, ↓Then_ret, ↓Then_brk, ↓Then_cont, ↓Then_exc, ↓Back_next, ↓Back_ret, ↓Back_exc, ↓Turn_next, ↓Turn_cont, ↓Turn_brk, ↓Turn_ret, ↓Turn_exc, ↓TurnC_none, ↓TurnC_some, ↓Br_true, ↓Br_false, PyI.isiD, PyI.isNonD, PyI.sets, PyI.wipeE, List.map_cons, List.map_nil, List.cons_append, List.nil_append, List.getElem?_cons_zero, List.getElem?_cons_succ, List.set_cons_zero, List.set_cons_succ, List.replicate, Nat.reduceSub, List.length_cons, List.length_nil, Nat.reduceAdd, Bool.not_true, Bool.not_false])
theorem sp_total {k : Nat} {o : Nat} {fs : List Qt} {S : Store} {P : D → Store → Prop} {E : Xn → Store → Prop} (hS : S[o]? = some (.lst (qs fs))) (hg : ∀ q ∈ fs, Gd q) (h8 : fs.length ≤ 8)
    (h : ∀ c, Sq c (nd fs).1 (nd fs).2 → P (fr c) S) : Rt (callN fds (k + 3) 6 [.obj o] S) P E := by
  refine Rt_call (fd := ir_total) rfl rfl ?_
  unfold ir_total
  walk_at "px"
  rw [srcOf_obj hS, OptP_some]
  refine Rt_for (fun i env S' => S' = S ∧ ∃ c w, env = [some (.obj o), some (fr c), w] ∧ Sq c (nd (fs.take i)).1 (nd (fs.take i)).2) ⟨rfl, (0, 1), _, rfl, ⟨⟨by decide, by decide⟩, by simp [nd]⟩⟩ (fun i env S' z => by rw [z.1]; exact depsOk_of hS) ?_ ?_
  · intro i d env S' hd ⟨e, c, w, e2, hc⟩
    subst e; subst e2
    obtain ⟨hl, e⟩ := qs_get hd
    subst e
    have gi := hg fs[i] (List.getElem_mem _)
    obtain ⟨z1, z2, z3⟩ := nd_ok hg i (by omega)
    obtain ⟨y1, y2⟩ := hc.sizes (by omega)
    walk_at "px"
    refine sp_add ⟨lt_up (Nat.lt_of_le_of_lt y1 z1) (by omega), lt_up (Nat.lt_of_le_of_lt y2 z2) (by omega)⟩ gi.big hc.1 gi.1 fun c2 hc2 => ?_
    refine ⟨rfl, c2, some (fr fs[i]), rfl, ?_⟩
    rw [show nd (fs.take (i + 1)) = nd1 (nd (fs.take i)) fs[i] from foldl_take hl]
    exact Sq.add hc (Sq.self gi.1) hc2
  · intro env S' ⟨e, c, w, e2, hc⟩
    subst e; subst e2
    rw [show (qs fs).length = fs.length from qs_len, List.take_length] at hc
    try walk_at "px"
    exact h c hc
theorem zip_get {fs gs : List Qt} {i : Nat} {d : D} (h : (List.zipWith (fun x y => D.tup [x, y]) (qs fs) (qs gs))[i]? = some d) : ∃ (hi : i < fs.length) (hj : i < gs.length), d = .tup [fr fs[i], fr gs[i]] := by
  have := (List.getElem?_eq_some_iff.mp h).1
  rw [List.length_zipWith, qs_len, qs_len] at this
  refine ⟨by omega, by omega, ?_⟩
  rw [List.getElem?_zipWith] at h
  unfold qs at h
  rw [List.getElem?_map, List.getElem?_map, List.getElem?_eq_getElem (by omega), List.getElem?_eq_getElem (by omega)] at h
  cases h
  rfl
theorem zp_at {fs gs : List Qt} {i : Nat} (h : i < (fs.zip gs).length) (h1 : i < fs.length) (h2 : i < gs.length) : (fs.zip gs)[i] = (fs[i], gs[i]) := List.getElem_zip
theorem sp_dot {k : Nat} {o p : Nat} {fs gs : List Qt} {S : Store} {P : D → Store → Prop} {E : Xn → Store → Prop} (hS : S[o]? = some (.lst (qs fs))) (hT : S[p]? = some (.lst (qs gs))) (hg : ∀ q ∈ fs, Gd q) (hh : ∀ q ∈ gs, Gd q) (h8 : fs.length ≤ 8) (hl : gs.length = fs.length)
    (h : ∀ c, Sq c (ndz (fs.zip gs)).1 (ndz (fs.zip gs)).2 → P (fr c) S) : Rt (callN fds (k + 3) 7 [.obj o, .obj p] S) P E := by
  refine Rt_call (fd := ir_dot) rfl rfl ?_
  unfold ir_dot
  walk_at "px"
  have hz : (fs.zip gs).length = fs.length := by rw [List.length_zip]; omega
  have hgz : ∀ q ∈ fs.zip gs, Gd q.1 ∧ Gd q.2 := fun q hq => ⟨hg _ (List.of_mem_zip hq).1, hh _ (List.of_mem_zip hq).2⟩
  rw [srcL_obj hS, OptP_some, srcL_obj hT, OptP_some]
  refine Rt_for (fun i env S' => S' = S ∧ ∃ c w x, env = [some (.obj o), some (.obj p), some (fr c), w, x] ∧ Sq c (ndz ((fs.zip gs).take i)).1 (ndz ((fs.zip gs).take i)).2) ⟨rfl, (0, 1), _, _, rfl, ⟨⟨by decide, by decide⟩, by simp [ndz]⟩⟩ (fun i env S' z => by rw [z.1]; exact depsOk_two hS hT) ?_ ?_
  · intro i d env S' hd ⟨e, c, w, x, e2, hc⟩
    subst e; subst e2
    obtain ⟨hi, hj, e⟩ := zip_get hd
    subst e
    have gi := hg fs[i] (List.getElem_mem _)
    have gj := hh gs[i] (List.getElem_mem _)
    obtain ⟨z1, z2, z3⟩ := ndz_ok hgz i (by omega)
    obtain ⟨y1, y2⟩ := hc.sizes (by omega)
    walk_at "px"
    refine ⟨trivial, ?_⟩
    try walk_at "px"
    refine sp_mul gi.big gj.big gi.1 gj.1 fun m hm => ?_
    try walk_at "px"
    obtain ⟨m1, m2⟩ := hm.sizes (ne0 gi.ne gj.ne)
    refine sp_add ⟨lt_up (Nat.lt_of_le_of_lt y1 z1) (by omega), lt_up (Nat.lt_of_le_of_lt y2 z2) (by omega)⟩ ⟨lt_up (Nat.lt_of_le_of_lt m1 (lt_mul gi.2.1 gj.2.1 (Nat.le_refl _))) (by decide), lt_up (Nat.lt_of_le_of_lt m2 (lt_mul gi.2.2 gj.2.2 (Nat.le_refl _))) (by decide)⟩ hc.1 hm.1 fun c2 hc2 => ?_
    refine ⟨rfl, c2, some (fr fs[i]), some (fr gs[i]), rfl, ?_⟩
    rw [show ndz ((fs.zip gs).take (i + 1)) = nd2 (ndz ((fs.zip gs).take i)) (fs.zip gs)[i] from foldl_take (by omega), zp_at (by omega) hi hj]
    have := Sq.add hc hm hc2
    unfold nd2
    rw [Int.mul_assoc, Int.mul_assoc (ndz ((fs.zip gs).take i)).2]
    exact this
  · intro env S' ⟨e, c, w, x, e2, hc⟩
    subst e; subst e2
    rw [show (List.zipWith (fun x y => D.tup [x, y]) (qs fs) (qs gs)).length = (fs.zip gs).length by rw [List.length_zipWith, qs_len, qs_len, List.length_zip], List.take_length] at hc
    try walk_at "px"
    exact h c hc
theorem sp_sums {k : Nat} {o p : Nat} {fs gs : List Qt} {S : Store} {P : D → Store → Prop} {E : Xn → Store → Prop} (hS : S[o]? = some (.lst (qs fs))) (hT : S[p]? = some (.lst (qs gs))) (hg : ∀ q ∈ fs, Gd q) (hh : ∀ q ∈ gs, Gd q) (h8 : fs.length ≤ 8) (hl : gs.length = fs.length)
    (h : P (.bl true) S) : Rt (callN fds (k + 4) 21 [.obj o, .obj p] S) P E := by
  refine Rt_call (fd := ir__law_sums) rfl rfl ?_
  unfold ir__law_sums
  walk_at "px"
  have hz : (fs.zip gs).length = fs.length := by rw [List.length_zip]; omega
  have hgz : ∀ q ∈ fs.zip gs, Gd q.1 ∧ Gd q.2 := fun q hq => ⟨hg _ (List.of_mem_zip hq).1, hh _ (List.of_mem_zip hq).2⟩
  rw [srcOf_obj hS, OptP_some]
  refine Rt_for (fun i env S' => S' = S ∧ ∃ w, env = [some (.obj o), some (.obj p), some (.int (nd (fs.take i)).1), some (.int (nd (fs.take i)).2), w, none]) ⟨rfl, _, rfl⟩ (fun i env S' z => by rw [z.1]; exact depsOk_of hS) ?_ ?_
  · intro i d env S' hd ⟨e, w, e2⟩
    subst e; subst e2
    obtain ⟨hi, e⟩ := qs_get hd
    subst e
    have gi := hg fs[i] (List.getElem_mem _)
    obtain ⟨z1, z2, z3⟩ := nd_ok hg i (by omega)
    unfold fr
    walk_at "px"
    refine ⟨mulOk_bg (bg z1 (by omega)) (bg gi.2.2), mulOk_bg (bg gi.2.1) (bg z2 (by omega)), mulOk_bg (bg z2 (by omega)) (bg gi.2.2), trivial, some (fr fs[i]), ?_⟩
    rw [show nd (fs.take (i + 1)) = nd1 (nd (fs.take i)) fs[i] from foldl_take hi]
    rfl
  · intro env S' ⟨e, w, e2⟩
    subst e; subst e2
    rw [show (qs fs).length = fs.length from qs_len, List.take_length]
    obtain ⟨z1, z2, z3⟩ := nd_ok hg fs.length (Nat.le_refl _)
    rw [List.take_length] at z1 z2 z3
    walk_at "px"
    refine sp_total hS hg h8 fun c hc => ?_
    refine sp_same hc (by omega) (lt_up z1 (by omega)) (lt_up z2 (by omega)) ?_
    try walk_at "px"
    rw [hS, LstP_some, qs_len]
    refine ⟨by omega, ?_⟩
    refine Rt_for (fun i env S'' => S'' = S' ∧ ∃ w x, env = [some (.obj o), some (.obj p), some (.int (ndz ((fs.zip gs).take i)).1), some (.int (ndz ((fs.zip gs).take i)).2), w, x]) ⟨rfl, _, _, rfl⟩ (fun _ _ _ _ => rfl) ?_ ?_
    · intro i d env S'' hd ⟨e, w, x, e2⟩
      subst e; subst e2
      obtain ⟨hi, e⟩ := rng_get hd
      subst e
      have hj : i < gs.length := by omega
      have gi := hg fs[i] (List.getElem_mem _)
      have gj := hh gs[i] (List.getElem_mem _)
      obtain ⟨z1, z2, z3⟩ := ndz_ok hgz i (by omega)
      have q1 := qs_at hi
      have q2 := qs_at hj
      unfold fr at q1 q2
      have a1 := mulOk_bg (bg z1 (by omega)) (bg gi.2.2)
      have a2 := mulOk_bg (bg (lt_mul z1 gi.2.2 (Nat.le_refl _)) (by omega)) (bg gj.2.2)
      have a3 := mulOk_bg (bg gi.2.1) (bg gj.2.1)
      have a4 := mulOk_bg (bg (lt_mul gi.2.1 gj.2.1 (Nat.le_refl _))) (bg z2 (by omega))
      have a5 := mulOk_bg (bg z2 (by omega)) (bg gi.2.2)
      have a6 := mulOk_bg (bg (lt_mul z2 gi.2.2 (Nat.le_refl _)) (by omega)) (bg gj.2.2)
      walk_at "px"
      repeat (first
        | (rw [hS, LstP_some, q1, OptP_some]; try walk_at "px")
        | (rw [hT, LstP_some, q2, OptP_some]; try walk_at "px")
        | (refine Nd.mk (by first | exact a1 | exact a2 | exact a3 | exact a4 | exact a5 | exact a6) ?_; try walk_at "px"))
      refine ⟨trivial, w, some (.int i), ?_⟩
      rw [show ndz ((fs.zip gs).take (i + 1)) = nd2 (ndz ((fs.zip gs).take i)) (fs.zip gs)[i] from foldl_take (by omega), zp_at (by omega) hi hj]
      rfl
    · intro env S'' ⟨e, w, x, e2⟩
      subst e; subst e2
      rw [rng_len, ← hz, List.take_length]
      have hzz := ndz_ok hgz (fs.zip gs).length (Nat.le_refl _)
      rw [List.take_length, hz] at hzz
      obtain ⟨z1, z2, z3⟩ := hzz
      walk_at "px"
      refine sp_dot hS hT hg hh h8 hl fun c hc => ?_
      exact sp_same hc (by omega) (lt_up z1 (by omega)) (lt_up z2 (by omega)) h
end Law
namespace Law
open PySem PyI
local macro_rules | `(tactic| walk_at "px") => `(tactic| simp only [↓sv_var, ↓sv_int, ↓sv_bl, ↓sv_non, ↓sv_str, ↓sv_glob, ↓sv_bin, ↓sv_neg, ↓sv_cmp, ↓sv_chain, ↓sv_and, ↓sv_or, ↓sv_one, ↓sv_not, ↓sv_ite, ↓sv_tup, ↓sv_lst, ↓sv_ix, ↓sv_sl, ↓sv_call, ↓sv_blt, ↓sv_isi, ↓sv_mth, ↓sv_lc, ↓sv_turn, ↓sv_esnil, ↓sv_escons, ↓sv_no, ↓sv_yes, ↓sv_tno, ↓sv_tyes, ↓tv_and, ↓tv_or, ↓tv_one, ↓tv_not, ↓tv_cmp, ↓tv_chain, ↓tv_var, ↓tv_bl, ↓tv_ix, ↓tv_call, ↓tv_isi, ↓st_skip, ↓st_expr, ↓st_set, ↓st_unp, ↓st_setIx, ↓st_ret, ↓st_retN, ↓st_ite, ↓st_for, ↓st_while, ↓st_brk, ↓st_cont, ↓ov_add, ↓ov_sub, ↓ov_mul, ↓ov_fdiv, ↓ov_mod, ↓ov_pow, ↓ov_neg, ↓ov_addstr, ↓ov_addtup, ↓cv_lt, ↓cv_le, ↓cv_gt, ↓cv_ge, ↓cv_eq, ↓cv_ne, ↓cv_isN, ↓cv_isnN, ↓uv_bl, ↓uv_int, ↓xv_tup, ↓xv_rol, ↓xv_obj, at_0, at_1, at_2, ↓lv_obj, ↓lv_tup, ↓lv_rol, ↓bv_int, ↓bv_intb, ↓bv_abs, ↓bv_list, ↓bv_tuple, ↓bv_gcd, ↓bv_lcm, ↓pv_obj, ↓mv_append, ↓gv_nm, ↓gv_tp, ↓iv_seq, ↓iv_rng1, ↓iv_rng2, ↓iv_zip, ↓iv_enum, ↓Rt_cons, ↓Rt_nil, ↓Rt_ok, ↓Rt_run, ↓VarP_some, ↓OptP_some, ↓LstP_some, ↓Then_next, ↓Then_ret, ↓Then_brk, ↓Then_cont, ↓Then_exc, ↓Back_next, ↓Back_ret, ↓Back_exc, ↓Turn_next, ↓Turn_cont, ↓Turn_brk, ↓Turn_ret, ↓Turn_exc, ↓TurnC_none, ↓TurnC_some, ↓Br_true, ↓Br_false, PyI.isiD, PyI.isNonD, PyI.sets, PyI.wipeE, List.map_cons, List.map_nil, List.cons_append, List.nil_append, List.getElem?_cons_zero, List.getElem?_cons_succ, List.set_cons_zero, List.set_cons_succ, List.replicate, Nat.reduceSub, List.length_cons, List.length_nil, Nat.reduceAdd, Bool.not_true, Bool.not_false])
def Sms.drop : Nat → Sms → Sms
  | 0, s => s
  | _ + 1, .nil => .nil
  | n + 1, .cons _ r => Sms.drop n r
def Sms.take : Nat → Sms → List Sm
  | 0, _ => []
  | _ + 1, .nil => []
  | n + 1, .cons s r => s :: Sms.take n r
def Sms.app : List Sm → Sms → Sms
  | [], r => r
  | s :: ss, r => .cons s (Sms.app ss r)
theorem draws_add {st ci ri : Nat} {S T : Store} (h : Draws st ci ri S) : Draws st ci ri (S ++ T) := h.stay (X := []) Stays.add (by simp) (by simp) (by simp)
def tail2 : Sms := Sms.drop 11 ir_law.body
def tail1 : Sms := Sms.drop 6 ir_law.body
theorem law_tail2 {ns : List Int} {st ro go size : Nat} {big : Bool} {n d t : Int} {fs gs : List Qt} {S : Store} (hf : S[ro]? = some (.lst (qs fs))) (hg : S[go]? = some (.lst (qs gs))) (fl : fs.length = size) (gl : gs.length = size) (h0 : 0 < size) (h8 : size ≤ 8)
    (fg : ∀ q ∈ fs, Gd q) (gg : ∀ q ∈ gs, Gd q) (hn : n.natAbs < 2 ^ 140) (hd : d.natAbs < 2 ^ 140) (hd0 : d ≠ 0) (ht : t.natAbs < 2 ^ 10) (ht0 : t ≠ 0) :
    Rt (execs (callN fds 39) tail2 [some (.rol (ns.map .int)), some (.obj st), some (.int size), some (.bl big), some (.obj ro), some (.obj go), some (.int n), some (.int d), some (.int t), none, none] S) (Back (fun v _ => v = .bl true) nx) nx := by
  rw [show tail2 = Sms.app (Sms.take 6 tail2) .nil from rfl]
  dsimp only [tail2, ir_law, Sms.drop, Sms.take, Sms.app]
  walk_at "px"
  have b1 : (n * t).natAbs < 2 ^ 200 := lt_mul hn ht (by decide)
  have b2 : (d * t).natAbs < 2 ^ 200 := lt_mul hd ht (by decide)
  refine ⟨mulOk_bg (bg hn) (bg ht), mulOk_bg (bg hd) (bg ht), ?_⟩
  refine sp_rat (ne0 hd0 ht0) (bg b2) fun c hc => ?_
  have hc2 : Sq c n d := ⟨hc.1, by
    refine Int.eq_of_mul_eq_mul_left ht0 ?_
    have e := hc.2
    have k1 : t * (c.1 * d) = c.1 * (d * t) := by grind
    have k2 : t * (n * c.2) = n * t * c.2 := by grind
    rw [k1, k2, e]⟩
  refine sp_same hc2 hd0 (lt_up hn (by decide)) (lt_up hd (by decide)) ?_
  try walk_at "px"
  rw [hf, LstP_some, get_old hg, LstP_some]
  refine ⟨by decide, by omega, ?_⟩
  have k1 : (S ++ [O.lst (qs fs)] ++ [O.lst (qs gs)])[S.length]? = some (.lst (qs fs)) := get_old get_new
  have k2 : (S ++ [O.lst (qs fs)] ++ [O.lst (qs gs)])[(S ++ [O.lst (qs fs)]).length]? = some (.lst (qs gs)) := get_new
  have hf1 : (S ++ [O.lst (qs fs)] ++ [O.lst (qs gs)])[ro]? = some (.lst (qs fs)) := get_old (get_old hf)
  have hg1 : (S ++ [O.lst (qs fs)] ++ [O.lst (qs gs)])[go]? = some (.lst (qs gs)) := get_old (get_old hg)
  generalize S ++ [O.lst (qs fs)] ++ [O.lst (qs gs)] = S1 at *
  generalize S.length = i1 at *
  generalize (S ++ [O.lst (qs fs)]).length = i2 at *
  refine Rt_for (fun i env S' => S' = S1 ∧ ∃ w, env = [some (.rol (ns.map .int)), some (.obj st), some (.int size), some (.bl big), some (.obj ro), some (.obj go), some (.int n), some (.int d), some (.int t), some (.tup [.obj i1, .obj i2]), w]) ⟨rfl, _, rfl⟩ (fun _ _ _ _ => rfl) ?_ ?_
  · intro i d env S' hd ⟨e, w, e2⟩
    subst e; subst e2
    obtain ⟨hi, e⟩ := rng_get hd
    subst e
    have q1 := qs_at (fs := fs) (i := i) (by omega)
    have q2 := qs_at (fs := gs) (i := i) (by omega)
    have q0 := qs_at (fs := fs) (i := 0) (by omega)
    rw [show ((0 : Nat) : Int) = 0 from rfl] at q0
    walk_at "px"
    rw [hf1, LstP_some, q1, OptP_some, hg1, LstP_some, q2, OptP_some]
    refine sp_pair (fg _ (List.getElem_mem _)) (gg _ (List.getElem_mem _)) ?_
    try walk_at "px"
    rw [hf1, LstP_some, q1, OptP_some, LstP_some, q0, OptP_some]
    refine sp_pair (fg _ (List.getElem_mem _)) (fg _ (List.getElem_mem _)) ?_
    try walk_at "px"
    exact ⟨trivial, _, rfl⟩
  · intro env S' ⟨e, w, e2⟩
    subst e; subst e2
    walk_at "px"
    refine sp_ends hf1 fg (by omega) fun S2 s2 => ?_
    try walk_at "px"
    refine sp_lawscaled (s2.get hf1 (by simp)) fg (by omega) fun S3 s3 => ?_
    try walk_at "px"
    refine ⟨by decide, ?_⟩
    refine sp_lawscaled (fs := []) get_new (by simp) (by decide) fun S4 s4 => ?_
    try walk_at "px"
    have t4 : Stays [] S' S4 := ((s2.trans s3).trans Stays.add).trans s4
    refine sp_sums (t4.get hf1 (by simp)) (t4.get hg1 (by simp)) fg gg (by omega) (by omega) ?_
    try walk_at "px"
    refine ⟨by decide, by decide, ?_⟩
    refine sp_sums (fs := []) (gs := []) (get_old get_new) get_new (by simp) (by simp) (by decide) rfl ?_
    try walk_at "px"
    have t5 : Stays [] S' (S4 ++ [O.lst []] ++ [O.lst []]) := (t4.trans Stays.add).trans Stays.add
    generalize S4 ++ [O.lst []] ++ [O.lst []] = S5 at *
    have p1 := Py.obj (t5.get hf1 (by simp)) pys_qs
    have p2 := Py.obj (t5.get hg1 (by simp)) pys_qs
    have p3 := Py.obj (t5.get k1 (by simp)) pys_qs
    have p4 := Py.obj (t5.get k2 (by simp)) pys_qs
    refine ⟨by decide, ?_⟩
    have pa := Py.tup (ds := [D.obj i1, D.obj i2]) (ps := [_, _]) ⟨p3, p4, trivial⟩
    have pb := Py.tup (ds := [D.obj ro, D.obj go]) (ps := [_, _]) ⟨p1, p2, trivial⟩
    rw [cv_eqP pa pb (by decide) (by decide), PySem.SeqAt.eqv_refl _ pa.lay]
theorem law_tail1 {ns : List Int} {st ci ri ro go size : Nat} {big : Bool} {fs gs : List Qt} {S : Store} (dr : Draws st ci ri S) (r1 : ro ≠ st) (r2 : ro ≠ ri) (r3 : go ≠ st) (r4 : go ≠ ri) (hf : S[ro]? = some (.lst (qs fs))) (hg : S[go]? = some (.lst (qs gs))) (fl : fs.length = size) (gl : gs.length = size) (h0 : 0 < size) (h8 : size ≤ 8)
    (fg : ∀ q ∈ fs, Gd q) (gg : ∀ q ∈ gs, Gd q) :
    Rt (execs (callN fds 39) tail1 [some (.rol (ns.map .int)), some (.obj st), some (.int size), some (.bl big), some (.obj ro), some (.obj go), none, none, none, none, none] S) (Back (fun v _ => v = .bl true) nx) nx := by
  rw [show tail1 = Sms.app (Sms.take 5 tail1) tail2 from rfl]
  dsimp only [tail1, ir_law, Sms.drop, Sms.take, Sms.app]
  walk_at "px"
  refine sp_same (c := (0, 1)) ⟨⟨by decide, by decide⟩, rfl⟩ (by decide) (by decide) (by decide) ?_
  try walk_at "px"
  refine sp_same (c := (1, 1)) ⟨⟨by decide, by decide⟩, rfl⟩ (by decide) (by decide) (by decide) ?_
  try walk_at "px"
  refine sp_great dr fun n1 S1 hn1 d1 s1 => ?_
  try walk_at "px"
  refine sp_great d1 fun n2 S2 hn2 d2 s2 => ?_
  try walk_at "px"
  refine sp_great d2 fun n3 S3 hn3 d3 s3 => ?_
  try walk_at "px"
  refine sp_draw (b := 30) d3 (by decide) (by decide) fun t S4 ht d4 s4 => ?_
  try walk_at "px"
  refine sp_draw (b := 2) d4 (by decide) (by decide) fun u S5 hu d5 s5 => ?_
  try walk_at "px"
  have ss := (((s1.trans s2).trans s3).trans s4).trans s5
  have hf5 := ss.get hf (by simp [r1, r2])
  have hg5 := ss.get hg (by simp [r3, r4])
  refine Br.dec (fun _ => ?_) (fun _ => ?_)
  all_goals exact law_tail2 hf5 hg5 fl gl h0 h8 fg gg (by omega) (by omega) (by omega) (by omega) (by omega)
theorem lawTrue : LawTrue rows 40 lawIx := by
  intro ns hlen
  suffices h : Rt (callN fds 40 lawIx [.rol (ns.map D.int)] []) (fun v _ => v = D.bl true) nx by
    obtain ⟨a, S, e, h⟩ := h.ex
    exact ⟨S, by rw [← h]; exact e⟩
  refine Rt_call (fd := ir_law) rfl rfl ?_
  rw [show ir_law.body = Sms.app (Sms.take 6 ir_law.body) tail1 from rfl]
  dsimp only [ir_law, Sms.take, Sms.app]
  walk_at "px"
  refine sp_start fun st ci ri S0 d0 => ?_
  try walk_at "px"
  refine sp_draw (b := 8) d0 (by decide) (by decide) fun x S1 hx d1 s1 => ?_
  try walk_at "px"
  refine sp_draw (b := 4) d1 (by decide) (by decide) fun y S2 hy d2 s2 => ?_
  try walk_at "px"
  rw [show (1 : Int) + x = ((1 + x : Nat) : Int) from rfl]
  have hsz : 0 < 1 + x ∧ 1 + x ≤ 8 := by omega
  generalize 1 + x = size at *
  generalize decide ((y : Int) = 0) = big
  refine ⟨by omega, ?_⟩
  have frs : ∀ {S : Store} {env : Env'} {Q : D → Store → Prop} {turn : D → M (Option D)}, Draws st ci ri S → (∀ d S' Q, Draws st ci ri S' → (∀ q S'', Gd q → Draws st ci ri S'' → Stays [st, ri] S' S'' → Q (some (fr q)) S'') → Rt (turn d S') Q nx) →
      (∀ fs S', fs.length = size → (∀ q ∈ fs, Gd q) → Draws st ci ri S' → Stays [st, ri] S S' → Q (.obj S'.length) (S' ++ [.lst (qs fs)])) → Rt (nox (lcL [] turn (rngI 0 (size : Int).toNat) [] S)) Q nx := fun {S} env Q turn hd ht hf => by
    refine Rt_lc (fun i acc S' => Draws st ci ri S' ∧ Stays [st, ri] S S' ∧ ∃ fs, acc = qs fs ∧ fs.length = i ∧ ∀ q ∈ fs, Gd q) ⟨hd, Stays.refl, [], rfl, rfl, by simp⟩ (fun _ _ _ _ => rfl) ?_ ?_
    · intro i d acc S' hd ⟨dd, ss, fs, e, e2, e3⟩
      subst e
      obtain ⟨hi, _⟩ := rng_get hd
      refine ht d S' _ dd fun q S'' gq d' s' => ⟨by rw [qs_len]; simp only [sizeLine]; omega, d', ss.trans s', fs ++ [q], by simp [qs], by simp [e2], fun z hz => ?_⟩
      rcases List.mem_append.mp hz with hz | hz
      · exact e3 z hz
      · rw [List.mem_singleton.mp hz]; exact gq
    · intro acc S' ⟨dd, ss, fs, e, e2, e3⟩
      subst e
      rw [rng_len] at e2
      exact hf fs S' e2 e3 dd ss
  refine frs (env := []) d2 ?_ ?_
  · intro d S' Q dd hh
    walk_at "px"
    exact sp_fraction dd fun q S'' f s d3 s3 => hh q S'' ⟨f, s⟩ d3 s3
  intro fs S3 hfl hfg d3 s3
  have d4 := draws_add (T := [.lst (qs fs)]) d3
  have f4 : (S3 ++ [O.lst (qs fs)])[S3.length]? = some (.lst (qs fs)) := get_new
  have nst : S3.length ≠ st := by
    obtain ⟨_, _, _, e, _⟩ := d3.ex
    have := (List.getElem?_eq_some_iff.mp e).1
    omega
  have nri : S3.length ≠ ri := by
    obtain ⟨_, _, _, _, _, e, _⟩ := d3.ex
    have := (List.getElem?_eq_some_iff.mp e).1
    omega
  have nci : S3.length ≠ ci := by
    obtain ⟨_, _, _, _, e, _⟩ := d3.ex
    have := (List.getElem?_eq_some_iff.mp e).1
    omega
  generalize S3 ++ [O.lst (qs fs)] = S4 at *
  generalize S3.length = ro at *
  try walk_at "px"
  refine ⟨by omega, ?_⟩
  refine frs (env := []) d4 ?_ ?_
  · intro d S' Q dd hh
    walk_at "px"
    exact sp_fraction dd fun q S'' f s d3 s3 => hh q S'' ⟨f, s⟩ d3 s3
  intro gs S5 hgl hgg d5 s5
  have d6 := draws_add (T := [.lst (qs gs)]) d5
  have f5 : S5[ro]? = some (.lst (qs fs)) := s5.get f4 (by simp [nst, nri])
  have f6 : (S5 ++ [O.lst (qs gs)])[ro]? = some (.lst (qs fs)) := get_old f5
  have g6 : (S5 ++ [O.lst (qs gs)])[S5.length]? = some (.lst (qs gs)) := get_new
  have rog : S5.length ≠ ro := by
    have := (List.getElem?_eq_some_iff.mp f5).1
    omega
  have gst : S5.length ≠ st := by
    obtain ⟨_, _, _, e, _⟩ := d5.ex
    have := (List.getElem?_eq_some_iff.mp e).1
    omega
  have gri : S5.length ≠ ri := by
    obtain ⟨_, _, _, _, _, e, _⟩ := d5.ex
    have := (List.getElem?_eq_some_iff.mp e).1
    omega
  have gci : S5.length ≠ ci := by
    obtain ⟨_, _, _, _, e, _⟩ := d5.ex
    have := (List.getElem?_eq_some_iff.mp e).1
    omega
  generalize S5 ++ [O.lst (qs gs)] = S6 at *
  generalize S5.length = go at *
  try walk_at "px"
  refine sp_draw (b := 3) d6 (by decide) (by decide) fun z S7 hz d7 s7 => ?_
  have f7 := s7.get f6 (by simp [nst, nri])
  have g7 := s7.get g6 (by simp [gst, gri])
  try walk_at "px"
  have n1 := d7.n1
  have n2 := d7.n2
  refine Br.dec (fun _ => ?_) (fun _ => ?_)
  · refine sp_draw (b := size) d7 (by omega) (by omega) fun i S8 hi d8 s8 => ?_
    have f8 := s8.get f7 (by simp [nst, nri])
    have g8 := s8.get g7 (by simp [gst, gri])
    walk_at "px"
    rw [f8, LstP_some, qs_at (by omega), OptP_some]
    refine sp_draw (b := size) d8 (by omega) (by omega) fun j S9 hj d9 s9 => ?_
    have f9 := s9.get f8 (by simp [nst, nri])
    have g9 := s9.get g8 (by simp [gst, gri])
    walk_at "px"
    have x4 : L2.ixN fs.length (j : Int) = some j := by
      unfold L2.ixN
      rw [if_pos (by omega), if_pos (by omega)]
      rfl
    rw [f9, LstP_some, qs_len, x4, OptP_some]
    have sT : Stays [ro] S9 (S9.set ro (.lst ((qs fs).set j (fr fs[i])))) := Stays.set (by simp)
    have fT : (S9.set ro (.lst ((qs fs).set j (fr fs[i]))))[ro]? = some (.lst (qs (fs.set j fs[i]))) := by
      rw [List.getElem?_set_self (List.getElem?_eq_some_iff.mp f9).1]
      unfold qs
      rw [List.map_set]
    refine law_tail1 (fs := fs.set j fs[i]) (gs := gs) (d9.stay sT (by simp [nst.symm]) (by simp [nci.symm]) (by simp [nri.symm])) nst nri gst gri fT (sT.get g9 (by simp [rog])) (by simp [hfl]) hgl hsz.1 hsz.2 (fun q hq => ?_) hgg
    rcases List.mem_or_eq_of_mem_set hq with h | h
    · exact hfg q h
    · rw [h]; exact hfg _ (List.getElem_mem _)
  · exact law_tail1 d7 nst nri gst gri f7 g7 hfl hgl hsz.1 hsz.2 hfg hgg
end Law
namespace Law
open PySem PyI L2
abbrev RR : PySem.W.OpenRow := PySem.W.OpenLaw.row PySem.Challenge.rw_soldtoworths_k86_exact_fractions
abbrev hk : PySem.W.Hook := hookP 5 gt (rows.map Row.dd)
def ob (s : PySem.W.SharedT) : AlP := obsPG 5 gt (rows.map Row.dd) (HandSHeadRun.getT s)
theorem ob_eq (s : PySem.W.SharedT) : ob s = hk.obs s.abs := obsPG_eq (HandSHeadRun.getT_eq s)
theorem headRun (w : World) : RunI RR (PySem.W.view RR.prog [lawAt]) hk ob 2000 4000 loose w := by
  unfold RunI
  kernel_rfl
end Law
open PySem PySem.W PySem.Calls PyProof.Rows in
theorem PySem.Challenge.cw_soldtoworths_k86_exact_fractions_holds : PySem.Challenge.rw_soldtoworths_k86_exact_fractions.Holds := by
  w_on; o_law
  refine PyI.head_imp (r := OpenLaw.row PySem.Challenge.rw_soldtoworths_k86_exact_fractions) (q := view (OpenLaw.row PySem.Challenge.rw_soldtoworths_k86_exact_fractions).prog [Law.lawAt]) (H := Law.hk) (ob := Law.ob) (L := 2000) (M := 4000) (loose := Law.loose) (d := HandSHeadRun.topDef (OpenLaw.row PySem.Challenge.rw_soldtoworths_k86_exact_fractions).prog Law.lawAt) (kwd := []) Law.ob_eq
    Law.headRun (by kernel_rfl) (by kernel_rfl) (by kernel_rfl) (by rfl) (by first | assumption | decide +kernel) (by decide +kernel) ⟨rfl, rfl, rfl, rfl, rfl, by decide +kernel⟩ ?hw ?hc
  case hw => w_witness2
  case hc =>
    refine L2.walk_ofE (l := PySem.Challenge.rw_soldtoworths_k86_exact_fractions) (n := 63) (k := 40) (x := "script") (CX := L2.CX0) rfl (by decide) (by kernel_rfl) ⟨rfl, by decide, by decide⟩ ?F (fun _ _ _ _ z => z)
    intro w mg fa h Y G hmg0
    obtain ⟨K, KX, c⟩ := Y
    have hmg : mg ("law" : PySem.Str) = some (.ref fa) := by
      have e : (HandSHeadRun.topDef (OpenLaw.row PySem.Challenge.rw_soldtoworths_k86_exact_fractions).prog Law.lawAt).name = ("law" : PySem.Str) := by kernel_rfl
      rw [← e]
      exact hmg0
    obtain ⟨fd, sp, h1, h2, h3⟩ := PyI.law_facts (P := (PySem.Challenge.rw_soldtoworths_k86_exact_fractions).prog) (w := w) (fl := Law.lawIx) (k := 40) (rl := Law.row_law) KX G c Law.fns_eq Law.frees_ok Law.bf_ok Law.rows_ok Law.rows_bd (by rfl) (by rfl) (by rfl) hmg Law.lawTrue
    exact ⟨K, fd, sp, KX, h1, h2, h3⟩
