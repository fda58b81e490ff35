import PyProof.Rows.All
import Wide.All
import OpenK.AllK
import Wide.FinOn
import HandS.ForMost
import HandS.ForExc
import HandS.TryMany
import HandS.ExcInit
import HandS.CallSlots
import HandS.IsInst
import HandS.Style
import HandS.Flow
import HandS.Deep
import HandS.Conv
import HandS.StrMore
import HandS.Small
import HandS.HeadEnd
import HandS.Defaults
import HandS.Head0
import HandS.Head1
import HandS.Head2
import HandS.HeadHook1
import HandS.HeadHook2
import PySem.Challenge.RW_flaghoists_k01_words_and_messages
set_option Elab.async false
set_option linter.all false
set_option maxRecDepth 100000
set_option maxHeartbeats 2000000
namespace FH
open PySem PySem.Spec PyProof.Rows L2
inductive D where
  | non | bl (b : Bool) | int (i : Int) | str (s : Str)
  | scr (ns : List Int) | lst (t : Option Addr) (xs : List D) | tup (xs : List D) | dic (t : Option Addr) (kvs : List (Key × D)) | obj (C : Str) (fs : List (Str × D))
/-! ### data in a heap -/
/-- the classes' addresses, the written part -/
structure Cs where
  ad : Str → Addr
  K : PySem.W.Frag
mutual
def Rep (ca : Cs) (F : Hp) : D → V → Prop
  | .non, v => v = .non
  | .bl b, v => v = .bl b
  | .int i, v => v = .int i
  | .str s, v => v = .str s
  | .scr ns, v => ∃ a, v = .ref a ∧ SqL ca.K F a (ns.map V.int)
  | .lst t xs, v => ∃ a vs, v = .ref a ∧ F a = some (.lst vs) ∧ (t = none ∨ t = some a) ∧ Reps ca F xs vs
  | .tup xs, v => ∃ a vs, v = .ref a ∧ F a = some (.tup vs) ∧ Reps ca F xs vs
  | .dic t kvs, v => ∃ a vs, v = .ref a ∧ F a = some (.dK vs) ∧ (t = none ∨ t = some a) ∧ RepK ca F kvs vs
  | .obj C fs, v => ∃ a dx vs, v = .ref a ∧ F a = some (.ins (ca.ad C) dx vs) ∧ RepF ca F fs vs
def Reps (ca : Cs) (F : Hp) : List D → List V → Prop
  | [], vs => vs = []
  | d :: ds, vs => ∃ v r, vs = v :: r ∧ Rep ca F d v ∧ Reps ca F ds r
def RepK (ca : Cs) (F : Hp) : List (Key × D) → List (Key × V) → Prop
  | [], vs => vs = []
  | (k, d) :: ds, vs => ∃ v r, vs = (k, v) :: r ∧ Rep ca F d v ∧ RepK ca F ds r
def RepF (ca : Cs) (F : Hp) : List (Str × D) → List (Str × V) → Prop
  | [], vs => vs = []
  | (k, d) :: ds, vs => ∃ v r, vs = (k, v) :: r ∧ Rep ca F d v ∧ RepF ca F ds r
end
def Sub (F G : Hp) : Prop := ∀ a o, F a = some o → G a = some o
theorem Sub.refl (F : Hp) : Sub F F := fun _ _ h => h
theorem Sub.trans {F G H : Hp} (a : Sub F G) (b : Sub G H) : Sub F H := fun x o h => b x o (a x o h)
mutual
theorem Rep.mono {ca : Cs} {F G : Hp} (e : Sub F G) : ∀ (d : D) (v : V), Rep ca F d v → Rep ca G d v
  | .non, v, h => by unfold Rep at h ⊢; exact h
  | .bl b, v, h => by unfold Rep at h ⊢; exact h
  | .int i, v, h => by unfold Rep at h ⊢; exact h
  | .str s, v, h => by unfold Rep at h ⊢; exact h
  | .scr ns, v, h => by
    unfold Rep at h ⊢
    obtain ⟨a, h1, h2⟩ := h
    exact ⟨a, h1, Same.seq e h2⟩
  | .lst t xs, v, h => by
    unfold Rep at h ⊢
    obtain ⟨a, vs, h1, h2, h3, h4⟩ := h
    exact ⟨a, vs, h1, e _ _ h2, h3, Reps.mono e xs vs h4⟩
  | .tup xs, v, h => by
    unfold Rep at h ⊢
    obtain ⟨a, vs, h1, h2, h4⟩ := h
    exact ⟨a, vs, h1, e _ _ h2, Reps.mono e xs vs h4⟩
  | .dic t kvs, v, h => by
    unfold Rep at h ⊢
    obtain ⟨a, vs, h1, h2, h3, h4⟩ := h
    exact ⟨a, vs, h1, e _ _ h2, h3, RepK.mono e kvs vs h4⟩
  | .obj C fs, v, h => by
    unfold Rep at h ⊢
    obtain ⟨a, dx, vs, h1, h2, h4⟩ := h
    exact ⟨a, dx, vs, h1, e _ _ h2, RepF.mono e fs vs h4⟩
theorem Reps.mono {ca : Cs} {F G : Hp} (e : Sub F G) : ∀ (ds : List D) (vs : List V), Reps ca F ds vs → Reps ca G ds vs
  | [], vs, h => by unfold Reps at h ⊢; exact h
  | d :: ds, vs, h => by
    unfold Reps at h ⊢
    obtain ⟨v, r, h1, h2, h3⟩ := h
    exact ⟨v, r, h1, Rep.mono e d v h2, Reps.mono e ds r h3⟩
theorem RepK.mono {ca : Cs} {F G : Hp} (e : Sub F G) : ∀ (ds : List (Key × D)) (vs : List (Key × V)), RepK ca F ds vs → RepK ca G ds vs
  | [], vs, h => by unfold RepK at h ⊢; exact h
  | (k, d) :: ds, vs, h => by
    unfold RepK at h ⊢
    obtain ⟨v, r, h1, h2, h3⟩ := h
    exact ⟨v, r, h1, Rep.mono e d v h2, RepK.mono e ds r h3⟩
theorem RepF.mono {ca : Cs} {F G : Hp} (e : Sub F G) : ∀ (ds : List (Str × D)) (vs : List (Str × V)), RepF ca F ds vs → RepF ca G ds vs
  | [], vs, h => by unfold RepF at h ⊢; exact h
  | (k, d) :: ds, vs, h => by
    unfold RepF at h ⊢
    obtain ⟨v, r, h1, h2, h3⟩ := h
    exact ⟨v, r, h1, Rep.mono e d v h2, RepF.mono e ds r h3⟩
end
section
variable {ca : Cs} {F G : Hp}
theorem Reps.length : ∀ {ds : List D} {vs : List V}, Reps ca F ds vs → vs.length = ds.length
  | [], vs, h => by unfold Reps at h; subst h; rfl
  | d :: ds, vs, h => by
    unfold Reps at h
    obtain ⟨v, r, h1, h2, h3⟩ := h
    subst h1
    rw [List.length_cons, List.length_cons, Reps.length h3]
theorem Reps.get : ∀ {ds : List D} {vs : List V} {i : Nat} {d : D}, Reps ca F ds vs → ds[i]? = some d → ∃ v, vs[i]? = some v ∧ Rep ca F d v
  | [], vs, i, d, h, e => by simp at e
  | d :: ds, vs, 0, d', h, e => by
    unfold Reps at h
    obtain ⟨v, r, h1, h2, h3⟩ := h
    subst h1
    simp at e
    subst e
    exact ⟨v, rfl, h2⟩
  | d :: ds, vs, i + 1, d', h, e => by
    unfold Reps at h
    obtain ⟨v, r, h1, h2, h3⟩ := h
    subst h1
    obtain ⟨v', e1, e2⟩ := Reps.get (i := i) (d := d') h3 (by simpa using e)
    exact ⟨v', by simpa using e1, e2⟩
theorem Reps.get' : ∀ {ds : List D} {vs : List V} {i : Nat} {v : V}, Reps ca F ds vs → vs[i]? = some v → ∃ d, ds[i]? = some d ∧ Rep ca F d v
  | [], vs, i, d, h, e => by unfold Reps at h; subst h; simp at e
  | d :: ds, vs, 0, d', h, e => by
    unfold Reps at h
    obtain ⟨v, r, h1, h2, h3⟩ := h
    subst h1
    simp at e
    subst e
    exact ⟨d, rfl, h2⟩
  | d :: ds, vs, i + 1, d', h, e => by
    unfold Reps at h
    obtain ⟨v, r, h1, h2, h3⟩ := h
    subst h1
    obtain ⟨v', e1, e2⟩ := Reps.get' (i := i) (v := d') h3 (by simpa using e)
    exact ⟨v', by simpa using e1, e2⟩
theorem Reps.append : ∀ {ds es : List D} {vs us : List V}, Reps ca F ds vs → Reps ca F es us → Reps ca F (ds ++ es) (vs ++ us)
  | [], es, vs, us, h, k => by unfold Reps at h; subst h; exact k
  | d :: ds, es, vs, us, h, k => by
    unfold Reps at h
    obtain ⟨v, r, h1, h2, h3⟩ := h
    subst h1
    show Reps ca F (d :: (ds ++ es)) (v :: (r ++ us))
    unfold Reps
    exact ⟨v, _, rfl, h2, Reps.append h3 k⟩
theorem Reps.nil : Reps ca F [] [] := by unfold Reps; rfl
theorem Reps.cons {d : D} {ds : List D} {v : V} {vs : List V} (h : Rep ca F d v) (k : Reps ca F ds vs) : Reps ca F (d :: ds) (v :: vs) := by
  unfold Reps; exact ⟨v, vs, rfl, h, k⟩
theorem Reps.of_get : ∀ {ds : List D} {vs : List V}, vs.length = ds.length → (∀ (i : Nat) (d : D) (v : V), ds[i]? = some d → vs[i]? = some v → Rep ca F d v) → Reps ca F ds vs
  | [], [], _, _ => .nil
  | d :: ds, v :: vs, hl, h => .cons (h 0 d v rfl rfl) (Reps.of_get (by simpa using hl) fun i d' v' e1 e2 => h (i + 1) d' v' (by simpa using e1) (by simpa using e2))
  | [], v :: vs, hl, _ => by simp at hl
  | d :: ds, [], hl, _ => by simp at hl
theorem Reps.set {ds : List D} {vs : List V} {i : Nat} {d : D} {v : V} (h : Reps ca F ds vs) (k : Rep ca F d v) : Reps ca F (ds.set i d) (vs.set i v) := by
  refine Reps.of_get (by simp [h.length]) fun j d' v' e1 e2 => ?_
  by_cases hj : i = j
  · subst hj
    by_cases hlt : i < ds.length
    · rw [List.getElem?_set_self hlt] at e1
      rw [List.getElem?_set_self (by rw [h.length]; exact hlt)] at e2
      cases e1; cases e2
      exact k
    · rw [List.getElem?_eq_none (by simpa using hlt)] at e1
      cases e1
  · rw [List.getElem?_set_ne hj] at e1 e2
    obtain ⟨v2, e3, r⟩ := h.get e1
    rw [e2] at e3; cases e3
    exact r
theorem Reps.take {ds : List D} {vs : List V} (n : Nat) (h : Reps ca F ds vs) : Reps ca F (ds.take n) (vs.take n) := by
  refine Reps.of_get (by simp [h.length]) fun j d' v' e1 e2 => ?_
  rw [List.getElem?_take] at e1 e2
  split at e1
  · rename_i hj
    rw [if_pos hj] at e2
    obtain ⟨v2, e3, r⟩ := h.get e1
    rw [e2] at e3; cases e3
    exact r
  · cases e1
theorem Reps.drop {ds : List D} {vs : List V} (n : Nat) (h : Reps ca F ds vs) : Reps ca F (ds.drop n) (vs.drop n) := by
  refine Reps.of_get (by simp [h.length]) fun j d' v' e1 e2 => ?_
  rw [List.getElem?_drop] at e1 e2
  obtain ⟨v2, e3, r⟩ := h.get e1
  rw [e2] at e3; cases e3
  exact r
theorem Reps.reverse {ds : List D} {vs : List V} (h : Reps ca F ds vs) : Reps ca F ds.reverse vs.reverse := by
  refine Reps.of_get (by simp [h.length]) fun j d' v' e1 e2 => ?_
  have hj : j < ds.length := by
    have := (List.getElem?_eq_some_iff.mp e1).1
    simpa using this
  rw [List.getElem?_reverse (by omega)] at e1
  rw [List.getElem?_reverse (by rw [h.length]; omega), h.length] at e2
  obtain ⟨v2, e3, r⟩ := h.get e1
  rw [e2] at e3; cases e3
  exact r
end
/-! ### owners -/
/-- who owns an address: a slot of the frame, a temporary; its component -/
inductive Lab where
  | s (i c : Nat) | t (k c : Nat)
  deriving DecidableEq
abbrev Own := Addr → Option Lab
/-- a result: shared, an owned root, a fresh tuple -/
inductive R where
  | sh (d : D) | ow (d : D) | tp (cs : List (Bool × D))
def R.d : R → D
  | .sh d => d
  | .ow d => d
  | .tp cs => .tup (cs.map (·.2))
/-- an owned root: the object stands in H, what it holds is frozen -/
def RepO (ca : Cs) (F H : Hp) (O : Own) (l : Lab) : D → V → Prop
  | .lst t xs, v => ∃ a vs, v = .ref a ∧ H a = some (.lst vs) ∧ O a = some l ∧ (t = none ∨ t = some a) ∧ Reps ca F xs vs
  | .dic t kvs, v => ∃ a vs, v = .ref a ∧ H a = some (.dK vs) ∧ O a = some l ∧ (t = none ∨ t = some a) ∧ RepK ca F kvs vs
  | d, v => Rep ca F d v
def labC (l : Nat → Lab) : Nat → Lab := l
/-- the components of a fresh tuple -/
def RepC (ca : Cs) (F H : Hp) (O : Own) (l : Nat → Lab) : Nat → List (Bool × D) → List V → Prop
  | _, [], vs => vs = []
  | c, (true, d) :: r, vs => ∃ v w, vs = v :: w ∧ RepO ca F H O (l c) d v ∧ RepC ca F H O l (c + 1) r w
  | c, (false, d) :: r, vs => ∃ v w, vs = v :: w ∧ Rep ca F d v ∧ RepC ca F H O l (c + 1) r w
def RepR (ca : Cs) (F H : Hp) (O : Own) (l : Nat → Lab) : R → V → Prop
  | .sh d, v => Rep ca F d v
  | .ow d, v => RepO ca F H O (l 0) d v
  | .tp cs, v => ∃ a vs, v = .ref a ∧ F a = some (.tup vs) ∧ RepC ca F H O l 1 cs vs
section
variable {ca : Cs} {F F' H H' : Hp} {O O' : Own} {l : Nat → Lab}
theorem RepO.mono {l : Lab} {d : D} {v : V} (h : RepO ca F H O l d v) (e : Sub F F') (k : ∀ a o, O a = some l → H a = some o → H' a = some o ∧ O' a = some l) : RepO ca F' H' O' l d v := by
  cases d with
  | lst t xs =>
    obtain ⟨a, vs, h1, h2, h3, h4, h5⟩ := h
    obtain ⟨k1, k2⟩ := k a _ h3 h2
    exact ⟨a, vs, h1, k1, k2, h4, Reps.mono e _ _ h5⟩
  | dic t xs =>
    obtain ⟨a, vs, h1, h2, h3, h4, h5⟩ := h
    obtain ⟨k1, k2⟩ := k a _ h3 h2
    exact ⟨a, vs, h1, k1, k2, h4, RepK.mono e _ _ h5⟩
  | _ => exact Rep.mono e _ _ h
theorem RepC.mono {cs : List (Bool × D)} : ∀ {c : Nat} {vs : List V}, RepC ca F H O l c cs vs → Sub F F' → (∀ j a o, O a = some (l j) → H a = some o → H' a = some o ∧ O' a = some (l j)) → RepC ca F' H' O' l c cs vs := by
  induction cs with
  | nil => intro c vs h e k; unfold RepC at h ⊢; exact h
  | cons x r ih =>
    obtain ⟨b, d⟩ := x
    intro c vs h e k
    cases b with
    | true =>
      unfold RepC at h ⊢
      obtain ⟨v, w, h1, h2, h3⟩ := h
      exact ⟨v, w, h1, h2.mono e (k c), ih h3 e k⟩
    | false =>
      unfold RepC at h ⊢
      obtain ⟨v, w, h1, h2, h3⟩ := h
      exact ⟨v, w, h1, Rep.mono e _ _ h2, ih h3 e k⟩
theorem RepR.mono {r : R} {v : V} (h : RepR ca F H O l r v) (e : Sub F F') (k : ∀ j a o, O a = some (l j) → H a = some o → H' a = some o ∧ O' a = some (l j)) : RepR ca F' H' O' l r v := by
  cases r with
  | sh d => exact Rep.mono e _ _ h
  | ow d => exact RepO.mono h e (k 0)
  | tp cs =>
    obtain ⟨a, vs, h1, h2, h3⟩ := h
    exact ⟨a, vs, h1, e _ _ h2, h3.mono e k⟩
end
/-! ### steps -/
/-- not owned by a slot -/
def Prot (O : Own) (a : Addr) : Prop := ∀ i c, O a ≠ some (.s i c)
structure Step (F : Hp) (O : Own) (H F' : Hp) (O' : Own) (H' : Hp) : Prop where
  ext : Sub F F'
  keep : ∀ a o, H a = some o → Prot O a → H' a = some o
  lab : ∀ a o, H a = some o → Prot O a → O' a = O a
  frz : ∀ a o, H a = some o → Prot O a → F a = none → F' a = none
  dom : ∀ a o, H a = some o → ∃ o', H' a = some o'
theorem Step.refl (F : Hp) (O : Own) (H : Hp) : Step F O H F O H := ⟨Sub.refl _, fun _ _ h _ => h, fun _ _ _ _ => rfl, fun _ _ _ _ h => h, fun _ o h => ⟨o, h⟩⟩
theorem Step.trans {F F1 F2 H H1 H2 : Hp} {O O1 O2 : Own} (a : Step F O H F1 O1 H1) (b : Step F1 O1 H1 F2 O2 H2) : Step F O H F2 O2 H2 := by
  have pr : ∀ x o, H x = some o → Prot O x → Prot O1 x := fun x o h p i c e => p i c (by rw [← a.lab x o h p]; exact e)
  exact ⟨a.ext.trans b.ext, fun x o h p => b.keep x o (a.keep x o h p) (pr x o h p), fun x o h p => (b.lab x o (a.keep x o h p) (pr x o h p)).trans (a.lab x o h p),
    fun x o h p n => b.frz x o (a.keep x o h p) (pr x o h p) (a.frz x o h p n), fun x o h => let ⟨o1, e⟩ := a.dom x o h; b.dom x o1 e⟩
theorem Step.fresh {F F1 H H1 : Hp} {O O1 : Own} (a : Step F O H F1 O1 H1) {p : Addr} (h : H1 p = none) : H p = none := by
  cases q : H p with
  | none => rfl
  | some o =>
    obtain ⟨o', e⟩ := a.dom p o q
    rw [h] at e; cases e
abbrev En := List (Option R)
/-- the frame's slots hold these results -/
structure AE (ca : Cs) (F : Hp) (O : Own) (env : En) (σ : L2.St) (H : Hp) : Prop where
  sub : Sub F H
  dis : ∀ a l, O a = some l → F a = none
  own : ∀ a l, O a = some l → ∃ o, H a = some o
  slot : ∀ i r, env[i]? = some (some r) → ∃ v, σ[i]? = some (some v) ∧ RepR ca F H O (.s i) r v
/-- temporaries from k on are free -/
def Below (O : Own) (k : Nat) : Prop := ∀ a j c, O a = some (.t j c) → j < k
end FH
set_option Elab.async false
set_option linter.all false
set_option maxRecDepth 100000
set_option maxHeartbeats 2000000
namespace FH
open PySem PySem.Spec PyProof.Rows L2
/-! ### outcomes -/
inductive M (α : Type) where
  | ok (a : α) | ex (c : Str) (d : D) | no
def M.bind {α β : Type} (m : M α) (f : α → M β) : M β := match m with
  | .ok a => f a
  | .ex c d => .ex c d
  | .no => .no
@[simp] theorem M.bind_ok {α β : Type} (a : α) (f : α → M β) : (M.ok a).bind f = f a := rfl
@[simp] theorem M.bind_no {α β : Type} (f : α → M β) : (M.no : M α).bind f = .no := rfl
@[simp] theorem M.bind_ex {α β : Type} (c : Str) (d : D) (f : α → M β) : (M.ex c d : M α).bind f = .ex c d := rfl
theorem M.bind_eq {α β : Type} {m : M α} {f : α → M β} {b : β} (h : m.bind f = .ok b) : ∃ a, m = .ok a ∧ f a = .ok b := by
  cases m with
  | ok a => exact ⟨a, rfl, h⟩
  | ex c d => cases h
  | no => cases h
def LIM : Nat := 1000000
theorem lim_le : LIM ≤ sizeLine := by rw [sizeLine_eq]; decide
theorem lim_lt : LIM < sizeLine := by rw [sizeLine_eq]; decide
/-! ### operations on data -/
inductive Fn where
  | len | int | str | repr | list | sum | all | any | max2 | min2
  deriving DecidableEq
def Fn.name : Fn → Str
  | .len => "len" | .int => "int" | .str => "str" | .repr => "repr" | .list => "list" | .sum => "sum" | .all => "all" | .any => "any" | .max2 => "max" | .min2 => "min"
def Fn.arity : Fn → Nat
  | .max2 => 2 | .min2 => 2 | _ => 1
inductive Mt where
  | join | count | find
  deriving DecidableEq
def Mt.name : Mt → Str
  | .join => "join" | .count => "count" | .find => "find"
/-- the operations -/
inductive P where
  | bin (op : Operator) | cmp (op : CmpOp) | neg | idx | sl (lo hi : Bool) | rv | fn (f : Fn) | isi (ts : List Str)
  deriving DecidableEq
/-! as the library's data -/
mutual
def toPy : D → Option PyData
  | .non => some .none
  | .bl b => some (.bool b)
  | .int i => some (.int i)
  | .str s => some (.str s)
  | .lst _ xs => (toPys xs).map .list
  | .tup xs => (toPys xs).map .tuple
  | .dic _ kvs => (toPyK kvs).map .dict
  | .scr _ => none
  | .obj _ _ => none
def toPys : List D → Option (List PyData)
  | [] => some []
  | d :: ds => match toPy d, toPys ds with
    | some x, some xs => some (x :: xs)
    | _, _ => none
def toPyK : List (Key × D) → Option (List (PyData × PyData))
  | [] => some []
  | (k, d) :: ds => match toPy d, toPyK ds with
    | some x, some xs => some ((match k with | .inl i => PyData.int i | .inr s => PyData.str s, x) :: xs)
    | _, _ => none
end
def flatD : D → Bool
  | .non => true | .bl _ => true | .int _ => true | .str _ => true | _ => false
/-- == of flat data -/
def eqF : D → D → Bool
  | .non, .non => true
  | .bl a, .bl b => a == b
  | .bl a, .int j => (if a then 1 else 0) == j
  | .int i, .bl b => i == (if b then 1 else 0)
  | .int i, .int j => i == j
  | .str x, .str y => decide (x = y)
  | _, _ => false
def inF (x : D) (ys : List D) : Bool := ys.any fun y => eqF y x
def keyD : D → Option Key
  | .int i => some (.inl i)
  | .str s => some (.inr s)
  | _ => none
def Key.d : Key → D
  | .inl i => .int i
  | .inr s => .str s
def getK (kvs : List (Key × D)) (k : Key) : Option D := (kvs.find? fun p => decide (p.1 = k)).map (·.2)
def setK (k : Key) (d : D) (kvs : List (Key × D)) : List (Key × D) :=
  if (kvs.any fun kv => decide (kv.1 = k)) = true then kvs.map (fun kv => if kv.1 = k then (kv.1, d) else kv) else kvs ++ [(k, d)]
def mi (i : Int) : M R := .ok (.sh (.int i))
def mb (b : Bool) : M R := .ok (.sh (.bl b))
def ms (s : Str) : M R := .ok (.sh (.str s))
def ml (xs : List D) : M R := .ok (.ow (.lst none xs))
def mopt : Option D → M R
  | some d => .ok (.sh d)
  | none => .no
def small (i : Int) : Bool := decide (-(2 ^ 64) < i ∧ i < 2 ^ 64)
def strRep (s : Str) (n : Nat) : Str := ⟨(List.replicate n s.cps.toList).flatten.toArray⟩
def semBin : Operator → D → D → M R
  | .Add, .int i, .int j => mi (i + j)
  | .Add, .str a, .str b => if a.length + b.length ≤ LIM then ms (a ++ b) else .no
  | .Add, .lst _ xs, .lst _ ys => if xs.length + ys.length ≤ LIM then ml (xs ++ ys) else .no
  | .Sub, .int i, .int j => mi (i - j)
  | .Mult, .int i, .int j => if small i || small j then mi (i * j) else .no
  | .Mult, .lst _ xs, .int j => if -1000000 ≤ j ∧ j ≤ 1000000 ∧ xs.length * j.toNat ≤ LIM then ml (List.replicate j.toNat xs).flatten else .no
  | .Mult, .str s, .int j => if -1000000 ≤ j ∧ j ≤ 1000000 ∧ s.length * j.toNat ≤ LIM then ms (strRep s j.toNat) else .no
  | .FloorDiv, .int i, .int j => if 0 < j ∧ j < 1073741824 then mi (i / j) else .no
  | .Mod, .int i, .int j => if 0 < j then mi (i % j) else .no
  | .Pow, .int i, .int j => if 0 ≤ j ∧ j ≤ 1000000 ∧ i.natAbs < 2 ^ 64 then mi (i ^ j.toNat) else .no
  | _, _, _ => .no
def eqDeep (a b : D) : Option Bool := match toPy a, toPy b with
  | some x, some y => if SeqAt.shaped x && SeqAt.shaped y then some (PyData.eqv x y) else none
  | _, _ => none
def eqD : D → D → Option Bool
  | .int i, .int j => some (decide (i = j))
  | .str x, .str y => some (decide (x = y))
  | .bl x, .bl y => some (decide (x = y))
  | .non, .non => some true
  | .non, .int _ => some false | .int _, .non => some false | .non, .bl _ => some false | .bl _, .non => some false | .non, .str _ => some false | .str _, .non => some false
  | .int _, .str _ => some false | .str _, .int _ => some false | .bl _, .str _ => some false | .str _, .bl _ => some false
  | a, b => eqDeep a b
def signIn (x z : Str) : Option Bool := match x.cps.toList with
  | [c] => some (decide (c ∈ z.cps.toList))
  | _ => none
def semIn (x y : D) : Option Bool := match y with
  | .str z => (match x with
    | .str s => signIn s z
    | _ => none)
  | .lst _ ys => if flatD x && ys.all flatD then some (inF x ys) else none
  | .tup ys => if flatD x && ys.all flatD then some (inF x ys) else none
  | .dic _ kvs => (keyD x).map fun k => (getK kvs k).isSome
  | _ => none
def mbo (o : Option Bool) : M R := match o with
  | some b => mb b
  | none => .no
def isNon : D → Bool
  | .non => true
  | _ => false
def semCmp : CmpOp → D → D → M R
  | .Lt, .int i, .int j => mb (decide (i < j))
  | .LtE, .int i, .int j => mb (decide (i ≤ j))
  | .Gt, .int i, .int j => mb (decide (j < i))
  | .GtE, .int i, .int j => mb (decide (j ≤ i))
  | .Eq, a, b => mbo (eqD a b)
  | .NotEq, a, b => mbo ((eqD a b).map (!·))
  | .In, a, b => mbo (semIn a b)
  | .NotIn, a, b => mbo ((semIn a b).map (!·))
  | .Is, .bl a, .bl b => mb (decide (a = b))
  | .Is, a, .non => mb (isNon a)
  | .IsNot, a, .non => mb (!isNon a)
  | _, _, _ => .no
def oneStr (s : Str) (i : Int) : Option D := (atI s.cps.toList i).map fun c => .str ⟨#[c]⟩
def semIdx : D → D → M R
  | .lst _ xs, .int i => mopt (atI xs i)
  | .scr ns, .int i => mopt ((atI ns i).map .int)
  | .tup xs, .int i => mopt (atI xs i)
  | .str s, .int i => if s.length ≤ LIM then mopt (oneStr s i) else .no
  | .dic _ kvs, k => (match keyD k with
    | some k => mopt (getK kvs k)
    | none => .no)
  | _, _ => .no
def cutD (xs : List D) (lo hi : Option Int) : List D := (xs.drop (HT.sIx xs.length 0 lo)).take (HT.sIx xs.length xs.length hi - HT.sIx xs.length 0 lo)
def semSl (d : D) (lo hi : Option Int) : M R := match d with
  | .lst _ xs => ml (cutD xs lo hi)
  | .str s => if s.length ≤ LIM then ms (cutS s lo hi) else .no
  | _ => .no
def strsOf : List D → Option (List Str)
  | [] => some []
  | .str s :: r => (strsOf r).map (s :: ·)
  | _ :: _ => none
def intsOf : List D → Option (List Int)
  | [] => some []
  | .int s :: r => (intsOf r).map (s :: ·)
  | _ :: _ => none
def blsOf : List D → Option (List Bool)
  | [] => some []
  | .bl s :: r => (blsOf r).map (s :: ·)
  | _ :: _ => none
def semLen : List D → M R
  | [.str s] => if s.length ≤ LIM then mi s.length else .no
  | [.lst _ xs] => mi xs.length
  | [.scr ns] => mi ns.length
  | [.tup xs] => mi xs.length
  | _ => .no
def semInt : List D → M R
  | [.int i] => mi i
  | [.bl b] => mi (if b then 1 else 0)
  | [.str s] => (match PySem.intText? s with
    | some n => if s.length ≤ 640 then mi n else .no
    | none => .no)
  | _ => .no
def semStr : List D → M R
  | [.int i] => if i.natAbs.log2 < 1920 then ms (toString i) else .no
  | _ => .no
def semAll : List D → M R
  | [.lst _ xs] => (match blsOf xs with
    | some bs => mb (bs.all id)
    | none => .no)
  | _ => .no
def semAny : List D → M R
  | [.lst _ xs] => (match blsOf xs with
    | some bs => mb (bs.any id)
    | none => .no)
  | _ => .no
def semSum : List D → M R
  | [.lst _ xs] => (match intsOf xs with
    | some is => mi is.sum
    | none => .no)
  | _ => .no
def semMax2 : List D → M R
  | [.int i, .int j] => mi (if j > i then j else i)
  | _ => .no
def semMin2 : List D → M R
  | [.int i, .int j] => mi (if j < i then j else i)
  | _ => .no
def semList : List D → M R
  | [.lst _ xs] => ml xs
  | [.tup xs] => ml xs
  | _ => .no
def semRepr : List D → M R
  | [d] => (match toPy d with
    | some x => if x.canLay0 && (x.showable && (decide (x.depth ≤ 40) && decide (x.shown.length ≤ LIM))) then ms x.shown else .no
    | none => .no)
  | _ => .no
def semFn : Fn → List D → M R
  | .len, ds => semLen ds | .int, ds => semInt ds | .str, ds => semStr ds | .all, ds => semAll ds | .any, ds => semAny ds | .sum, ds => semSum ds
  | .max2, ds => semMax2 ds | .min2, ds => semMin2 ds | .list, ds => semList ds | .repr, ds => semRepr ds
/-- the receiver is of the method's type -/
def Mt.okD : Mt → D → Bool
  | .join, .str _ => true | .count, .str _ => true | .find, .str _ => true
  | _, _ => false
def semJoin : List D → M R
  | [.str z, .lst _ xs] => (match strsOf xs with
    | some ss => if (ss.map (·.length)).sum + ss.length * z.length ≤ LIM then ms (Txt.join z ss) else .no
    | none => .no)
  | _ => .no
def semCount : List D → M R
  | [.str a, .str b] => mi (Txt.count a b)
  | _ => .no
def semFind : List D → M R
  | [.str a, .str b] => mi (Txt.find a b)
  | _ => .no
def semMt : Mt → List D → M R
  | .join, ds => semJoin ds | .count, ds => semCount ds | .find, ds => semFind ds
/-- isinstance with built-in types, by their names -/
def tyD : D → Str
  | .non => "NoneType" | .bl _ => "bool" | .int _ => "int" | .str _ => "str" | .scr _ => "list" | .lst _ _ => "list" | .tup _ => "tuple" | .dic _ _ => "dict" | .obj C _ => C
def isObj : D → Bool
  | .obj _ _ => true
  | _ => false
def isOfS (ts : List Str) (n : Str) : Bool := decide (n ∈ ts) || (decide (n = "bool") && decide (("int" : Str) ∈ ts))
def isOf (ts : List Str) (d : D) : Bool := isOfS ts (tyD d)
def P.sem : P → List D → M R
  | .bin op, [a, b] => semBin op a b
  | .cmp op, [a, b] => semCmp op a b
  | .neg, [.int i] => mi (-i)
  | .idx, [a, b] => semIdx a b
  | .sl true true, [d, .int i, .int j] => semSl d (some i) (some j)
  | .sl true false, [d, .int i] => semSl d (some i) none
  | .sl false true, [d, .int j] => semSl d none (some j)
  | .rv, [.lst _ xs] => ml xs.reverse
  | .fn f, ds => semFn f ds
  | .isi ts, [d] => if isObj d then .no else mb (isOf ts d)
  | _, _ => .no
/-! ### terms, statements -/
inductive Tg where
  | nm (i : Nat) | tp (is : List Nat)
inductive T where
  | var (i : Nat) | mv (i : Nat) | lit (v : V) | glb (x : Str) (v : V)
  | nil | cons (e es : T)
  | prim (p : P) (es : T)
  | mth (m : Mt) (e es : T)
  | call (f : Str) (es : T)
  | lst (es : T) | tup (es : T) | dic (es : T)
  | and (a b : T) | or (a b : T) | one (a : T) | not (a : T) | ite (c a b : T)
  | chain (p q : CmpOp) (a b c : T)
  | comp (own : List (Str × Nat)) (elt : T) (tg : Tg) (src cond : T)
  | sval (e : T) | srng (es : T) | senum (e : T) | szip (es : T)
inductive S where
  | nil | seq (s r : S)
  | expr (e : T) | asg (i : Nat) (e : T) | unp (is : List Nat) (e : T) | par (i j : Nat) (es : T)
  | setx (i : Nat) (ix e : T) | app (i : Nat) (e : T) | ext (i : Nat) (e : T)
  | ifs (c : T) (a b : S) | for (tg : Tg) (src : T) (body : S) | while (n : Nat) (c : T) (body : S)
  | ret (e : T) | ret0 | brk | cont | dead
/-! ### evaluation -/
def dV : V → D
  | .bl b => .bl b
  | .int i => .int i
  | .str s => .str s
  | _ => .non
/-- the slots whose owners are lent by an argument list -/
def bkOf : T → List (Option Nat)
  | .cons (.mv i) es => some i :: bkOf es
  | .cons _ es => none :: bkOf es
  | _ => []
abbrev Sem1 := List R → M (R × List (Option R))
abbrev FT := Str → Option Sem1
def getS (env : En) (i : Nat) : M R := match env[i]? with
  | some (some r) => .ok r
  | _ => .no
def sh1 (r : R) : R := .sh r.d
def backs : List (Option R) → List (Option Nat) → En → En
  | some r :: rs, some i :: bk, env => backs rs bk (env.set i (some r))
  | _ :: rs, _ :: bk, env => backs rs bk env
  | _, _, env => env
def cmpOf : R → Bool × D
  | .sh d => (false, d)
  | .ow d => (true, d)
  | .tp cs => (false, .tup (cs.map (·.2)))
def noTp : R → Bool
  | .tp _ => false
  | _ => true
/-- an operation over a fresh tuple hands on flat answers alone -/
def okRes (rs : List R) (r : R) : Bool := rs.all noTp || flatD r.d
def one1 (m : M (List R × En)) : M (R × En) := m.bind fun (rs, env) => match rs with
  | [r] => .ok (r, env)
  | _ => .no
def asB : R → M Bool
  | .sh (.bl b) => .ok b
  | _ => .no
def wipeE (env : En) : List Nat → En
  | [] => env
  | v :: vs => (wipeE env vs).set v none
def shared : Option R → Option R
  | some (.sh d) => some (.sh d)
  | _ => none
def restore (own : List Nat) (env0 : En) (env : En) : En := own.foldl (fun e i => e.set i (shared (env0[i]?.join))) env
def setIs : List Nat → List D → En → M En
  | [], [], env => .ok env
  | i :: is, d :: ds, env => setIs is ds (env.set i (some (.sh d)))
  | _, _, _ => .no
def setT (tg : Tg) (d : D) (env : En) : M En := match tg with
  | .nm i => .ok (env.set i (some (.sh d)))
  | .tp is => (match d with
    | .tup ds => setIs is ds env
    | _ => .no)
def M.noex {α : Type} : M α → M α
  | .ok a => .ok a
  | _ => .no
def compL (f : D → En → M (Option D × En)) : List D → En → M (List D × En)
  | [], env => .ok ([], env)
  | x :: xs, env => (f x env).bind fun (o, env1) => (compL f xs env1).bind fun (ys, env2) => .ok (o.toList ++ ys, env2)
def strItems (s : Str) : List D := s.cps.toList.map fun c => .str ⟨#[c]⟩
def itemsOf : D → Option (List D)
  | .lst _ xs => some xs
  | .tup xs => some xs
  | .str s => some (strItems s)
  | _ => none
def lstOf : D → Option (List D)
  | .lst _ xs => some xs
  | _ => none
def enumOf : D → Option (List D)
  | .lst _ xs => some xs
  | .str s => some (strItems s)
  | _ => none
def enumD (xs : List D) : List D := xs.zipIdx.map fun p => .tup [.int p.2, p.1]
def zipD (xs ys : List D) : List D := (xs.zip ys).map fun p => .tup [p.1, p.2]
def rngD (lo hi : Int) : List D := (List.range (hi - lo).toNat).map fun (k : Nat) => .int (lo + (k : Int))
def srcR (xs : List D) (env : En) : M (List R × En) := if xs.length ≤ LIM then .ok ([.sh (.lst none xs)], env) else .no
/-- a comprehension's test -/
def condM : T → (En → M (List R × En)) → En → M (Bool × En)
  | .nil, _, env => .ok (true, env)
  | _, f, env => (one1 (f env)).bind fun (r, env1) => (asB r).bind fun t => .ok (t, env1)
def pairD : List D → Option (List (Key × D))
  | [] => some []
  | k :: v :: r => match keyD k, pairD r with
    | some n, some m => some ((n, v) :: m)
    | _, _ => none
  | _ => none
def mergeD (kvs more : List (Key × D)) : List (Key × D) := more.foldl (fun acc kv => setK kv.1 kv.2 acc) kvs
def ev (Φ : FT) : T → En → M (List R × En)
  | .var i, env => (getS env i).bind fun r => .ok ([sh1 r], env.set i (some (sh1 r)))
  | .mv i, env => (getS env i).bind fun r => .ok ([r], env.set i none)
  | .lit v, env => .ok ([.sh (dV v)], env)
  | .glb _ v, env => .ok ([.sh (dV v)], env)
  | .nil, env => .ok ([], env)
  | .cons e es, env => (one1 (ev Φ e env)).bind fun (r, env1) => (ev Φ es env1).bind fun (rs, env2) => .ok (r :: rs, env2)
  | .prim p es, env => (ev Φ es env).bind fun (rs, env1) => (p.sem (rs.map R.d)).bind fun r => if okRes rs r then .ok ([r], backs (rs.map some) (bkOf es) env1) else .no
  | .mth m e es, env => (one1 (ev Φ e env)).bind fun (r, env1) => if m.okD r.d then (ev Φ es env1).bind fun (rs, env2) => (semMt m (r.d :: rs.map R.d)).bind fun q => if okRes (r :: rs) q then .ok ([q], backs (some r :: rs.map some) (bkOf (.cons e es)) env2) else .no else .no
  | .call f es, env => match Φ f with
    | some g => (ev Φ es env).bind fun (rs, env1) => (g rs).bind fun (r, outs) => .ok ([r], backs outs (bkOf es) env1)
    | none => .no
  | .lst es, env => (ev Φ es env).bind fun (rs, env1) => .ok ([.ow (.lst none (rs.map R.d))], env1)
  | .dic es, env => (ev Φ es env).bind fun (rs, env1) => match pairD (rs.map R.d) with
    | some kvs => .ok ([.ow (.dic none (mergeD [] kvs))], env1)
    | none => .no
  | .tup es, env => (ev Φ es env).bind fun (rs, env1) => .ok ([.tp (rs.map cmpOf)], env1)
  | .one a, env => ev Φ a env
  | .and a b, env => (one1 (ev Φ a env)).bind fun (r, env1) => (asB r).bind fun t => if t then ev Φ b env1 else .ok ([.sh (.bl false)], env1)
  | .or a b, env => (one1 (ev Φ a env)).bind fun (r, env1) => (asB r).bind fun t => if t then .ok ([.sh (.bl true)], env1) else ev Φ b env1
  | .not a, env => (one1 (ev Φ a env)).bind fun (r, env1) => (asB r).bind fun t => .ok ([.sh (.bl (!t))], env1)
  | .ite c a b, env => (one1 (ev Φ c env)).bind fun (r, env1) => (asB r).bind fun t => if t then ev Φ a env1 else ev Φ b env1
  | .chain p q a b c, env => (one1 (ev Φ a env)).bind fun (ra, env1) => (one1 (ev Φ b env1)).bind fun (rb, env2) => (semCmp p ra.d rb.d).bind fun r => (asB r).bind fun t =>
    if t then (one1 (ev Φ c env2)).bind fun (rc, env3) => (semCmp q rb.d rc.d).bind fun r2 => .ok ([r2], env3) else .ok ([.sh (.bl false)], env2)
  | .comp own elt tg src cond, env => (one1 (ev Φ src env)).bind fun (r, env1) => match r with
    | .sh (.lst _ xs) => if xs.length ≤ LIM then (compL (fun x env => ((setT tg x env).bind fun env => (condM cond (ev Φ cond) env).bind fun (t, env) =>
        if t then (one1 (ev Φ elt env)).bind fun (y, env) => .ok (some y.d, wipeE env (own.map (·.2))) else .ok (none, wipeE env (own.map (·.2)))).noex) xs (wipeE env1 (own.map (·.2)))).bind fun (ys, env2) =>
          .ok ([.ow (.lst none ys)], restore (own.map (·.2)) env1 env2) else .no
    | _ => .no
  | .sval e, env => (one1 (ev Φ e env)).bind fun (r, env1) => match itemsOf r.d with
    | some xs => srcR xs env1
    | none => .no
  | .srng es, env => (ev Φ es env).bind fun (rs, env1) => match rs.map R.d with
    | [.int n] => if -LIM ≤ n ∧ n ≤ LIM then srcR (rngD 0 n) env1 else .no
    | [.int a, .int b] => if -LIM ≤ a ∧ a ≤ LIM ∧ -LIM ≤ b ∧ b ≤ LIM then srcR (rngD a b) env1 else .no
    | _ => .no
  | .senum e, env => (one1 (ev Φ e env)).bind fun (r, env1) => match enumOf r.d with
    | some xs => srcR (enumD xs) env1
    | none => .no
  | .szip es, env => (ev Φ es env).bind fun (rs, env1) => match rs.map R.d with
    | [a, b] => (match lstOf a, lstOf b with
      | some xs, some ys => srcR (zipD xs ys) env1
      | _, _ => .no)
    | _ => .no
inductive Out where
  | nx (env : En) | rt (r : R) (env : En) | bk (env : En) | ct (env : En)
def exL (step : D → En → M Out) : List D → En → M Out
  | [], env => .ok (.nx env)
  | x :: xs, env => (step x env).bind fun
    | .nx e => exL step xs e
    | .ct e => exL step xs e
    | .bk e => .ok (.nx e)
    | .rt r e => .ok (.rt r e)
def exW (c : En → M (Bool × En)) (b : En → M Out) : Nat → En → M Out
  | 0, _ => .no
  | n + 1, env => (c env).bind fun (t, e1) => if t then (b e1).bind fun
    | .nx e => exW c b n e
    | .ct e => exW c b n e
    | .bk e => .ok (.nx e)
    | .rt r e => .ok (.rt r e)
    else .ok (.nx e1)
def unR : R → Option (List R)
  | .sh (.tup ds) => some (ds.map .sh)
  | .tp cs => some (cs.map fun (b, d) => if b then .ow d else .sh d)
  | _ => none
def setRs : List Nat → List R → En → M En
  | [], [], env => .ok env
  | i :: is, r :: rs, env => setRs is rs (env.set i (some r))
  | _, _, _ => .no
/-- o[k] = d -/
def setO : R → D → D → Option R
  | .ow (.lst t xs), .int n, d => (ixN xs.length n).map fun j => .ow (.lst t (xs.set j d))
  | .ow (.dic t kvs), k, d => if kvs.length ≤ LIM then (keyD k).map fun n => .ow (.dic t (setK n d kvs)) else none
  | _, _, _ => none
def ex (Φ : FT) : S → En → M Out
  | .nil, env => .ok (.nx env)
  | .seq s r, env => (ex Φ s env).bind fun
    | .nx e => ex Φ r e
    | o => .ok o
  | .expr e, env => (one1 (ev Φ e env)).bind fun (_, env1) => .ok (.nx env1)
  | .asg i e, env => (one1 (ev Φ e env)).bind fun (r, env1) => .ok (.nx (env1.set i (some r)))
  | .unp is e, env => (one1 (ev Φ e env)).bind fun (r, env1) => match unR r with
    | some rs => (setRs is rs env1).bind fun env2 => .ok (.nx env2)
    | none => .no
  | .par i j es, env => (ev Φ es env).bind fun (rs, env1) => match rs with
    | [r, q] => .ok (.nx ((env1.set i (some r)).set j (some q)))
    | _ => .no
  | .setx i ix e, env => (one1 (ev Φ e env)).bind fun (r, env1) => (getS env1 i).bind fun o => (one1 (ev Φ ix (env1.set i none))).bind fun (k, env2) => match setO o k.d r.d with
    | some o' => .ok (.nx (env2.set i (some o')))
    | none => .no
  | .app i e, env => (getS env i).bind fun o => match o with
    | .ow (.lst t xs) => (one1 (ev Φ e (env.set i none))).bind fun (r, env1) => if xs.length ≤ LIM then .ok (.nx (env1.set i (some (.ow (.lst t (xs ++ [r.d])))))) else .no
    | _ => .no
  | .ext i e, env => (getS env i).bind fun o => match o with
    | .ow (.lst t xs) => (one1 (ev Φ e (env.set i none))).bind fun (r, env1) => (match r.d with
      | .lst _ ys => if xs.length + ys.length ≤ LIM then .ok (.nx (env1.set i (some (.ow (.lst t (xs ++ ys)))))) else .no
      | _ => .no)
    | _ => .no
  | .ifs c a b, env => (one1 (ev Φ c env)).bind fun (r, env1) => (asB r).bind fun t => if t then ex Φ a env1 else ex Φ b env1
  | .for tg src body, env => (one1 (ev Φ src env)).bind fun (r, env1) => match r with
    | .sh (.lst _ xs) => exL (fun x env => (setT tg x env).bind fun env => ex Φ body env) xs env1
    | _ => .no
  | .while n c body, env => exW (fun env => (one1 (ev Φ c env)).bind fun (r, env1) => (asB r).bind fun t => .ok (t, env1)) (ex Φ body) n env
  | .ret e, env => (one1 (ev Φ e env)).bind fun (r, env1) => .ok (.rt r env1)
  | .ret0, env => .ok (.rt (.sh .non) env)
  | .brk, env => .ok (.bk env)
  | .cont, env => .ok (.ct env)
  | .dead, _ => .no
/-- a def -/
def outsOf (io : List Nat) (n : Nat) (env : En) : List (Option R) := (List.range n).map fun j => if j ∈ io then env[j]?.join else none
def runF (Φ : FT) (n : Nat) (io : List Nat) (body : S) : Sem1 := fun rs => (ex Φ body (rs.map some ++ List.replicate (n - rs.length) none)).bind fun
  | .rt r env => .ok (r, outsOf io rs.length env)
  | .nx env => .ok (.sh .non, outsOf io rs.length env)
  | _ => .no
end FH
set_option Elab.async false
set_option linter.all false
set_option maxRecDepth 100000
set_option maxHeartbeats 2000000
namespace FH
open PySem PySem.Spec PyProof.Rows L2
/-! ### steps that leave the temporaries below k alone -/
def Pk (k : Nat) (O : Own) (a : Addr) : Prop := (∀ i c, O a ≠ some (.s i c)) ∧ ∀ j c, O a = some (.t j c) → j < k
structure Stp (k : Nat) (F : Hp) (O : Own) (H F' : Hp) (O' : Own) (H' : Hp) : Prop where
  ext : Sub F F'
  keep : ∀ a o, H a = some o → Pk k O a → H' a = some o
  lab : ∀ a o, H a = some o → Pk k O a → O' a = O a
  frz : ∀ a o, H a = some o → Pk k O a → F a = none → F' a = none
  dom : ∀ a o, H a = some o → ∃ o', H' a = some o'
theorem Stp.refl (k : Nat) (F : Hp) (O : Own) (H : Hp) : Stp k F O H F O H := ⟨Sub.refl _, fun _ _ h _ => h, fun _ _ _ _ => rfl, fun _ _ _ _ h => h, fun _ o h => ⟨o, h⟩⟩
theorem Pk.mono {k j : Nat} {O : Own} {a : Addr} (h : Pk k O a) (e : k ≤ j) : Pk j O a := ⟨h.1, fun i c z => Nat.lt_of_lt_of_le (h.2 i c z) e⟩
theorem Stp.mono {k j : Nat} {F H F' H' : Hp} {O O' : Own} (h : Stp j F O H F' O' H') (e : k ≤ j) : Stp k F O H F' O' H' :=
  ⟨h.ext, fun a o q p => h.keep a o q (p.mono e), fun a o q p => h.lab a o q (p.mono e), fun a o q p => h.frz a o q (p.mono e), h.dom⟩
theorem Stp.trans {k : Nat} {F F1 F2 H H1 H2 : Hp} {O O1 O2 : Own} (a : Stp k F O H F1 O1 H1) (b : Stp k F1 O1 H1 F2 O2 H2) : Stp k F O H F2 O2 H2 := by
  have pr : ∀ x o, H x = some o → Pk k O x → Pk k O1 x := fun x o h p => by
    have e := a.lab x o h p
    exact ⟨fun i c z => p.1 i c (by rw [← e]; exact z), fun j c z => p.2 j c (by rw [← e]; exact z)⟩
  exact ⟨a.ext.trans b.ext, fun x o h p => b.keep x o (a.keep x o h p) (pr x o h p), fun x o h p => (b.lab x o (a.keep x o h p) (pr x o h p)).trans (a.lab x o h p),
    fun x o h p n => b.frz x o (a.keep x o h p) (pr x o h p) (a.frz x o h p n), fun x o h => let ⟨o1, e⟩ := a.dom x o h; b.dom x o1 e⟩
theorem Stp.fresh {k : Nat} {F F1 H H1 : Hp} {O O1 : Own} (a : Stp k F O H F1 O1 H1) {p : Addr} (h : H1 p = none) : H p = none := by
  cases q : H p with
  | none => rfl
  | some o =>
    obtain ⟨o', e⟩ := a.dom p o q
    rw [h] at e; cases e
/-- the three facts of a state without its slots -/
structure Bs (F : Hp) (O : Own) (H : Hp) : Prop where
  sub : Sub F H
  dis : ∀ a l, O a = some l → F a = none
  own : ∀ a l, O a = some l → ∃ o, H a = some o
theorem AE.bs {ca : Cs} {F H : Hp} {O : Own} {env : En} {σ : L2.St} (h : AE ca F O env σ H) : Bs F O H := ⟨h.sub, h.dis, h.own⟩
theorem Bs.ae {ca : Cs} {F H : Hp} {O : Own} {env : En} {σ : L2.St} (b : Bs F O H) (h : ∀ i r, env[i]? = some (some r) → ∃ v, σ[i]? = some (some v) ∧ RepR ca F H O (.s i) r v) : AE ca F O env σ H := ⟨b.sub, b.dis, b.own, h⟩
/-! ### owners mapped: some (some l') relabels, some none lets go, none freezes -/
abbrev Act := Lab → Option (Option Lab)
def mO (φ : Act) (O : Own) : Own := fun a => match O a with
  | some l => (match φ l with
    | some (some l') => some l'
    | _ => none)
  | none => none
def mF (φ : Act) (O : Own) (F H : Hp) : Hp := fun a => match O a with
  | some l => (match φ l with
    | none => H a
    | some _ => F a)
  | none => F a
section
variable {ca : Cs} {φ : Act} {F H : Hp} {O : Own}
theorem mO_some {a : Addr} {l l' : Lab} (h : O a = some l) (e : φ l = some (some l')) : mO φ O a = some l' := by unfold mO; rw [h]; simp only [e]
theorem mO_inv {a : Addr} {l' : Lab} (h : mO φ O a = some l') : ∃ l, O a = some l ∧ φ l = some (some l') := by
  unfold mO at h
  cases e : O a with
  | none => rw [e] at h; cases h
  | some l =>
    rw [e] at h
    simp only at h
    cases q : φ l with
    | none => rw [q] at h; cases h
    | some x =>
      rw [q] at h
      cases x with
      | none => cases h
      | some y => exact ⟨l, rfl, by rw [q]; exact congrArg some h⟩
theorem mO_none {a : Addr} (h : O a = none) : mO φ O a = none := by unfold mO; rw [h]
theorem mF_none {a : Addr} (h : O a = none) : mF φ O F H a = F a := by unfold mF; rw [h]
theorem mF_frz {a : Addr} {l : Lab} (h : O a = some l) (e : φ l = none) : mF φ O F H a = H a := by unfold mF; rw [h]; simp only [e]
theorem mF_keep {a : Addr} {l : Lab} {x : Option Lab} (h : O a = some l) (e : φ l = some x) : mF φ O F H a = F a := by unfold mF; rw [h]; simp only [e]
theorem Bs.map (b : Bs F O H) (φ : Act) : Bs (mF φ O F H) (mO φ O) H := by
  refine ⟨fun a o h => ?_, fun a l h => ?_, fun a l h => ?_⟩
  · cases e : O a with
    | none => rw [mF_none e] at h; exact b.sub a o h
    | some l =>
      cases q : φ l with
      | none => rw [mF_frz e q] at h; exact h
      | some x => rw [mF_keep e q] at h; exact b.sub a o h
  · obtain ⟨l0, h1, h2⟩ := mO_inv h
    rw [mF_keep h1 h2]
    exact b.dis a l0 h1
  · obtain ⟨l0, h1, _⟩ := mO_inv h
    exact b.own a l0 h1
theorem Bs.mapSub (b : Bs F O H) (φ : Act) : Sub F (mF φ O F H) := fun a o h => by
  cases e : O a with
  | none => rw [mF_none e]; exact h
  | some l => rw [b.dis a l e] at h; cases h
/-- what is below k stays -/
def Low (k : Nat) (φ : Act) : Prop := ∀ j c, j < k → φ (.t j c) = some (some (.t j c))
theorem Bs.stp (b : Bs F O H) {k : Nat} (h : Low k φ) : Stp k F O H (mF φ O F H) (mO φ O) H := by
  have key : ∀ a l, Pk k O a → O a = some l → φ l = some (some l) := fun a l p e => by
    cases l with
    | s i c => exact absurd e (p.1 i c)
    | t j c => exact h j c (p.2 j c e)
  refine ⟨b.mapSub φ, fun a o q _ => q, fun a o q p => ?_, fun a o q p n => ?_, fun a o q => ⟨o, q⟩⟩
  · cases e : O a with
    | none => exact mO_none e
    | some l => exact mO_some e (key a l p e)
  · cases e : O a with
    | none => rw [mF_none e]; exact n
    | some l => rw [mF_keep e (key a l p e)]; exact n
theorem RepO.map {l l' : Lab} {d : D} {v : V} (h : RepO ca F H O l d v) (b : Bs F O H) (e : φ l = some (some l')) : RepO ca (mF φ O F H) H (mO φ O) l' d v := by
  cases d with
  | lst t xs =>
    obtain ⟨a, vs, h1, h2, h3, h4, h5⟩ := h
    exact ⟨a, vs, h1, h2, mO_some h3 e, h4, Reps.mono (b.mapSub φ) _ _ h5⟩
  | dic t xs =>
    obtain ⟨a, vs, h1, h2, h3, h4, h5⟩ := h
    exact ⟨a, vs, h1, h2, mO_some h3 e, h4, RepK.mono (b.mapSub φ) _ _ h5⟩
  | _ => exact Rep.mono (b.mapSub φ) _ _ h
theorem RepO.frz {l : Lab} {d : D} {v : V} (h : RepO ca F H O l d v) (b : Bs F O H) (e : φ l = none) : Rep ca (mF φ O F H) d v := by
  cases d with
  | lst t xs =>
    obtain ⟨a, vs, h1, h2, h3, h4, h5⟩ := h
    unfold Rep
    exact ⟨a, vs, h1, (by rw [mF_frz h3 e]; exact h2), h4, Reps.mono (b.mapSub φ) _ _ h5⟩
  | dic t xs =>
    obtain ⟨a, vs, h1, h2, h3, h4, h5⟩ := h
    unfold Rep
    exact ⟨a, vs, h1, (by rw [mF_frz h3 e]; exact h2), h4, RepK.mono (b.mapSub φ) _ _ h5⟩
  | _ => exact Rep.mono (b.mapSub φ) _ _ h
theorem RepC.map {L L' : Nat → Lab} (b : Bs F O H) (e : ∀ c, φ (L c) = some (some (L' c))) : ∀ {cs : List (Bool × D)} {c : Nat} {vs : List V}, RepC ca F H O L c cs vs → RepC ca (mF φ O F H) H (mO φ O) L' c cs vs
  | [], c, vs, h => by unfold RepC at h ⊢; exact h
  | (true, d) :: r, c, vs, h => by
    unfold RepC at h ⊢
    obtain ⟨v, w, h1, h2, h3⟩ := h
    exact ⟨v, w, h1, h2.map b (e c), RepC.map b e h3⟩
  | (false, d) :: r, c, vs, h => by
    unfold RepC at h ⊢
    obtain ⟨v, w, h1, h2, h3⟩ := h
    exact ⟨v, w, h1, Rep.mono (b.mapSub φ) _ _ h2, RepC.map b e h3⟩
theorem RepC.frz {L : Nat → Lab} (b : Bs F O H) : ∀ {cs : List (Bool × D)} {c : Nat} {vs : List V}, (∀ j, c ≤ j → φ (L j) = none) → RepC ca F H O L c cs vs → Reps ca (mF φ O F H) (cs.map (·.2)) vs
  | [], c, vs, e, h => by unfold RepC at h; subst h; exact .nil
  | (true, d) :: r, c, vs, e, h => by
    unfold RepC at h
    obtain ⟨v, w, h1, h2, h3⟩ := h
    subst h1
    exact .cons (h2.frz b (e c (Nat.le_refl _))) (RepC.frz b (fun j hj => e j (Nat.le_of_succ_le hj)) h3)
  | (false, d) :: r, c, vs, e, h => by
    unfold RepC at h
    obtain ⟨v, w, h1, h2, h3⟩ := h
    subst h1
    exact .cons (Rep.mono (b.mapSub φ) _ _ h2) (RepC.frz b (fun j hj => e j (Nat.le_of_succ_le hj)) h3)
theorem RepR.map {L L' : Nat → Lab} {r : R} {v : V} (h : RepR ca F H O L r v) (b : Bs F O H) (e : ∀ c, φ (L c) = some (some (L' c))) : RepR ca (mF φ O F H) H (mO φ O) L' r v := by
  cases r with
  | sh d => exact Rep.mono (b.mapSub φ) _ _ h
  | ow d => exact RepO.map h b (e 0)
  | tp cs =>
    obtain ⟨a, vs, h1, h2, h3⟩ := h
    exact ⟨a, vs, h1, b.mapSub φ _ _ h2, h3.map b e⟩
theorem RepR.frz {L : Nat → Lab} {r : R} {v : V} (h : RepR ca F H O L r v) (b : Bs F O H) (e : ∀ c, φ (L c) = none) : Rep ca (mF φ O F H) r.d v := by
  cases r with
  | sh d => exact Rep.mono (b.mapSub φ) _ _ h
  | ow d => exact RepO.frz h b (e 0)
  | tp cs =>
    obtain ⟨a, vs, h1, h2, h3⟩ := h
    show Rep ca _ (.tup _) v
    unfold Rep
    exact ⟨a, vs, h1, b.mapSub φ _ _ h2, h3.frz b fun j _ => e j⟩
/-- the slots behind a map that leaves them -/
theorem AE.map {env : En} {σ : L2.St} (h : AE ca F O env σ H) (φ : Act) (e : ∀ i r c, env[i]? = some (some r) → φ (.s i c) = some (some (.s i c))) : AE ca (mF φ O F H) (mO φ O) env σ H :=
  (h.bs.map φ).ae fun i r q => let ⟨v, h1, h2⟩ := h.slot i r q; ⟨v, h1, h2.map h.bs fun c => e i r c q⟩
end
/-! ### results in a row -/
def RepRs (ca : Cs) (F H : Hp) (O : Own) (L : Nat → Nat → Lab) : Nat → List R → List V → Prop
  | _, [], vs => vs = []
  | k, r :: rs, vs => ∃ v w, vs = v :: w ∧ RepR ca F H O (L k) r v ∧ RepRs ca F H O L (k + 1) rs w
section
variable {ca : Cs} {φ : Act} {F F' H H' : Hp} {O O' : Own} {L L' : Nat → Nat → Lab}
theorem RepRs.length : ∀ {rs : List R} {k : Nat} {vs : List V}, RepRs ca F H O L k rs vs → vs.length = rs.length
  | [], k, vs, h => by unfold RepRs at h; subst h; rfl
  | r :: rs, k, vs, h => by
    unfold RepRs at h
    obtain ⟨v, w, h1, h2, h3⟩ := h
    subst h1
    rw [List.length_cons, List.length_cons, RepRs.length h3]
theorem RepRs.get : ∀ {rs : List R} {k : Nat} {vs : List V} {j : Nat} {r : R}, RepRs ca F H O L k rs vs → rs[j]? = some r → ∃ v, vs[j]? = some v ∧ RepR ca F H O (L (k + j)) r v
  | [], k, vs, j, r, h, e => by simp at e
  | r :: rs, k, vs, 0, r', h, e => by
    unfold RepRs at h
    obtain ⟨v, w, h1, h2, h3⟩ := h
    subst h1
    simp at e
    subst e
    exact ⟨v, rfl, h2⟩
  | r :: rs, k, vs, j + 1, r', h, e => by
    unfold RepRs at h
    obtain ⟨v, w, h1, h2, h3⟩ := h
    subst h1
    obtain ⟨v', e1, e2⟩ := RepRs.get (j := j) (r := r') h3 (by simpa using e)
    exact ⟨v', by simpa using e1, by rw [show k + (j + 1) = k + 1 + j by omega]; exact e2⟩
theorem RepRs.map (b : Bs F O H) : ∀ {rs : List R} {k m : Nat} {vs : List V}, (∀ j c, k ≤ j → φ (L j c) = some (some (L' (j - k + m) c))) → RepRs ca F H O L k rs vs → RepRs ca (mF φ O F H) H (mO φ O) L' m rs vs
  | [], k, m, vs, e, h => by unfold RepRs at h ⊢; exact h
  | r :: rs, k, m, vs, e, h => by
    unfold RepRs at h ⊢
    obtain ⟨v, w, h1, h2, h3⟩ := h
    refine ⟨v, w, h1, h2.map b fun c => ?_, RepRs.map b (fun j c hj => ?_) h3⟩
    · have := e k c (Nat.le_refl _)
      rw [show k - k + m = m by omega] at this
      exact this
    · have := e j c (by omega)
      rw [show j - k + m = j - (k + 1) + (m + 1) by omega] at this
      exact this
theorem RepRs.frz (b : Bs F O H) : ∀ {rs : List R} {k : Nat} {vs : List V}, (∀ j c, k ≤ j → φ (L j c) = none) → RepRs ca F H O L k rs vs → Reps ca (mF φ O F H) (rs.map R.d) vs
  | [], k, vs, e, h => by unfold RepRs at h; subst h; exact .nil
  | r :: rs, k, vs, e, h => by
    unfold RepRs at h
    obtain ⟨v, w, h1, h2, h3⟩ := h
    subst h1
    exact .cons (h2.frz b fun c => e k c (Nat.le_refl _)) (RepRs.frz b (fun j c hj => e j c (by omega)) h3)
theorem RepRs.mono : ∀ {rs : List R} {k : Nat} {vs : List V}, RepRs ca F H O L k rs vs → Sub F F' → (∀ j c a o, k ≤ j → O a = some (L j c) → H a = some o → H' a = some o ∧ O' a = some (L j c)) → RepRs ca F' H' O' L k rs vs
  | [], k, vs, h, e, q => by unfold RepRs at h ⊢; exact h
  | r :: rs, k, vs, h, e, q => by
    unfold RepRs at h ⊢
    obtain ⟨v, w, h1, h2, h3⟩ := h
    exact ⟨v, w, h1, h2.mono e fun c a o => q k c a o (Nat.le_refl _), RepRs.mono h3 e fun j c a o hj => q j c a o (by omega)⟩
/-- a temporary behind a step that stands above it -/
theorem RepR.stp {k j : Nat} {r : R} {v : V} (h : RepR ca F H O (.t j) r v) (st : Stp k F O H F' O' H') (hj : j < k) : RepR ca F' H' O' (.t j) r v :=
  h.mono st.ext fun c a o e q => by
    have p : Pk k O a := by
      constructor
      · intro i c' z
        rw [e] at z
        cases z
      · intro i c' z
        rw [e] at z
        cases z
        exact hj
    exact ⟨st.keep a o q p, by rw [st.lab a o q p]; exact e⟩
end
/-! ### a new root -/
def newO (O : Own) (p : Addr) (l : Lab) : Own := fun a => if a = p then some l else O a
section
variable {ca : Cs} {F H : Hp} {O : Own} {p : Addr} {o : HO} {l : Lab}
theorem newO_same : newO O p l p = some l := if_pos rfl
theorem newO_ne {a : Addr} (h : a ≠ p) : newO O p l a = O a := if_neg h
theorem Bs.fr (b : Bs F O H) (h : H p = none) : F p = none ∧ O p = none := by
  constructor
  · cases e : F p with
    | none => rfl
    | some o => rw [b.sub p o e] at h; cases h
  · cases e : O p with
    | none => rfl
    | some l =>
      obtain ⟨o, q⟩ := b.own p l e
      rw [h] at q; cases q
/-- owned -/
theorem Bs.nO (b : Bs F O H) (h : H p = none) : Bs F (newO O p l) (upd H p o) := by
  obtain ⟨n1, n2⟩ := b.fr h
  refine ⟨fun a u e => ?_, fun a m e => ?_, fun a m e => ?_⟩
  · rw [upd_ne (fun z => by subst z; rw [n1] at e; cases e)]
    exact b.sub a u e
  · by_cases ha : a = p
    · subst ha; exact n1
    · rw [newO_ne ha] at e; exact b.dis a m e
  · by_cases ha : a = p
    · subst ha; exact ⟨_, upd_same⟩
    · rw [newO_ne ha] at e
      rw [upd_ne ha]
      exact b.own a m e
theorem Bs.nO_stp (b : Bs F O H) (h : H p = none) (k : Nat) : Stp k F O H F (newO O p l) (upd H p o) := by
  have ne : ∀ {a : Addr} {u : HO}, H a = some u → a ≠ p := fun {a u} e z => by subst z; rw [h] at e; cases e
  exact ⟨Sub.refl _, fun a u e _ => by rw [upd_ne (ne e)]; exact e, fun a u e _ => newO_ne (ne e), fun _ _ _ _ z => z, fun a u e => ⟨u, by rw [upd_ne (ne e)]; exact e⟩⟩
/-- frozen at once -/
theorem Bs.nF (b : Bs F O H) (h : H p = none) : Bs (upd F p o) O (upd H p o) := by
  obtain ⟨n1, n2⟩ := b.fr h
  refine ⟨fun a u e => ?_, fun a m e => ?_, fun a m e => ?_⟩
  · by_cases ha : a = p
    · subst ha; rw [upd_same] at e ⊢; exact e
    · rw [upd_ne ha] at e ⊢; exact b.sub a u e
  · have ha : a ≠ p := fun z => by subst z; rw [n2] at e; cases e
    rw [upd_ne ha]; exact b.dis a m e
  · have ha : a ≠ p := fun z => by subst z; rw [n2] at e; cases e
    rw [upd_ne ha]; exact b.own a m e
theorem Bs.nF_sub (b : Bs F O H) (h : H p = none) : Sub F (upd F p o) := fun a u e => by
  rw [upd_ne (fun z => by subst z; rw [(b.fr h).1] at e; cases e)]; exact e
theorem Bs.nF_stp (b : Bs F O H) (h : H p = none) (k : Nat) : Stp k F O H (upd F p o) O (upd H p o) := by
  have ne : ∀ {a : Addr} {u : HO}, H a = some u → a ≠ p := fun {a u} e z => by subst z; rw [h] at e; cases e
  exact ⟨b.nF_sub h, fun a u e _ => by rw [upd_ne (ne e)]; exact e, fun a u e _ => rfl, fun a u e _ z => by rw [upd_ne (ne e)]; exact z, fun a u e => ⟨u, by rw [upd_ne (ne e)]; exact e⟩⟩
/-- what stood stands behind a heap that only grew -/
theorem RepR.grow {F' H' : Hp} {O' : Own} {L : Nat → Lab} {r : R} {v : V} (h : RepR ca F H O L r v) (e : Sub F F') (k : Sub H H') (q : ∀ a m, O a = some m → O' a = some m) : RepR ca F' H' O' L r v :=
  h.mono e fun c a o z y => ⟨k a o y, q a _ z⟩
theorem AE.grow {F' H' : Hp} {O' : Own} {env : En} {σ : L2.St} (h : AE ca F O env σ H) (b : Bs F' O' H') (e : Sub F F') (k : Sub H H') (q : ∀ a m, O a = some m → O' a = some m) : AE ca F' O' env σ H' :=
  b.ae fun i r z => let ⟨v, h1, h2⟩ := h.slot i r z; ⟨v, h1, h2.grow e k q⟩
theorem sub_upd (h : H p = none) : Sub H (upd H p o) := fun a u e => by
  rw [upd_ne (fun z => by subst z; rw [h] at e; cases e)]; exact e
theorem newO_keep (h : O p = none) : ∀ a m, O a = some m → newO O p l a = some m := fun a m e => by
  rw [newO_ne (fun z => by subst z; rw [h] at e; cases e)]; exact e
end
end FH
set_option Elab.async false
set_option linter.all false
set_option maxRecDepth 100000
set_option maxHeartbeats 2000000
namespace FH
open PySem PySem.Spec PyProof.Rows L2
structure MC where
  N : List Str
  sc : Scope
  fn : Str → Bool
  gs : List (Str × V)
def gl (c : MC) (x : Str) : Bool := decide (c.sc.names.lookup x = some .globalImplicit) && !(x == "__debug__") && decide (x ≠ "__name__")
def visN (c : MC) (i : Nat) (x : Str) : Bool := decide (c.N[i]? = some x) && !(x == "__debug__") && !(x == "__classdict__") && (match c.sc.names.lookup x with
  | some .local => true | some .cell => true | some .free => true | _ => false)
def locN (c : MC) (i : Nat) (x : Str) : Bool := decide (c.N[i]? = some x) && (match c.sc.names.lookup x with
  | some .local => true | some .cell => c.fn x | _ => false)
def okV : V → Bool
  | .non => true | .bl _ => true | .int _ => true | .str _ => true | _ => false
/-- the forms of expressions that we meet -/
def plain : Expr → Bool
  | .Name _ _ => true | .Constant _ _ _ => true | .BinOp _ _ _ _ => true | .Compare _ _ _ _ => true | .BoolOp _ _ _ => true | .UnaryOp _ _ _ => true
  | .Call (.Name id _) _ _ _ => !(id == "super") | .Call (.Attribute _ _ _) _ _ _ => true
  | .Attribute _ _ _ => true | .Subscript _ _ _ => true | .List _ _ => true | .Tuple _ _ _ => true | .Dict _ _ _ => true | .IfExp _ _ _ _ => true | .ListComp _ _ _ _ => true
  | _ => false
/-- built-in types that are asked for -/
def okTy (y : Str) : Bool := decide (y ∈ (["int", "str", "bool", "list", "tuple", "dict"] : List Str))
/-- an operation: the expressions of its operands -/
def mP (c : MC) : P → Expr → Option (List Expr)
  | .bin op, .BinOp a o b _ => if o = op then some [a, b] else none
  | .cmp op, .Compare a [o] [b] _ => if o = op then some [a, b] else none
  | .neg, .UnaryOp .USub a _ => some [a]
  | .idx, .Subscript a b _ => some [a, b]
  | .sl true true, .Subscript a (.Slice (some l) (some h) none _) _ => some [a, l, h]
  | .sl true false, .Subscript a (.Slice (some l) none none _) _ => some [a, l]
  | .sl false true, .Subscript a (.Slice none (some h) none _) _ => some [a, h]
  | .rv, .Subscript a (.Slice none none (some (.UnaryOp .USub (.Constant (.int 1) _ _) _)) _) _ => some [a]
  | .isi ts, .Call (.Name x _) [a, t] [] _ => if x = "isinstance" && gl c x then (match t with
    | .Name y _ => if gl c y && decide (ts = [y]) && okTy y then some [a] else none
    | .Tuple [.Name y _, .Name z _] _ _ => if gl c y && gl c z && decide (ts = [y, z]) && okTy y && okTy z then some [a] else none
    | _ => none) else none
  | .fn f, .Call (.Name x _) args [] _ => if x = f.name && gl c x && decide (args.length = f.arity) then some args else none
  | _, _ => none
def mC (v : V) : Const → Bool
  | .none => decide (v = .non)
  | .bool b => decide (v = .bl b)
  | .int i => decide (v = .int i)
  | .str s => decide (v = .str s)
  | _ => false
def tgSlots : Tg → List Nat
  | .nm i => [i]
  | .tp is => is
def mNames (c : MC) : List Nat → List Expr → Bool
  | [], [] => true
  | i :: is, .Name x _ :: es => locN c i x && mNames c is es
  | _, _ => false
def mTg (c : MC) : Tg → Expr → Bool
  | .nm i, .Name x _ => locN c i x
  | .tp is, .Tuple es _ _ => mNames c is es
  | _, _ => false
def blkMC (c : MC) (scope : Scope) : MC := ⟨c.N, relS scope c.sc, fun x => scope.names.lookup x == some .cell, c.gs⟩
def isTup : Expr → Bool
  | .Tuple _ _ _ => true
  | _ => false
/-- the keys and values of a display in a row -/
def inter : List (Option Expr) → List Expr → Option (List Expr)
  | [], [] => some []
  | some k :: ks, v :: vs => (inter ks vs).map fun r => k :: v :: r
  | _, _ => none
def notMv : T → Bool
  | .mv _ => false
  | _ => true
/-- a comprehension's test -/
def condC : T → (Expr → Bool) → List Expr → Bool
  | .nil, _, [] => true
  | .nil, _, _ => false
  | _, f, [x] => f x
  | _, _, _ => false
mutual
def mE (c : MC) : T → Expr → Bool
  | .var i, .Name x _ => visN c i x
  | .mv i, .Name x _ => visN c i x
  | .lit v, .Constant k _ _ => mC v k
  | .glb x v, .Name y _ => decide (x = y) && gl c x && decide ((x, v) ∈ c.gs) && okV v
  | .prim p es, x => (match mP c p x with
    | some xs => plain x && mA c es xs
    | none => false)
  | .mth m e es, .Call (.Attribute o x ap) args [] cp => decide (x = m.name) && (ap.endLine == cp.line) && decide (args.length < 20) && plain o && mE c e o && mA c es args && decide (0 < args.length) && notMv e
  | .call f es, .Call (.Name x _) args [] _ => decide (x = f) && gl c x && !(x == "super") && mA c es args
  | .lst es, .List xs _ => decide (xs.length ≤ 1000) && mA c es xs
  | .tup es, .Tuple xs _ _ => decide (xs.length ≤ 1000) && mA c es xs
  | .dic es, .Dict keys values _ => (match inter keys values with
    | some xs => decide (keys.length ≤ 15) && mA c es xs
    | none => false)
  | .one a, .BoolOp _ [x] _ => mE c a x
  | .and a b, .BoolOp .And (x :: y :: r) p => mE c a x && mE c b (.BoolOp .And (y :: r) p)
  | .or a b, .BoolOp .Or (x :: y :: r) p => mE c a x && mE c b (.BoolOp .Or (y :: r) p)
  | .not a, .UnaryOp .Not x _ => mE c a x
  | .ite t a b, .IfExp x y z _ => mE c t x && mE c a y && mE c b z
  | .chain p q a b d, .Compare x [o, o'] [y, z] _ => decide (o = p) && decide (o' = q) && mE c a x && mE c b y && mE c d z && plain z
  | .comp own elt tg src cond, .ListComp e [⟨tx, it, ifs, n⟩] scope _ => decide (n = 0) && mI c src tx it && blkC c.N c.sc scope own && mTg (blkMC c scope) tg tx && (tgSlots tg).all (fun i => decide (i ∈ own.map (·.2))) &&
      mE (blkMC c scope) elt e && condC cond (mE (blkMC c scope) cond) ifs
  | _, _ => false
def mA (c : MC) : T → List Expr → Bool
  | .nil, [] => true
  | .cons e es, x :: xs => plain x && mE c e x && mA c es xs
  | _, _ => false
def mI (c : MC) : T → Expr → Expr → Bool
  | .sval e, _, x => plain x && mE c e x
  | .srng es, _, .Call (.Name x _) args [] _ => decide (x = "range") && gl c x && mA c es args && (decide (args.length = 1) || decide (args.length = 2))
  | .senum e, t, .Call (.Name x _) [a] [] _ => decide (x = "enumerate") && gl c x && mE c e a && plain a && isTup t
  | .szip es, t, .Call (.Name x _) args [] _ => decide (x = "zip") && gl c x && mA c es args && decide (args.length = 2) && isTup t
  | _, _, _ => false
end
/-- statements; io: the slots that are never stored -/
def isLc : Expr → Bool
  | .ListComp _ _ _ _ => true
  | _ => false
def lcOk (c : MC) (x : Str) (xp : Pos) : Expr → Bool
  | .ListComp _ _ sc' yp => (xp.line == yp.line) && !(sc'.names.any fun (n, k) => n == x && (k == .local || k == .cell)) && decide (c.sc.names.lookup x = some .local) && (match c.sc.kind with | .function => true | _ => false)
  | _ => true
def isSrc : Expr → Bool
  | .Call _ _ _ _ => true | .Name _ _ => true | .Subscript _ _ _ => true | _ => false
def parOk (c : MC) (x y : Str) (xp yp : Pos) (a b : Expr) : Bool :=
  decide (c.sc.names.lookup x = some .local) && decide (c.sc.names.lookup y = some .local) && (match c.sc.kind with | .function => true | _ => false) && (yp.line == xp.line) && !(foldedForSure 8 a && foldedForSure 8 b) && !(constantsAlone 8 a && constantsAlone 8 b)
mutual
def mS (c : MC) (io : List Nat) : S → Stmt → Bool
  | .expr e, .Expr x _ => plain x && mE c e x && !isLc x
  | .asg i e, .Assign [.Name x xp] y _ => locN c i x && plain y && mE c e y && decide (i ∉ io) && lcOk c x xp y
  | .unp is e, .Assign [.Tuple ts _ _] y _ => mNames c is ts && mE c e y && is.all (fun i => decide (i ∉ io)) && isSrc y
  | .par i j es, .Assign [.Tuple [.Name x xp, .Name y yp] _ _] (.Tuple [a, b] _ _) _ => locN c i x && locN c j y && decide (i ≠ j) && mA c es [a, b] && decide (i ∉ io) && decide (j ∉ io) && parOk c x y xp yp a b
  | .setx i ix e, .Assign [.Subscript (.Name x _) k _] y _ => visN c i x && plain k && plain y && !isLc y && mE c ix k && mE c e y
  | .app i e, .Expr (.Call (.Attribute (.Name x _) m ap) [y] [] cp) _ => visN c i x && plain y && decide (m = "append") && (ap.endLine == cp.line) && mE c e y
  | .ext i e, .Expr (.Call (.Attribute (.Name x _) m ap) [y] [] cp) _ => visN c i x && plain y && decide (m = "extend") && (ap.endLine == cp.line) && mE c e y
  | .ifs t a b, .If x ys zs _ => mE c t x && mSs c io a ys && mSs c io b zs
  | .for tg src body, .For tx it ys [] _ => mI c src tx it && mTg c tg tx && (tgSlots tg).all (fun i => decide (i ∉ io)) && mSs c io body ys
  | .while _ t body, .While x ys [] _ => mE c t x && mSs c io body ys
  | .ret e, .Return (some x) _ => mE c e x
  | .ret0, .Return none _ => true
  | .brk, .Break _ => true
  | .cont, .Continue _ => true
  | .dead, _ => true
  | _, _ => false
def mSs (c : MC) (io : List Nat) : S → List Stmt → Bool
  | .nil, [] => true
  | .seq s r, x :: xs => mS c io s x && mSs c io r xs
  | .dead, _ => true
  | _, _ => false
end
end FH
set_option Elab.async false
set_option linter.all false
set_option maxRecDepth 100000
set_option maxHeartbeats 2000000
namespace FH
open PySem PySem.Spec PyProof.Rows L2
/-! ### wishes -/
def PostG (ca : Cs) (W : WX) (σ : L2.St) (k : Nat) (F : Hp) (O : Own) (H : Hp) {α : Type} (m : M α) (C : α → Hp → Own → Hp → Prop) : Prop := match m with
  | .ok a => ∀ F' O' H', Stp k F O H F' O' H' → C a F' O' H'
  | .ex c d => ∀ dx v n F' O' H', Stp k F O H F' O' H' → Bs F' O' H' → H' dx = some (.xd [(n, v)]) → Rep ca F' d v → W (.ref (ca.ad c)) (some dx) σ H'
  | .no => False
section
variable {ca : Cs} {W : WX} {σ : L2.St} {k : Nat} {F : Hp} {O : Own} {H : Hp} {α β : Type} {m : M α} {f : α → M β}
theorem PostG.bind {C : β → Hp → Own → Hp → Prop} (h : PostG ca W σ k F O H (m.bind f) C) : PostG ca W σ k F O H m fun a F1 O1 H1 => PostG ca W σ k F1 O1 H1 (f a) C := by
  cases m with
  | ok a =>
    intro F1 O1 H1 st
    have h2 : PostG ca W σ k F O H (f a) C := h
    cases e : f a with
    | ok b =>
      rw [e] at h2
      exact fun F2 O2 H2 st2 => h2 F2 O2 H2 (st.trans st2)
    | ex c d =>
      rw [e] at h2
      exact fun dx v n F2 O2 H2 st2 => h2 dx v n F2 O2 H2 (st.trans st2)
    | no =>
      rw [e] at h2
      exact h2
  | ex c d => exact h
  | no => exact h
theorem PostG.lift {C : α → Hp → Own → Hp → Prop} {j : Nat} (h : PostG ca W σ k F O H m C) (e : k ≤ j) : PostG ca W σ j F O H m C := by
  cases m with
  | ok a => exact fun F1 O1 H1 st => h F1 O1 H1 (st.mono e)
  | ex c d => exact fun dx v n F1 O1 H1 st => h dx v n F1 O1 H1 (st.mono e)
  | no => exact h
theorem PostG.imp {C C' : α → Hp → Own → Hp → Prop} (h : PostG ca W σ k F O H m C) (i : ∀ a F' O' H', Stp k F O H F' O' H' → C a F' O' H' → C' a F' O' H') : PostG ca W σ k F O H m C' := by
  cases m with
  | ok a => exact fun F1 O1 H1 st => i a F1 O1 H1 st (h F1 O1 H1 st)
  | ex c d => exact h
  | no => exact h
theorem PostG.here {C : α → Hp → Own → Hp → Prop} {a : α} (h : PostG ca W σ k F O H (.ok a) C) : C a F O H := h F O H (.refl _ _ _ _)
end
/-- the lent slots hold the very values -/
def Lnk (lk : List (Option Nat)) (σ : L2.St) (vs : List V) : Prop := ∀ (j i : Nat), lk[j]? = some (some i) → ∃ v, vs[j]? = some v ∧ σ[i]? = some (some v)
def CE (ca : Cs) (σ : L2.St) (k : Nat) (Q : VK) : R × En → Hp → Own → Hp → Prop := fun p F O H => ∀ v, AE ca F O p.2 σ H → RepR ca F H O (.t k) p.1 v → Below O (k + 1) → Q v H
def CA (ca : Cs) (σ : L2.St) (k : Nat) (Q : List V → Hp → Prop) : List R × En → Hp → Own → Hp → Prop := fun p F O H => ∀ vs, AE ca F O p.2 σ H → RepRs ca F H O Lab.t k p.1 vs → Below O (k + p.1.length) → Q vs H
def CB (ca : Cs) (σ : L2.St) (k : Nat) (Q : Bool → Hp → Prop) : Bool × En → Hp → Own → Hp → Prop := fun p F O H => AE ca F O p.2 σ H → Below O k → Q p.1 H
def evB (Φ : FT) (e : T) (env : En) : M (Bool × En) := (one1 (ev Φ e env)).bind fun (r, env1) => (asB r).bind fun t => .ok (t, env1)
section
variable (ca : Cs) (Φ : FT) (W : WX)
def tE (e : T) : TE := fun σ H Q => ∃ F O env k, AE ca F O env σ H ∧ Below O k ∧ PostG ca W σ k F O H (one1 (ev Φ e env)) (CE ca σ k Q)
def tT (e : T) : TT := fun σ H Q => ∃ F O env k, AE ca F O env σ H ∧ Below O k ∧ PostG ca W σ k F O H (evB Φ e env) (CB ca σ k Q)
def tA (es : T) : TA := fun σ H Q => ∃ F O env k, AE ca F O env σ H ∧ Below O k ∧ PostG ca W σ k F O H (ev Φ es env) (CA ca σ k Q)
end
theorem peImp {X : Cx} {x : Expr} {t t' : TE} (h : PE X x t) (i : ∀ σ H Q, t' σ H Q → t σ H Q) : PE X x t' := ⟨fun pins s σ H Q I q => h.run pins s σ H Q I (i σ H Q q)⟩
theorem ptImp {X : Cx} {x : Expr} {t t' : TT} (h : PT X x t) (i : ∀ σ H Q, t' σ H Q → t σ H Q) : PT X x t' := ⟨fun pins s σ H Q I q => h.run pins s σ H Q I (i σ H Q q)⟩
/-- a reading closed under weaker wishes -/
def mono (t : TE) : TE := fun σ H Q => ∃ Q0 : VK, t σ H Q0 ∧ ∀ v H', Q0 v H' → Q v H'
theorem peMono {X : Cx} {x : Expr} {t : TE} (h : PE X x t) : PE X x (mono t) := by
  constructor
  intro pins s σ H Q I q
  obtain ⟨Q0, q0, i⟩ := q
  refine thn (h.run pins s σ H Q0 I q0) ?_
  rintro u s' ⟨v, H', I', r, z⟩
  exact ⟨v, H', I', r, i v H' z⟩
/-- a row of readings -/
def seqT : List TE → TA
  | [] => tNil
  | t :: ts => tCons t (seqT ts)
inductive PEs (X : Cx) : List Expr → List TE → Prop where
  | nil : PEs X [] []
  | cons {x : Expr} {t : TE} {xs : List Expr} {ts : List TE} : PE X x t → PEs X xs ts → PEs X (x :: xs) (t :: ts)
theorem star_plain {e : Expr} {es : List Expr} {env : Env} (h : plain e = true) : starEach (e :: es) env = (false, eval e env) :: starEach es env := by
  cases e <;> first | rfl | (unfold plain at h; cases h)
/-- all are plain -/
def plains : List Expr → Bool
  | [] => true
  | x :: xs => plain x && plains xs
theorem star_plains {env : Env} {pos : Pos} : ∀ {es : List Expr}, plains es = true → (backTo pos (starEach es env)).any (·.1) = false
  | [], _ => rfl
  | e :: es, h => by
    unfold plains at h
    simp only [Bool.and_eq_true] at h
    rw [star_plain h.1]
    have ih := star_plains (env := env) (pos := pos) h.2
    show (false || (backTo pos (starEach es env)).any (·.1)) = false
    rw [ih] <;> rfl
theorem PEs.pa {X : Cx} {xs : List Expr} {ts : List TE} (h : PEs X xs ts) (hp : plains xs = true) : PA X xs (seqT ts) := by
  induction h with
  | nil => exact pa_nil
  | cons h1 h2 ih =>
    unfold plains at hp
    simp only [Bool.and_eq_true] at hp
    exact pa_cons h1 (ih hp.2) (star_plain hp.1)
/-! ### what the context gives -/
structure RoomG (k : Nat) (A : Around) : Prop where
  room : Room k A
  gd : A.guards = some []
/-- a def's promise, no guard around -/
structure FnG (P : Program) (w : World) (K : PySem.W.Frag) (mg : Str → Option Value) (base : Heap) (k : Nat) (f : Addr) (fd : FuncData) (ps : List Str) (sp : Sp) : Prop where
  len : ∀ vs H Q E, sp vs H Q E → vs.length = ps.length
  run : ∀ (A : Around) (outer : List Env) (s : Shared) (H : Hp) (args : Args) (us : List Value) (vs : List V) (Q : VK) (E : XK), RoomG k A → Env0 P w K mg base A outer s H → BindsTo s fd args (ps.zip us) → Vals vs us → sp vs H Q E →
    codeAny (model P w) A (.call (.ref f) args) (CR (L2.CX P w) outer P w H s Q E) s
/-- the promise of a pure function -/
def spD (ca : Cs) (g : Sem1) : Sp := fun vs H Q E => ∃ F O rs, Bs F O H ∧ (∀ a l, O a = some l → ∃ i c, l = .s i c) ∧ RepRs ca F H O Lab.s 0 rs vs ∧
  (match g rs with
  | .ok (r, outs) => ∀ v F' O' H', Stp 0 F O H F' O' H' → Bs F' O' H' → RepR ca F' H' O' (.t 0) r v → (∀ j r', outs[j]? = some (some r') → ∃ v', vs[j]? = some v' ∧ RepR ca F' H' O' (.s j) r' v') → Q v H'
  | .ex c d => ∀ dx v n F' O' H', Stp 0 F O H F' O' H' → Bs F' O' H' → H' dx = some (.xd [(n, v)]) → Rep ca F' d v → E (.ref (ca.ad c)) (some dx) H'
  | .no => False)
def bnames : List Str := ["len", "int", "str", "repr", "list", "tuple", "sum", "all", "any", "sorted", "max", "min", "dict", "range", "enumerate", "zip", "isinstance", "set", "bool"]
structure Good (X : Cx) (ca : Cs) (Φ : FT) (gs : List (Str × V)) (W : WX) : Prop where
  calm : X.calm = true
  nd : X.N.Nodup
  room : RoomG 1 X.A
  tk : Takes X W
  un : ∀ x, x ∈ bnames → X.mg x = none
  gv : ∀ p, p ∈ gs → ∃ u, X.mg p.1 = some u ∧ RelV p.2 u
  fn : ∀ x g, Φ x = some g → ∃ k f fd ps, FnG X.prog X.w X.K X.mg X.base k f fd ps (spD ca g) ∧ RoomG k X.A ∧ X.mg x = some (.ref f) ∧ PySem.W.keepIn X.K (.ref f) = true ∧ Binds X.K fd ps []
abbrev cOf (X : Cx) (gs : List (Str × V)) : MC := ⟨X.N, X.env.scope, X.fn, gs⟩
section
variable {X : Cx} {ca : Cs} {Φ : FT} {gs : List (Str × V)} {W : WX} {x : Expr}
theorem visN_ok {i : Nat} {x : Str} (h : visN (cOf X gs) i x = true) : X.N[i]? = some x ∧ Vis X.env.scope x ∧ (x == ("__debug__" : Str)) = false ∧ (x == ("__classdict__" : Str)) = false := by
  unfold visN at h
  simp only [Bool.and_eq_true, decide_eq_true_eq, Bool.not_eq_true'] at h
  obtain ⟨⟨⟨h1, h2⟩, h3⟩, h4⟩ := h
  refine ⟨h1, ?_, h2, h3⟩
  unfold Vis
  revert h4
  cases X.env.scope.names.lookup x with
  | none => intro h4; cases h4
  | some k => cases k <;> intro h4 <;> first | (cases h4; done) | exact Or.inl rfl | exact Or.inr (Or.inl rfl) | exact Or.inr (Or.inr rfl)
theorem gl_ok {x : Str} (h : gl (cOf X gs) x = true) : Gl X x ∧ (x == ("__debug__" : Str)) = false ∧ x ≠ "__name__" := by
  unfold gl at h
  simp only [Bool.and_eq_true, decide_eq_true_eq, Bool.not_eq_true'] at h
  exact ⟨h.1.1, h.1.2, h.2⟩
theorem locN_ok {i : Nat} {x : Str} (h : locN (cOf X gs) i x = true) : X.N[i]? = some x ∧ L2.Loc X.env.scope x ∧ (X.fn x = true ∨ X.env.scope.names.lookup x = some .local) := by
  unfold locN at h
  simp only [Bool.and_eq_true, decide_eq_true_eq] at h
  obtain ⟨h1, h4⟩ := h
  refine ⟨h1, ?_⟩
  unfold L2.Loc
  revert h4
  cases X.env.scope.names.lookup x with
  | none => intro h4; cases h4
  | some k => cases k <;> intro h4 <;> first | (cases h4; done) | exact ⟨Or.inl rfl, Or.inr rfl⟩ | exact ⟨Or.inr rfl, Or.inl h4⟩
theorem getS_ok {env : En} {i : Nat} {r : R} (h : env[i]? = some (some r)) : getS env i = .ok r := by unfold getS; rw [h]
theorem getS_cases (env : En) (i : Nat) : (∃ r, env[i]? = some (some r) ∧ getS env i = .ok r) ∨ getS env i = .no := by
  unfold getS
  cases env[i]? with
  | none => exact .inr rfl
  | some o => cases o with
    | none => exact .inr rfl
    | some r => exact .inl ⟨r, rfl, rfl⟩
/-! the maps of a slot -/
def aFz (i : Nat) : Act := fun l => match l with
  | .s j c => if j = i then none else some (some (.s j c))
  | .t j c => some (some (.t j c))
def aMv (i k : Nat) : Act := fun l => match l with
  | .s j c => if j = i then some (some (.t k c)) else some (some (.s j c))
  | .t j c => some (some (.t j c))
theorem aFz_low (i k : Nat) : Low k (aFz i) := fun _ _ _ => rfl
theorem aMv_low (i k : Nat) : Low k (aMv i k) := fun _ _ _ => rfl
theorem below_map {O : Own} {φ : Act} {k : Nat} (h : Below O k) (e : ∀ l j c, φ l = some (some (.t j c)) → (∃ j' c', l = .t j' c' ∧ j' < k → j < k) ∨ j < k) : True := trivial
theorem set_slot {env : En} {i : Nat} {o : Option R} {j : Nat} {r : R} (h : (env.set i o)[j]? = some (some r)) : (j = i ∧ o = some r) ∨ (j ≠ i ∧ env[j]? = some (some r)) := by
  by_cases hj : i = j
  · subst hj
    by_cases hl : i < env.length
    · rw [List.getElem?_set_self hl] at h
      exact .inl ⟨rfl, Option.some.inj h⟩
    · rw [List.getElem?_eq_none (by simpa using hl)] at h
      cases h
  · rw [List.getElem?_set_ne hj] at h
    exact .inr ⟨fun e => hj e.symm, h⟩
theorem snd_var (G : Good X ca Φ gs W) {i : Nat} {y : Str} {pos : Pos} (h : visN (cOf X gs) i y = true) : PE X (.Name y pos) (tE ca Φ W (.var i)) := by
  obtain ⟨h1, h2, h3, h4⟩ := visN_ok h
  refine peImp (pe_var h1 h2 h3 h4) fun σ H Q q => ?_
  obtain ⟨F, O, env, k, ae, bl, p⟩ := q
  rcases getS_cases env i with ⟨r, e1, e2⟩ | e2
  · have p2 : PostG ca W σ k F O H (.ok (sh1 r, env.set i (some (sh1 r)))) (CE ca σ k Q) := by
      have e3 : one1 (ev Φ (.var i) env) = .ok (sh1 r, env.set i (some (sh1 r))) := by unfold ev; rw [e2]; rfl
      rw [e3] at p; exact p
    obtain ⟨v, s1, s2⟩ := ae.slot i r e1
    refine ⟨v, s1, ?_⟩
    have hr : Rep ca (mF (aFz i) O F H) r.d v := s2.frz ae.bs fun c => if_pos rfl
    refine p2 _ _ _ (ae.bs.stp (aFz_low i k)) v ?_ hr ?_
    · refine (ae.bs.map _).ae fun j r' e => ?_
      have e' : (env.set i (some (sh1 r)))[j]? = some (some r') := e
      rcases set_slot e' with ⟨rfl, e5⟩ | ⟨ne, e5⟩
      · cases e5
        exact ⟨v, s1, hr⟩
      · obtain ⟨w, w1, w2⟩ := ae.slot j r' e5
        exact ⟨w, w1, w2.map ae.bs fun c => if_neg ne⟩
    · intro a j c z
      obtain ⟨l, l1, l2⟩ := mO_inv z
      cases l with
      | s i' c' =>
        exfalso
        unfold aFz at l2
        simp only at l2
        split at l2 <;> cases l2
      | t j' c' =>
        cases l2
        exact Nat.lt_succ_of_lt (bl a j c l1)
  · have e3 : one1 (ev Φ (.var i) env) = .no := by unfold ev; rw [e2]; rfl
    rw [e3] at p
    exact p.elim
theorem snd_mv (G : Good X ca Φ gs W) {i : Nat} {y : Str} {pos : Pos} (h : visN (cOf X gs) i y = true) : PE X (.Name y pos) (fun σ H Q => tE ca Φ W (.mv i) σ H fun v H' => σ[i]? = some (some v) → Q v H') := by
  obtain ⟨h1, h2, h3, h4⟩ := visN_ok h
  refine peImp (pe_var h1 h2 h3 h4) fun σ H Q q => ?_
  obtain ⟨F, O, env, k, ae, bl, p⟩ := q
  rcases getS_cases env i with ⟨r, e1, e2⟩ | e2
  · have e3 : one1 (ev Φ (.mv i) env) = .ok (r, env.set i none) := by unfold ev; rw [e2]; rfl
    rw [e3] at p
    obtain ⟨v, s1, s2⟩ := ae.slot i r e1
    refine ⟨v, s1, ?_⟩
    refine p _ _ _ (ae.bs.stp (aMv_low i k)) v ?_ (s2.map ae.bs fun c => if_pos rfl) ?_ s1
    · refine (ae.bs.map _).ae fun j r' e => ?_
      have e' : (env.set i none)[j]? = some (some r') := e
      rcases set_slot e' with ⟨rfl, e5⟩ | ⟨ne, e5⟩
      · cases e5
      · obtain ⟨w, w1, w2⟩ := ae.slot j r' e5
        exact ⟨w, w1, w2.map ae.bs fun c => if_neg ne⟩
    · intro a j c z
      obtain ⟨l, l1, l2⟩ := mO_inv z
      cases l with
      | s i' c' =>
        unfold aMv at l2
        simp only at l2
        split at l2
        · cases l2; exact Nat.lt_succ_self _
        · cases l2
      | t j' c' =>
        cases l2
        exact Nat.lt_succ_of_lt (bl a j c l1)
  · have e3 : one1 (ev Φ (.mv i) env) = .no := by unfold ev; rw [e2]; rfl
    rw [e3] at p
    exact p.elim
theorem rep_dV {F : Hp} {v : V} (h : okV v = true) : Rep ca F (dV v) v := by
  cases v <;> first | (unfold okV at h; cases h; done) | (unfold dV Rep; rfl)
theorem snd_flat {v : V} {e : T} (h : okV v = true) (he : ∀ env, ev Φ e env = .ok ([.sh (dV v)], env)) (p : PE X x (tC v)) : PE X x (tE ca Φ W e) := by
  refine peImp p fun σ H Q q => ?_
  obtain ⟨F, O, env, k, ae, bl, p⟩ := q
  rw [he] at p
  exact p _ _ _ (.refl _ _ _ _) v ae (rep_dV h) fun a j c z => Nat.lt_succ_of_lt (bl a j c z)
theorem snd_lit {v : V} {c : Const} {n : Nat} {pos : Pos} (h : mC v c = true) : PE X (.Constant c n pos) (tE ca Φ W (.lit v)) := by
  cases c <;> first
    | (unfold mC at h; cases h; done)
    | (unfold mC at h; have e := of_decide_eq_true h; subst e; exact snd_flat rfl (fun _ => rfl) (by first | exact pe_int | exact pe_bl | exact pe_non | exact pe_str))
theorem snd_glb (G : Good X ca Φ gs W) {y : Str} {v : V} {pos : Pos} (h1 : gl (cOf X gs) y = true) (h2 : (y, v) ∈ gs) (h3 : okV v = true) : PE X (.Name y pos) (tE ca Φ W (.glb y v)) := by
  obtain ⟨g1, g2, _⟩ := gl_ok h1
  obtain ⟨u, m, r⟩ := G.gv _ h2
  exact snd_flat h3 (fun _ => rfl) (pe_glob g1 m r g2)
/-- argument lists -/
theorem one1_inv {m : M (List R × En)} : (∃ r env, m = .ok ([r], env) ∧ one1 m = .ok (r, env)) ∨ (∃ c d, m = .ex c d ∧ one1 m = .ex c d) ∨ one1 m = .no := by
  cases m with
  | ok p =>
    obtain ⟨rs, env⟩ := p
    match rs with
    | [] => exact .inr (.inr rfl)
    | [r] => exact .inl ⟨r, env, rfl, rfl⟩
    | _ :: _ :: _ => exact .inr (.inr rfl)
  | ex c d => exact .inr (.inl ⟨c, d, rfl, rfl⟩)
  | no => exact .inr (.inr rfl)
/-- one more argument: te is its reading, which may tell more of its value (Z) -/
theorem cons_imp {e es : T} {te : TE} {tr : TA} {Z : L2.St → V → Prop} {Y Y' : L2.St → List V → Prop} (h1 : ∀ σ H Q, (tE ca Φ W e σ H fun v H' => Z σ v → Q v H') → te σ H Q) (h2 : ∀ σ H Q, (tA ca Φ W es σ H fun vs H' => Y σ vs → Q vs H') → tr σ H Q)
    (hz : ∀ σ v vs, Z σ v → Y σ vs → Y' σ (v :: vs)) :
    ∀ σ H Q, (tA ca Φ W (.cons e es) σ H fun vs H' => Y' σ vs → Q vs H') → tCons te tr σ H Q := by
  intro σ H Q q
  obtain ⟨F, O, env, k, ae, bl, p⟩ := q
  refine h1 _ _ _ ⟨F, O, env, k, ae, bl, ?_⟩
  have e3 : ev Φ (.cons e es) env = (one1 (ev Φ e env)).bind fun (r, env1) => (ev Φ es env1).bind fun (rs, env2) => .ok (r :: rs, env2) := rfl
  rw [e3] at p
  refine p.bind.imp fun a F1 O1 H1 st1 p1 v ae1 rv bl1 z => ?_
  refine h2 _ _ _ ⟨F1, O1, a.2, k + 1, ae1, bl1, ?_⟩
  refine (p1.bind.lift (Nat.le_succ k)).imp fun b F2 O2 H2 st2 p2 vs ae2 rvs bl2 lk => ?_
  refine p2.here (v :: vs) ae2 ⟨v, vs, rfl, rv.stp st2 (Nat.lt_succ_self k), rvs⟩ ?_ (hz _ _ _ z lk)
  intro a' j c y
  have := bl2 a' j c y
  simp only [List.length_cons]
  omega
/-- a fit argument list -/
def ArgOk (X : Cx) (ca : Cs) (Φ : FT) (W : WX) (es : T) (xs : List Expr) : Prop := ∃ ts, PEs X xs ts ∧ ∀ σ H Q, (tA ca Φ W es σ H fun vs H' => Lnk (bkOf es) σ vs ∧ vs.length = xs.length → Q vs H') → seqT ts σ H Q
theorem args_nil : ArgOk X ca Φ W .nil [] := by
  refine ⟨[], .nil, fun σ H Q q => ?_⟩
  obtain ⟨F, O, env, k, ae, bl, p⟩ := q
  have p2 : PostG ca W σ k F O H (.ok ([], env)) _ := p
  refine p2.here [] ae rfl (fun a j c z => bl a j c z) ⟨fun j i z => ?_, rfl⟩
  have z' : ([] : List (Option Nat))[j]? = some (some i) := z
  simp at z'
theorem args_cons (G : Good X ca Φ gs W) {e es : T} {xs : List Expr} (h1 : PE X x (tE ca Φ W e)) (h2 : ArgOk X ca Φ W es xs) (hm : mE (cOf X gs) e x = true) : ArgOk X ca Φ W (.cons e es) (x :: xs) := by
  obtain ⟨ts, p, i⟩ := h2
  by_cases hv : ∃ n, e = .mv n
  · obtain ⟨n, rfl⟩ := hv
    cases x <;> first
      | (unfold mE at hm; cases hm; done)
      | skip
    rename_i y pos
    have hm' : visN (cOf X gs) n y = true := by unfold mE at hm; exact hm
    refine ⟨_, .cons (snd_mv G hm') p, ?_⟩
    refine cons_imp (Z := fun σ v => σ[n]? = some (some v)) (Y := fun σ vs => Lnk (bkOf es) σ vs ∧ vs.length = xs.length) (Y' := fun σ vs => Lnk (bkOf (.cons (.mv n) es)) σ vs ∧ vs.length = xs.length + 1) (fun σ H Q q => q) i fun σ v vs z y => ⟨fun j i' q => ?_, by rw [List.length_cons, y.2]⟩
    cases j with
    | zero =>
      have q' : some (some n) = some (some i') := q
      cases q'
      exact ⟨v, rfl, z⟩
    | succ j => exact y.1 j i' q
  · refine ⟨_, .cons h1 p, ?_⟩
    refine cons_imp (Z := fun _ _ => True) (Y := fun σ vs => Lnk (bkOf es) σ vs ∧ vs.length = xs.length) (Y' := fun σ vs => Lnk (bkOf (.cons e es)) σ vs ∧ vs.length = xs.length + 1) (fun σ H Q q => ?_) i fun σ v vs z y => ⟨fun j i' q => ?_, by rw [List.length_cons, y.2]⟩
    · obtain ⟨F, O, env, k, ae, bl, p⟩ := q
      exact ⟨F, O, env, k, ae, bl, p.imp fun a F1 O1 H1 _ h v h1 h2 h3 => h v h1 h2 h3 trivial⟩
    · have eb : bkOf (.cons e es) = none :: bkOf es := by
        cases e <;> first
          | rfl
          | exact absurd ⟨_, rfl⟩ hv
      rw [eb] at q
      cases j with
      | zero => cases q
      | succ j => exact y.1 j i' q
end
end FH
set_option Elab.async false
set_option linter.all false
set_option maxRecDepth 100000
set_option maxHeartbeats 2000000
namespace FH
open PySem PySem.Spec PyProof.Rows L2
theorem M.bind_assoc {α β γ : Type} (m : M α) (f : α → M β) (g : β → M γ) : (m.bind f).bind g = m.bind fun a => (f a).bind g := by cases m <;> rfl
theorem one1_bind {α : Type} (m : M α) (f : α → M (List R × En)) : one1 (m.bind f) = m.bind fun a => one1 (f a) := by cases m <;> rfl
theorem plains_of {c : MC} : ∀ {es : T} {xs : List Expr}, mA c es xs = true → plains xs = true
  | es, [], h => rfl
  | es, x :: xs, h => by
    cases es <;> first
      | (unfold mA at h; cases h; done)
      | skip
    unfold mA at h
    simp only [Bool.and_eq_true] at h
    unfold plains
    rw [h.1.1, plains_of h.2] <;> rfl
/-- temporaries from k on: frozen -/
def aTz (k : Nat) : Act := fun l => match l with
  | .s j c => some (some (.s j c))
  | .t j c => if j < k then some (some (.t j c)) else none
theorem aTz_low (k : Nat) : Low k (aTz k) := fun j c h => if_pos h
section
variable {X : Cx} {ca : Cs} {Φ : FT} {gs : List (Str × V)} {W : WX} {x : Expr}
theorem AE.mapS {F H : Hp} {O : Own} {env : En} {σ : L2.St} (h : AE ca F O env σ H) (φ : Act) (e : ∀ i c, φ (.s i c) = some (some (.s i c))) : AE ca (mF φ O F H) (mO φ O) env σ H := h.map φ fun i _ c _ => e i c
theorem below_tz {O : Own} {k : Nat} : Below (mO (aTz k) O) k := fun a j c z => by
  obtain ⟨l, l1, l2⟩ := mO_inv z
  cases l with
  | s i' c' => cases l2
  | t j' c' =>
    unfold aTz at l2
    simp only at l2
    split at l2
    · cases l2; assumption
    · cases l2
theorem snd_lst {es : T} {xs : List Expr} {pos : Pos} (h : ArgOk X ca Φ W es xs) (hp : plains xs = true) (hl : xs.length ≤ 1000) : PE X (.List xs pos) (tE ca Φ W (.lst es)) := by
  obtain ⟨ts, pe, i⟩ := h
  refine peImp (pe_lst (pe.pa hp)) fun σ H Q q => ?_
  obtain ⟨F, O, env, k, ae, bl, p⟩ := q
  have e3 : one1 (ev Φ (.lst es) env) = (ev Φ es env).bind fun a => .ok (.ow (.lst none (a.1.map R.d)), a.2) := by
    show one1 ((ev Φ es env).bind _) = _
    rw [one1_bind] <;> rfl
  rw [e3] at p
  refine i _ _ _ ⟨F, O, env, k, ae, bl, p.bind.imp fun a F1 O1 H1 st1 p1 vs ae1 rvs bl1 z => ?_⟩
  refine ⟨by rw [z.2]; exact Nat.le_trans (Nat.le_trans hl (by decide)) lim_le, fun q hq => ?_⟩
  have b1 := ae1.bs.map (aTz k)
  have f1 := RepRs.frz (L := Lab.t) (φ := aTz k) ae1.bs (fun j c hj => (show (if j < k then some (some (Lab.t j c)) else none) = none from if_neg (by omega))) rvs
  have n1 := b1.fr hq
  refine p1 _ _ _ ((ae1.bs.stp (aTz_low k)).trans (b1.nO_stp (l := .t k 0) (o := .lst vs) hq k)) (.ref q) ?_ ⟨q, vs, rfl, upd_same, newO_same, .inl rfl, f1⟩ ?_
  · exact (ae1.mapS _ fun _ _ => rfl).grow (b1.nO hq) (.refl _) (sub_upd hq) (newO_keep n1.2)
  · intro a' j c y
    by_cases ha : a' = q
    · subst ha
      rw [newO_same] at y
      cases y
      exact Nat.lt_succ_self _
    · rw [newO_ne ha] at y
      exact Nat.lt_succ_of_lt (below_tz a' j c y)
/-! fresh tuples -/
def aTup (k : Nat) : Act := fun l => match l with
  | .s j c => some (some (.s j c))
  | .t j c => if j < k then some (some (.t j c)) else if c = 0 then some (some (.t k (j - k + 1))) else none
theorem aTup_low (k : Nat) : Low k (aTup k) := fun j c h => if_pos h
theorem tup_comps {F H : Hp} {O : Own} {k : Nat} (b : Bs F O H) : ∀ {rs : List R} {m : Nat} {vs : List V}, RepRs ca F H O Lab.t (k + m) rs vs → RepC ca (mF (aTup k) O F H) H (mO (aTup k) O) (.t k) (m + 1) (rs.map cmpOf) vs
  | [], m, vs, h => by unfold RepRs at h; exact h
  | r :: rs, m, vs, h => by
    unfold RepRs at h
    obtain ⟨v, w, h1, h2, h3⟩ := h
    have ih := tup_comps b (rs := rs) (m := m + 1) (by rw [show k + (m + 1) = k + m + 1 by omega]; exact h3)
    cases r with
    | sh d => exact ⟨v, w, h1, Rep.mono (b.mapSub _) _ _ h2, ih⟩
    | ow d =>
      refine ⟨v, w, h1, RepO.map (φ := aTup k) h2 b ?_, ih⟩
      show (if k + m < k then _ else if (0 : Nat) = 0 then some (some (Lab.t k (k + m - k + 1))) else none) = _
      rw [if_neg (by omega), if_pos rfl, show k + m - k + 1 = m + 1 by omega]
    | tp cs =>
      refine ⟨v, w, h1, ?_, ih⟩
      obtain ⟨a, us, e1, e2, e3⟩ := h2
      show Rep ca _ (.tup (cs.map (·.2))) v
      unfold Rep
      refine ⟨a, us, e1, b.mapSub _ _ _ e2, e3.frz b fun j hj => ?_⟩
      show (if k + m < k then _ else if j = 0 then _ else none) = none
      rw [if_neg (by omega), if_neg (by omega)]
theorem snd_tup {es : T} {xs : List Expr} {pos : Pos} {n : Nat} (h : ArgOk X ca Φ W es xs) (hp : plains xs = true) (hl : xs.length ≤ 1000) : PE X (.Tuple xs n pos) (tE ca Φ W (.tup es)) := by
  obtain ⟨ts, pe, i⟩ := h
  refine peImp (pe_tup (pe.pa hp)) fun σ H Q q => ?_
  obtain ⟨F, O, env, k, ae, bl, p⟩ := q
  have e3 : one1 (ev Φ (.tup es) env) = (ev Φ es env).bind fun a => .ok (.tp (a.1.map cmpOf), a.2) := by
    show one1 ((ev Φ es env).bind _) = _
    rw [one1_bind] <;> rfl
  rw [e3] at p
  refine i _ _ _ ⟨F, O, env, k, ae, bl, p.bind.imp fun a F1 O1 H1 st1 p1 vs ae1 rvs bl1 z => ?_⟩
  refine ⟨by rw [z.2]; exact Nat.le_trans (Nat.le_trans hl (by decide)) lim_le, fun q hq => ?_⟩
  have b1 := ae1.bs.map (aTup k)
  have n1 := b1.fr hq
  have f1 := tup_comps (m := 0) ae1.bs rvs
  refine p1 _ _ _ ((ae1.bs.stp (aTup_low k)).trans (b1.nF_stp (o := .tup vs) hq k)) (.ref q) ?_ ⟨q, vs, rfl, upd_same, f1.mono (b1.nF_sub hq) fun j a o e e' => ⟨sub_upd hq _ _ e', e⟩⟩ ?_
  · exact (ae1.mapS _ fun _ _ => rfl).grow (b1.nF hq) (b1.nF_sub hq) (sub_upd hq) fun _ _ z => z
  · intro a' j c y
    obtain ⟨l, l1, l2⟩ := mO_inv y
    cases l with
    | s i' c' => cases l2
    | t j' c' =>
      unfold aTup at l2
      simp only at l2
      split at l2
      · cases l2; omega
      · split at l2
        · cases l2; exact Nat.lt_succ_self _
        · cases l2
/-! ### tests -/
theorem asB_rep {r : R} {t : Bool} (h : asB r = .ok t) : r = .sh (.bl t) := by
  unfold asB at h
  split at h
  · cases h; rfl
  · cases h
theorem asB_ex {r : R} {c : Str} {d : D} (h : asB r = .ex c d) : False := by
  unfold asB at h
  split at h <;> cases h
/-- a value that is a truth value, as a test -/
theorem pt_of {e : T} (h : PE X x (tE ca Φ W e)) (he : ∀ whole, isTrue x X.env whole = (do let v ← whole; standAt x.pos; holding [v] (truthy v))) : PT X x (tT ca Φ W e) := by
  refine ptImp (pt_val h he) fun σ H Q q => ?_
  obtain ⟨F, O, env, k, ae, bl, p⟩ := q
  refine ⟨F, O, env, k, ae, bl, p.bind.imp fun a F1 O1 H1 st1 p1 v ae1 rv bl1 => ?_⟩
  cases e : asB a.1 with
  | ok t =>
    have er := asB_rep e
    have p2 : PostG ca W σ k F1 O1 H1 ((asB a.1).bind fun t => .ok (t, a.2)) (CB ca σ k Q) := p1
    rw [e] at p2
    rw [er] at rv
    have ev : v = .bl t := by unfold RepR Rep at rv; exact rv
    refine ⟨t, ev, ?_⟩
    have key := p2 (mF (aTz k) O1 F1 H1) (mO (aTz k) O1) H1 (ae1.bs.stp (aTz_low k))
    exact key (ae1.mapS _ fun _ _ => rfl) below_tz
  | ex c d => exact (asB_ex e).elim
  | no =>
    have p2 : PostG ca W σ k F1 O1 H1 ((asB a.1).bind fun t => .ok (t, a.2)) (CB ca σ k Q) := p1
    rw [e] at p2
    exact p2.elim
theorem below_bl {O : Own} {k : Nat} (h : Below O k) : Below O (k + 1) := fun a j c z => Nat.lt_succ_of_lt (h a j c z)
theorem evB_eq {e : T} {env : En} : evB Φ e env = (one1 (ev Φ e env)).bind fun a => (asB a.1).bind fun t => .ok (t, a.2) := rfl
theorem one1_dist {β : Type} (m : M (R × En)) (f : R × En → M (List R × En)) : one1 (m.bind f) = m.bind fun a => one1 (f a) := one1_bind m f
/-- a test, then: the outcome of a term that begins with a test -/
theorem test_then {e : T} {σ : L2.St} {H : Hp} {Q : Bool → Hp → Prop} {F : Hp} {O : Own} {env : En} {k : Nat} (ae : AE ca F O env σ H) (bl : Below O k) {α : Type} {f : Bool → En → M α} {C : α → Hp → Own → Hp → Prop}
    (p : PostG ca W σ k F O H ((one1 (ev Φ e env)).bind fun a => (asB a.1).bind fun t => f t a.2) C)
    (h : ∀ t env1 F1 O1 H1, AE ca F1 O1 env1 σ H1 → Below O1 k → PostG ca W σ k F1 O1 H1 (f t env1) C → Q t H1) : tT ca Φ W e σ H Q := by
  refine ⟨F, O, env, k, ae, bl, ?_⟩
  have e2 : ((one1 (ev Φ e env)).bind fun a => (asB a.1).bind fun t => f t a.2) = (evB Φ e env).bind fun b => f b.1 b.2 := by
    rw [evB_eq, M.bind_assoc]
    cases one1 (ev Φ e env) with
    | ok a =>
      show (asB a.1).bind _ = ((asB a.1).bind _).bind _
      rw [M.bind_assoc] <;> rfl
    | ex c d => rfl
    | no => rfl
  rw [e2] at p
  exact p.bind.imp fun b F1 O1 H1 st1 p1 ae1 bl1 => h b.1 b.2 F1 O1 H1 ae1 bl1 p1
theorem snd_ite {t a b : T} {c y z : Expr} {pos : Pos} (h1 : PT X c (tT ca Φ W t)) (h2 : PE X y (tE ca Φ W a)) (h3 : PE X z (tE ca Φ W b)) : PE X (.IfExp c y z pos) (tE ca Φ W (.ite t a b)) := by
  refine peImp (pe_ifExp h1 h2 h3) fun σ H Q q => ?_
  obtain ⟨F, O, env, k, ae, bl, p⟩ := q
  have e3 : one1 (ev Φ (.ite t a b) env) = (one1 (ev Φ t env)).bind fun r => (asB r.1).bind fun w => one1 (if w then ev Φ a r.2 else ev Φ b r.2) := by
    show one1 ((one1 (ev Φ t env)).bind _) = _
    rw [one1_bind]
    congr 1
    funext r
    exact one1_bind _ _
  rw [e3] at p
  refine test_then (f := fun w env1 => one1 (if w = true then ev Φ a env1 else ev Φ b env1)) ae bl p fun w env1 F1 O1 H1 ae1 bl1 p1 => ?_
  cases w with
  | true =>
    rw [if_pos rfl]
    exact ⟨F1, O1, env1, k, ae1, bl1, p1⟩
  | false =>
    rw [if_neg Bool.false_ne_true]
    exact ⟨F1, O1, env1, k, ae1, bl1, p1⟩
theorem snd_one {a : T} {y : Expr} {op : BoolOp} {pos : Pos} (h : PE X y (tE ca Φ W a)) : PE X (.BoolOp op [y] pos) (tE ca Φ W (.one a)) := pe_one h
/-- a Boolean answer behind a test -/
theorem bl_done {σ : L2.St} {H : Hp} {Q : VK} {F : Hp} {O : Own} {env : En} {k : Nat} {b : Bool} (ae : AE ca F O env σ H) (bl : Below O k) (p : PostG ca W σ k F O H (.ok (R.sh (.bl b), env)) (CE ca σ k Q)) : Q (.bl b) H :=
  p.here (.bl b) ae (by show Rep ca F (.bl b) (.bl b); unfold Rep; rfl) (below_bl bl)
theorem boolV {σ : L2.St} {H : Hp} {Q : VK} {e : T} (h : tE ca Φ W e σ H fun v H1 => ∀ c, v = .bl c → Q v H1) : True := trivial
theorem snd_not {a : T} {y : Expr} {pos : Pos} (h : PE X y (tE ca Φ W a)) : PE X (.UnaryOp .Not y pos) (tE ca Φ W (.not a)) := by
  refine peImp (pe_not h) fun σ H Q q => ?_
  obtain ⟨F, O, env, k, ae, bl, p⟩ := q
  have e3 : one1 (ev Φ (.not a) env) = (one1 (ev Φ a env)).bind fun r => (asB r.1).bind fun w => .ok (.sh (.bl (!w)), r.2) := by
    show one1 ((one1 (ev Φ a env)).bind _) = _
    rw [one1_bind]
    congr 1
    funext r
    exact one1_bind _ _
  rw [e3] at p
  refine ⟨F, O, env, k, ae, bl, p.bind.imp fun r F1 O1 H1 st1 p1 v ae1 rv bl1 => ?_⟩
  cases e : asB r.1 with
  | ok w =>
    rw [e] at p1
    rw [asB_rep e] at rv
    have ev : v = .bl w := by unfold RepR Rep at rv; exact rv
    refine ⟨w, ev, ?_⟩
    exact (p1.here (.bl (!w)) ae1 (by show Rep ca F1 (.bl (!w)) (.bl (!w)); unfold Rep; rfl) bl1)
  | ex c d => exact (asB_ex e).elim
  | no =>
    rw [e] at p1
    exact p1.elim
theorem snd_notT {a : T} {y : Expr} {pos : Pos} (h : PT X y (tT ca Φ W a)) : PT X (.UnaryOp .Not y pos) (tT ca Φ W (.not a)) := by
  refine ptImp (pt_not h) fun σ H Q q => ?_
  obtain ⟨F, O, env, k, ae, bl, p⟩ := q
  have e3 : evB Φ (.not a) env = (one1 (ev Φ a env)).bind fun r => (asB r.1).bind fun w => .ok (!w, r.2) := by
    show (one1 ((one1 (ev Φ a env)).bind _)).bind _ = _
    rw [one1_bind, M.bind_assoc]
    congr 1
    funext r
    rw [one1_bind, M.bind_assoc]
    cases asB r.1 <;> rfl
  rw [e3] at p
  exact test_then (f := fun w env1 => .ok (!w, env1)) ae bl p fun w env1 F1 O1 H1 ae1 bl1 p1 => p1.here ae1 bl1
theorem andE {a b : T} {env : En} : one1 (ev Φ (.and a b) env) = (one1 (ev Φ a env)).bind fun r => (asB r.1).bind fun w => if w then one1 (ev Φ b r.2) else .ok (.sh (.bl false), r.2) := by
  show one1 ((one1 (ev Φ a env)).bind _) = _
  rw [one1_bind]
  congr 1
  funext r
  rw [one1_bind]
  congr 1
  funext w
  cases w <;> rfl
theorem orE {a b : T} {env : En} : one1 (ev Φ (.or a b) env) = (one1 (ev Φ a env)).bind fun r => (asB r.1).bind fun w => if w then .ok (.sh (.bl true), r.2) else one1 (ev Φ b r.2) := by
  show one1 ((one1 (ev Φ a env)).bind _) = _
  rw [one1_bind]
  congr 1
  funext r
  rw [one1_bind]
  congr 1
  funext w
  cases w <;> rfl
theorem snd_and {a b : T} {y z : Expr} {r : List Expr} {pos : Pos} (h1 : PE X y (tE ca Φ W a)) (h2 : PE X (.BoolOp .And (z :: r) pos) (tE ca Φ W b)) : PE X (.BoolOp .And (y :: z :: r) pos) (tE ca Φ W (.and a b)) := by
  refine peImp (pe_and h1 h2) fun σ H Q q => ?_
  obtain ⟨F, O, env, k, ae, bl, p⟩ := q
  rw [andE] at p
  refine ⟨F, O, env, k, ae, bl, p.bind.imp fun r F1 O1 H1 st1 p1 v ae1 rv bl1 => ?_⟩
  cases e : asB r.1 with
  | ok w =>
    rw [e] at p1
    rw [asB_rep e] at rv
    have ev : v = .bl w := by unfold RepR Rep at rv; exact rv
    refine ⟨w, ev, ?_⟩
    cases w with
    | true =>
      rw [if_pos rfl]
      exact ⟨mF (aTz k) O1 F1 H1, mO (aTz k) O1, r.2, k, ae1.mapS _ fun _ _ => rfl, below_tz, (show PostG ca W σ k F1 O1 H1 (M.ok ()) (fun _ F' O' H' => PostG ca W σ k F' O' H' (one1 (FH.ev Φ b r.2)) (CE ca σ k Q)) from PostG.bind (m := .ok ()) (f := fun _ => one1 (FH.ev Φ b r.2)) p1) _ _ _ (ae1.bs.stp (aTz_low k))⟩
    | false =>
      rw [if_neg Bool.false_ne_true]
      exact p1.here (.bl false) ae1 (by show Rep ca F1 (.bl false) (.bl false); unfold Rep; rfl) bl1
  | ex c d => exact (asB_ex e).elim
  | no =>
    rw [e] at p1
    exact p1.elim
theorem snd_or {a b : T} {y z : Expr} {r : List Expr} {pos : Pos} (h1 : PE X y (tE ca Φ W a)) (h2 : PE X (.BoolOp .Or (z :: r) pos) (tE ca Φ W b)) : PE X (.BoolOp .Or (y :: z :: r) pos) (tE ca Φ W (.or a b)) := by
  refine peImp (pe_or h1 h2) fun σ H Q q => ?_
  obtain ⟨F, O, env, k, ae, bl, p⟩ := q
  rw [orE] at p
  refine ⟨F, O, env, k, ae, bl, p.bind.imp fun r F1 O1 H1 st1 p1 v ae1 rv bl1 => ?_⟩
  cases e : asB r.1 with
  | ok w =>
    rw [e] at p1
    rw [asB_rep e] at rv
    have ev : v = .bl w := by unfold RepR Rep at rv; exact rv
    refine ⟨w, ev, ?_⟩
    cases w with
    | false =>
      rw [if_neg Bool.false_ne_true]
      exact ⟨mF (aTz k) O1 F1 H1, mO (aTz k) O1, r.2, k, ae1.mapS _ fun _ _ => rfl, below_tz, (show PostG ca W σ k F1 O1 H1 (M.ok ()) (fun _ F' O' H' => PostG ca W σ k F' O' H' (one1 (FH.ev Φ b r.2)) (CE ca σ k Q)) from PostG.bind (m := .ok ()) (f := fun _ => one1 (FH.ev Φ b r.2)) p1) _ _ _ (ae1.bs.stp (aTz_low k))⟩
    | true =>
      rw [if_pos rfl]
      exact p1.here (.bl true) ae1 (by show Rep ca F1 (.bl true) (.bl true); unfold Rep; rfl) bl1
  | ex c d => exact (asB_ex e).elim
  | no =>
    rw [e] at p1
    exact p1.elim
/-- and, or as tests -/
theorem andB {a b : T} {env : En} : evB Φ (.and a b) env = (one1 (ev Φ a env)).bind fun r => (asB r.1).bind fun w => if w then evB Φ b r.2 else .ok (false, r.2) := by
  unfold evB
  rw [andE, M.bind_assoc]
  congr 1
  funext r
  rw [M.bind_assoc]
  congr 1
  funext w
  cases w <;> rfl
theorem orB {a b : T} {env : En} : evB Φ (.or a b) env = (one1 (ev Φ a env)).bind fun r => (asB r.1).bind fun w => if w then .ok (true, r.2) else evB Φ b r.2 := by
  unfold evB
  rw [orE, M.bind_assoc]
  congr 1
  funext r
  rw [M.bind_assoc]
  congr 1
  funext w
  cases w <;> rfl
theorem pw_one {op : BoolOp} {a : T} {y : Expr} {pos : Pos} (h : PT X y (tT ca Φ W a)) : PW X (.BoolOp op [y] pos) (tT ca Φ W (.one a)) := by
  cases op with
  | And => exact pw_and1 h
  | Or => exact pw_or1 h
theorem pw_and' {a b : T} {y z : Expr} {r : List Expr} {pos : Pos} (h1 : PT X y (tT ca Φ W a)) (h2 : PW X (.BoolOp .And (z :: r) pos) (tT ca Φ W b)) : PW X (.BoolOp .And (y :: z :: r) pos) (tT ca Φ W (.and a b)) := by
  refine ⟨fun wh pins s σ H Q I q => (pw_and h1 h2).run wh pins s σ H Q I ?_⟩
  obtain ⟨F, O, env, k, ae, bl, p⟩ := q
  rw [andB] at p
  refine test_then (f := fun w env1 => if w = true then evB Φ b env1 else .ok (false, env1)) ae bl p fun w env1 F1 O1 H1 ae1 bl1 p1 => ?_
  cases w with
  | true =>
    rw [if_pos rfl] at p1 ⊢
    exact ⟨F1, O1, env1, k, ae1, bl1, p1⟩
  | false =>
    rw [if_neg Bool.false_ne_true] at p1 ⊢
    exact p1.here ae1 bl1
theorem pw_or' {a b : T} {y z : Expr} {r : List Expr} {pos : Pos} (h1 : PT X y (tT ca Φ W a)) (h2 : PW X (.BoolOp .Or (z :: r) pos) (tT ca Φ W b)) : PW X (.BoolOp .Or (y :: z :: r) pos) (tT ca Φ W (.or a b)) := by
  refine ⟨fun wh pins s σ H Q I q => (pw_or h1 h2).run wh pins s σ H Q I ?_⟩
  obtain ⟨F, O, env, k, ae, bl, p⟩ := q
  rw [orB] at p
  refine test_then (f := fun w env1 => if w = true then .ok (true, env1) else evB Φ b env1) ae bl p fun w env1 F1 O1 H1 ae1 bl1 p1 => ?_
  cases w with
  | true =>
    rw [if_pos rfl] at p1 ⊢
    exact p1.here ae1 bl1
  | false =>
    rw [if_neg Bool.false_ne_true] at p1 ⊢
    exact ⟨F1, O1, env1, k, ae1, bl1, p1⟩
theorem snd_iteT {t a b : T} {c y z : Expr} {pos : Pos} (h1 : PT X (.IfExp c y z pos) (tT ca Φ W (.ite t a b))) : True := trivial
end
end FH
set_option Elab.async false
set_option linter.all false
set_option maxRecDepth 100000
set_option maxHeartbeats 2000000
namespace FH
open PySem PySem.Spec PyProof.Rows L2
section
variable {ca : Cs} {F F' H H' : Hp} {O O' : Own} {L L' : Nat → Lab}
theorem RepO.rel {l l' : Lab} {d : D} {v : V} (h : RepO ca F H O l d v) (e : Sub F F') (k : ∀ a o, O a = some l → H a = some o → H' a = some o ∧ O' a = some l') : RepO ca F' H' O' l' d v := by
  cases d with
  | lst t xs =>
    obtain ⟨a, vs, h1, h2, h3, h4, h5⟩ := h
    obtain ⟨k1, k2⟩ := k a _ h3 h2
    exact ⟨a, vs, h1, k1, k2, h4, Reps.mono e _ _ h5⟩
  | dic t xs =>
    obtain ⟨a, vs, h1, h2, h3, h4, h5⟩ := h
    obtain ⟨k1, k2⟩ := k a _ h3 h2
    exact ⟨a, vs, h1, k1, k2, h4, RepK.mono e _ _ h5⟩
  | _ => exact Rep.mono e _ _ h
theorem RepC.rel : ∀ {cs : List (Bool × D)} {c : Nat} {vs : List V}, RepC ca F H O L c cs vs → Sub F F' → (∀ j a o, O a = some (L j) → H a = some o → H' a = some o ∧ O' a = some (L' j)) → RepC ca F' H' O' L' c cs vs
  | [], c, vs, h, e, k => by unfold RepC at h ⊢; exact h
  | (true, d) :: r, c, vs, h, e, k => by
    unfold RepC at h ⊢
    obtain ⟨v, w, h1, h2, h3⟩ := h
    exact ⟨v, w, h1, h2.rel e (k c), RepC.rel h3 e k⟩
  | (false, d) :: r, c, vs, h, e, k => by
    unfold RepC at h ⊢
    obtain ⟨v, w, h1, h2, h3⟩ := h
    exact ⟨v, w, h1, Rep.mono e _ _ h2, RepC.rel h3 e k⟩
theorem RepR.rel {r : R} {v : V} (h : RepR ca F H O L r v) (e : Sub F F') (k : ∀ j a o, O a = some (L j) → H a = some o → H' a = some o ∧ O' a = some (L' j)) : RepR ca F' H' O' L' r v := by
  cases r with
  | sh d => exact Rep.mono e _ _ h
  | ow d => exact RepO.rel h e (k 0)
  | tp cs =>
    obtain ⟨a, vs, h1, h2, h3⟩ := h
    exact ⟨a, vs, h1, e _ _ h2, h3.rel e k⟩
end
/-! the callee's owners, the caller's behind the call -/
def aCall (k : Nat) : Act := fun l => match l with
  | .s _ _ => some none
  | .t j c => if j < k then some none else some (some (.s (j - k) c))
def oBack (k : Nat) (lk : List (Option Nat)) (O1 O' : Own) : Own := fun a => match O' a with
  | some (.t j c) => if j = 0 then some (.t k c) else none
  | some (.s j c) => (match lk[j]? with
    | some (some i) => some (.s i c)
    | _ => none)
  | none => (match O1 a with
    | some (.t j c) => if j < k then some (.t j c) else none
    | x => x)
theorem aCall_ne (k : Nat) (l : Lab) : aCall k l ≠ none := by
  cases l with
  | s i c => exact fun h => nomatch h
  | t j c =>
    show (if j < k then some none else some (some (Lab.s (j - k) c))) ≠ none
    split <;> exact fun h => nomatch h
theorem mF_same {φ : Act} {O : Own} {F H : Hp} (h : ∀ l, φ l ≠ none) : mF φ O F H = F := by
  funext a
  cases e : O a with
  | none => exact mF_none e
  | some l =>
    cases q : φ l with
    | none => exact absurd q (h l)
    | some x => exact mF_keep e q
section
variable {ca : Cs} {k : Nat} {F1 H1 F' H' : Hp} {O1 O' : Own} {lk : List (Option Nat)}
theorem oc_pk {a : Addr} (h : Pk k O1 a ∨ ∃ i c, O1 a = some (.s i c)) : mO (aCall k) O1 a = none := by
  cases e : O1 a with
  | none => exact mO_none e
  | some l =>
    cases l with
    | s i c => unfold mO; rw [e] <;> rfl
    | t j c =>
      have hj : j < k := by
        rcases h with h | ⟨i, c', h⟩
        · exact h.2 j c e
        · rw [e] at h; cases h
      unfold mO
      rw [e]
      show (match (if j < k then some none else some (some (Lab.s (j - k) c))) with | some (some l') => some l' | _ => none) = none
      rw [if_pos hj]
theorem pk0_of {a : Addr} (h : mO (aCall k) O1 a = none) : Pk 0 (mO (aCall k) O1) a := by
  constructor
  · intro i c z
    rw [h] at z
    cases z
  · intro j c z
    rw [h] at z
    cases z
structure Back (k : Nat) (lk : List (Option Nat)) (F1 : Hp) (O1 : Own) (H1 F' : Hp) (O' : Own) (H' : Hp) : Prop where
  bs : Bs F' (oBack k lk O1 O') H'
  st : Stp k F1 O1 H1 F' (oBack k lk O1 O') H'
  old : ∀ a o i c, O1 a = some (.s i c) → H1 a = some o → H' a = some o ∧ oBack k lk O1 O' a = some (.s i c)
  res : ∀ a c, O' a = some (.t 0 c) → oBack k lk O1 O' a = some (.t k c)
  lent : ∀ a i j c, lk[j]? = some (some i) → O' a = some (.s j c) → oBack k lk O1 O' a = some (.s i c)
  bl : Below (oBack k lk O1 O') (k + 1)
theorem back_of (b1 : Bs F1 O1 H1) (st : Stp 0 F1 (mO (aCall k) O1) H1 F' O' H') (b : Bs F' O' H') : Back k lk F1 O1 H1 F' O' H' := by
  -- where the caller's owner stays, the callee has none
  have stay : ∀ a, (Pk k O1 a ∨ ∃ i c, O1 a = some (.s i c)) → ∀ o, H1 a = some o → O' a = none ∧ H' a = some o ∧ (F1 a = none → F' a = none) := fun a h o e => by
    have n := oc_pk h
    have p := pk0_of n
    exact ⟨by rw [st.lab a o e p]; exact n, st.keep a o e p, st.frz a o e p⟩
  have old : ∀ a l, oBack k lk O1 O' a = some l → O' a = none → O1 a = some l ∧ (Pk k O1 a ∨ ∃ i c, O1 a = some (.s i c)) := fun a l h n => by
    unfold oBack at h
    rw [n] at h
    simp only at h
    cases e : O1 a with
    | none => rw [e] at h; cases h
    | some m =>
      rw [e] at h
      cases m with
      | s i c => exact ⟨h, .inr ⟨i, c, rfl⟩⟩
      | t j c =>
        simp only at h
        split at h
        · rename_i hj
          refine ⟨h, .inl ⟨fun i c' z => ?_, fun j' c' z => ?_⟩⟩
          · rw [e] at z; cases z
          · rw [e] at z; cases z; exact hj
        · cases h
  refine ⟨⟨b.sub, fun a l h => ?_, fun a l h => ?_⟩, ⟨st.ext, fun a o e p => ?_, fun a o e p => ?_, fun a o e p n => ?_, st.dom⟩, fun a o i c e h => ?_, fun a c e => ?_, fun a i j c e h => ?_, fun a j c h => ?_⟩
  · cases q : O' a with
    | some m => exact b.dis a m q
    | none =>
      obtain ⟨h1, h2⟩ := old a l h q
      obtain ⟨o, ho⟩ := b1.own a l h1
      exact (stay a h2 o ho).2.2 (b1.dis a l h1)
  · cases q : O' a with
    | some m => exact b.own a m q
    | none =>
      obtain ⟨h1, h2⟩ := old a l h q
      obtain ⟨o, ho⟩ := b1.own a l h1
      exact ⟨o, (stay a h2 o ho).2.1⟩
  · exact (stay a (.inl p) o e).2.1
  · have n := (stay a (.inl p) o e).1
    unfold oBack
    rw [n]
    simp only
    cases q : O1 a with
    | none => rfl
    | some m =>
      cases m with
      | s i c => exact absurd q (p.1 i c)
      | t j c => exact if_pos (p.2 j c q)
  · exact (stay a (.inl p) o e).2.2 n
  · obtain ⟨h1, h2, _⟩ := stay a (.inr ⟨i, c, e⟩) o h
    refine ⟨h2, ?_⟩
    unfold oBack
    rw [h1, e]
  · unfold oBack
    rw [e]
    exact if_pos rfl
  · unfold oBack
    rw [h]
    simp only
    rw [e]
  · cases q : O' a with
    | none =>
      obtain ⟨h1, h2⟩ := old a _ h q
      rcases h2 with h2 | ⟨i, c', h2⟩
      · exact Nat.lt_succ_of_lt (h2.2 j c h1)
      · rw [h1] at h2; cases h2
    | some m =>
      unfold oBack at h
      rw [q] at h
      cases m with
      | s i c' =>
        simp only at h
        split at h <;> cases h
      | t i c' =>
        simp only at h
        split at h
        · cases h; exact Nat.lt_succ_self _
        · cases h
end
theorem backs_get : ∀ (outs : List (Option R)) (lk : List (Option Nat)) (env : En) (i : Nat) (r : R), (backs outs lk env)[i]? = some (some r) → env[i]? = some (some r) ∨ ∃ j : Nat, outs[j]? = some (some r) ∧ lk[j]? = some (some i)
  | [], lk, env, i, r, h => .inl (by cases lk <;> exact h)
  | _ :: _, [], env, i, r, h => .inl (by
      rename_i o os
      cases o <;> exact h)
  | o :: os, l :: ls, env, i, r, h => by
    have rest : ∀ env', (backs os ls env')[i]? = some (some r) → env'[i]? = some (some r) ∨ ∃ j : Nat, (o :: os)[j]? = some (some r) ∧ (l :: ls)[j]? = some (some i) := fun env' h' => by
      rcases backs_get os ls env' i r h' with q | ⟨j, q1, q2⟩
      · exact .inl q
      · exact .inr ⟨j + 1, q1, q2⟩
    cases o with
    | none => exact rest env (by cases l <;> exact h)
    | some r' =>
      cases l with
      | none => exact rest env h
      | some i' =>
        rcases rest (env.set i' (some r')) h with q | q
        · rcases set_slot q with ⟨q1, q2⟩ | ⟨_, q2⟩
          · cases q2
            exact .inr ⟨0, rfl, by rw [q1] <;> rfl⟩
          · exact .inl q2
        · exact .inr q
/-- the slots behind a call -/
theorem back_ae {ca : Cs} {k : Nat} {F1 H1 F' H' : Hp} {O1 O' : Own} {lk : List (Option Nat)} {env : En} {σ : L2.St} {outs : List (Option R)} {vs : List V} (ae : AE ca F1 O1 env σ H1) (B : Back k lk F1 O1 H1 F' O' H') (ln : Lnk lk σ vs)
    (ho : ∀ j r', outs[j]? = some (some r') → ∃ v', vs[j]? = some v' ∧ RepR ca F' H' O' (.s j) r' v') : AE ca F' (oBack k lk O1 O') (backs outs lk env) σ H' :=
  B.bs.ae fun i r h => by
    rcases backs_get outs lk env i r h with q | ⟨j, q1, q2⟩
    · obtain ⟨v, s1, s2⟩ := ae.slot i r q
      exact ⟨v, s1, s2.mono B.st.ext fun c a o e e' => B.old a o i c e e'⟩
    · obtain ⟨v', e1, e2⟩ := ho j r q1
      obtain ⟨v, e3, e4⟩ := ln j i q2
      rw [e1] at e3
      cases e3
      exact ⟨v', e4, e2.rel (.refl _) fun c a o e e' => ⟨e', B.lent a i j c q2 e⟩⟩
section
variable {X : Cx} {ca : Cs} {Φ : FT} {gs : List (Str × V)} {W : WX} {x : Expr}
theorem run_G {k : Nat} {f : Addr} {fd : FuncData} {ps : List Str} {sp : Sp} {pins : List (Addr × Obj)} {σ : L2.St} {H : Hp} {s : Shared} {Q : VK} {us : List Value} {vs : List V} (Fn : FnG X.prog X.w X.K X.mg X.base k f fd ps sp) (hr : RoomG k X.A)
    (hb : Binds X.K fd ps []) (tk : Takes X W) (I : Inv X pins σ H s) (r : Vals vs us) (h : sp vs H Q (WE W σ)) : wpAny (model X.prog X.w) X.A (call (.ref f) us) (EP X pins σ Q) X.xe s := by
  have hl : us.length = ps.length := r.length.symm.trans (Fn.len _ _ _ _ h)
  have b := hb s us I.kIn (by rw [List.append_nil]; exact hl)
  rw [List.append_nil] at b
  have go := Fn.run X.A X.stack s H ⟨us, []⟩ us vs Q (WE W σ) hr I.env0 b r h
  refine wpAny_call (codeAny_mono go ?_)
  intro res s' hq
  match res, hq with
  | .error e, hq => exact passAt tk σ pins H s e s' I hq
  | .ok (.ret u), hq => exact I.after hq
  | .ok .next, hq => exact False.elim hq
  | .ok .brk, hq => exact False.elim hq
  | .ok .cont, hq => exact False.elim hq
def tCallG (sp : Sp) (W : WX) (t : TA) : TE := fun σ H Q => t σ H fun vs H1 => sp vs H1 Q (WE W σ)
theorem pe_callG {k : Nat} {f : Addr} {fd : FuncData} {ps : List Str} {sp : Sp} {y : Str} {p pos : Pos} {es : List Expr} {t : TA} (Fn : FnG X.prog X.w X.K X.mg X.base k f fd ps sp) (hr : RoomG k X.A) (hb : Binds X.K fd ps []) (tk : Takes X W)
    (hg : Gl X y) (hm : X.mg y = some (.ref f)) (hk : PySem.W.keepIn X.K (.ref f) = true) (hdb : (y == ("__debug__" : Str)) = false) (ha : PA X es t) (hp : plains es = true) (ht : es = [] → t = tNil) :
    PE X (.Call (.Name y p) es [] pos) (tCallG sp W t) := by
  constructor
  intro pins s σ H Q I h
  refine wpAny_Call_Name_kw (ld_glob I hg hm ?_ hdb)
  cases es with
  | nil =>
    have e := ht rfl
    subst e
    exact PySem.W.callWith_K0 I.kIn hk (run_G (us := []) Fn hr hb tk I .nil h)
  | cons e es =>
    unfold plains at hp
    simp only [Bool.and_eq_true] at hp
    refine PySem.W.callWith_K (h₀ := X.base) I.ok.mod.kin hk ?_ (star_plain hp.1) (star_plains hp.2)
    refine thn (ha.run pos pins s σ H _ I h) ?_
    rintro us s1 ⟨vs, H1, I1, r, q⟩
    exact ⟨I1.kIn, run_G Fn hr hb tk I1 r q⟩
theorem snd_call (G : Good X ca Φ gs W) {f : Str} {es : T} {xs : List Expr} {p pos : Pos} (h : ArgOk X ca Φ W es xs) (hp : plains xs = true) (hg : gl (cOf X gs) f = true) : PE X (.Call (.Name f p) xs [] pos) (tE ca Φ W (.call f es)) := by
  obtain ⟨ts, pe, i⟩ := h
  obtain ⟨g1, g2, _⟩ := gl_ok hg
  cases ef : Φ f with
  | none =>
    refine ⟨fun pins s σ H Q I q => ?_⟩
    obtain ⟨F, O, env, k, ae, bl, p⟩ := q
    have e0 : ev Φ (.call f es) env = (match Φ f with
      | some g => (ev Φ es env).bind fun a => (g a.1).bind fun b => .ok ([b.1], backs b.2 (bkOf es) a.2)
      | none => .no) := rfl
    have e : one1 (ev Φ (.call f es) env) = .no := by
      rw [e0, ef] <;> rfl
    rw [e] at p
    exact p.elim
  | some g =>
    obtain ⟨n, fa, fd, ps, Fn, hr, hm, hk, hb⟩ := G.fn f g ef
    refine peImp (pe_callG Fn hr hb G.tk g1 hm hk g2 (pe.pa hp) hp ?_) fun σ H Q q => ?_
    · intro e
      subst e
      cases pe <;> rfl
    · obtain ⟨F, O, env, k, ae, bl, p⟩ := q
      have e3 : one1 (ev Φ (.call f es) env) = (ev Φ es env).bind fun a => (g a.1).bind fun b => .ok (b.1, backs b.2 (bkOf es) a.2) := by
        have e0 : ev Φ (.call f es) env = (match Φ f with
          | some g => (ev Φ es env).bind fun a => (g a.1).bind fun b => .ok ([b.1], backs b.2 (bkOf es) a.2)
          | none => .no) := rfl
        rw [e0, ef, one1_bind]
        congr 1
        funext a
        exact one1_bind _ _
      rw [e3] at p
      refine i _ _ _ ⟨F, O, env, k, ae, bl, p.bind.imp fun a F1 O1 H1 st1 p1 vs ae1 rvs bl1 z => ?_⟩
      have hF : mF (aCall k) O1 F1 H1 = F1 := mF_same (aCall_ne k)
      have bc : Bs F1 (mO (aCall k) O1) H1 := by
        have := ae1.bs.map (aCall k)
        rw [hF] at this
        exact this
      have rc : RepRs ca F1 H1 (mO (aCall k) O1) Lab.s 0 a.1 vs := by
        have := RepRs.map (φ := aCall k) (L := Lab.t) (L' := Lab.s) (m := 0) ae1.bs (fun j c hj => by
          show (if j < k then some none else some (some (Lab.s (j - k) c))) = _
          rw [if_neg (by omega)] <;> rfl) rvs
        rw [hF] at this
        exact this
      refine ⟨F1, mO (aCall k) O1, a.1, bc, fun a' l e => ?_, rc, ?_⟩
      · obtain ⟨l0, e1, e2⟩ := mO_inv e
        cases l0 with
        | s i' c => cases e2
        | t j c =>
          have e2' : (if j < k then some none else some (some (Lab.s (j - k) c))) = some (some l) := e2
          split at e2'
          · cases e2'
          · cases e2'; exact ⟨_, _, rfl⟩
      · cases eg : g a.1 with
        | ok b =>
          obtain ⟨r, outs⟩ := b
          rw [eg] at p1
          intro v F' O' H' st b' rv ho
          have B : Back k (bkOf es) F1 O1 H1 F' O' H' := back_of ae1.bs st b'
          exact p1 F' _ H' B.st v (back_ae ae1 B z.1 ho) (rv.rel (.refl _) fun c a' o e e' => ⟨e', B.res a' c e⟩) B.bl
        | ex c d =>
          rw [eg] at p1
          intro dx v n' F' O' H' st b' hx hr'
          have B : Back k (bkOf es) F1 O1 H1 F' O' H' := back_of ae1.bs st b'
          exact p1 dx v n' F' _ H' B.st B.bs hx hr'
        | no =>
          rw [eg] at p1
          exact p1.elim
end
end FH
set_option Elab.async false
set_option linter.all false
set_option maxRecDepth 100000
set_option maxHeartbeats 2000000
namespace FH
open PySem PySem.Spec PyProof.Rows L2
/-! ### operands as they are read -/
def RepA1 (ca : Cs) (F H : Hp) : D → V → Prop
  | .lst _ xs, v => ∃ a vs, v = .ref a ∧ H a = some (.lst vs) ∧ Reps ca F xs vs
  | .dic _ kvs, v => ∃ a vs, v = .ref a ∧ H a = some (.dK vs) ∧ RepK ca F kvs vs
  | d, v => Rep ca F d v
def RepA (ca : Cs) (F H : Hp) : D → V → Prop
  | .tup ds, v => ∃ a vs, v = .ref a ∧ H a = some (.tup vs) ∧ vs.length = ds.length ∧ ∀ (i : Nat) (d : D) (w : V), ds[i]? = some d → vs[i]? = some w → RepA1 ca F H d w
  | d, v => RepA1 ca F H d v
section
variable {ca : Cs} {F H : Hp} {O : Own} {L : Nat → Lab}
theorem Rep.a1 (e : Sub F H) {d : D} {v : V} (h : Rep ca F d v) : RepA1 ca F H d v := by
  cases d with
  | lst t xs =>
    unfold Rep at h
    obtain ⟨a, vs, h1, h2, _, h4⟩ := h
    exact ⟨a, vs, h1, e _ _ h2, h4⟩
  | dic t xs =>
    unfold Rep at h
    obtain ⟨a, vs, h1, h2, _, h4⟩ := h
    exact ⟨a, vs, h1, e _ _ h2, h4⟩
  | _ => exact h
theorem RepO.a1 {l : Lab} (e : Sub F H) {d : D} {v : V} (h : RepO ca F H O l d v) : RepA1 ca F H d v := by
  cases d with
  | lst t xs =>
    obtain ⟨a, vs, h1, h2, _, _, h4⟩ := h
    exact ⟨a, vs, h1, h2, h4⟩
  | dic t xs =>
    obtain ⟨a, vs, h1, h2, _, _, h4⟩ := h
    exact ⟨a, vs, h1, h2, h4⟩
  | _ => exact Rep.a1 e h
theorem RepA1.a (e : Sub F H) {d : D} {v : V} (h : RepA1 ca F H d v) : RepA ca F H d v := by
  cases d with
  | tup ds =>
    have h' : Rep ca F (.tup ds) v := h
    unfold Rep at h'
    obtain ⟨a, vs, h1, h2, h3⟩ := h'
    refine ⟨a, vs, h1, e _ _ h2, h3.length, fun i d w e1 e2 => ?_⟩
    obtain ⟨w', e3, r⟩ := h3.get e1
    rw [e2] at e3; cases e3
    exact Rep.a1 e r
  | _ => exact h
theorem repC_len : ∀ {cs : List (Bool × D)} {c : Nat} {vs : List V}, RepC ca F H O L c cs vs → vs.length = cs.length
  | [], c, vs, h => by unfold RepC at h; subst h; rfl
  | (true, d) :: r, c, vs, h => by
    unfold RepC at h
    obtain ⟨v, w, h1, h2, h3⟩ := h
    subst h1
    rw [List.length_cons, List.length_cons, repC_len h3]
  | (false, d) :: r, c, vs, h => by
    unfold RepC at h
    obtain ⟨v, w, h1, h2, h3⟩ := h
    subst h1
    rw [List.length_cons, List.length_cons, repC_len h3]
theorem repC_get (e : Sub F H) : ∀ {cs : List (Bool × D)} {c : Nat} {vs : List V} {i : Nat} {d : D} {w : V}, RepC ca F H O L c cs vs → (cs.map (·.2))[i]? = some d → vs[i]? = some w → RepA1 ca F H d w
  | [], c, vs, i, d, w, h, e1, e2 => by simp at e1
  | (b, d0) :: r, c, vs, i, d, w, h, e1, e2 => by
    have key : ∃ v us, vs = v :: us ∧ RepA1 ca F H d0 v ∧ RepC ca F H O L (c + 1) r us := by
      cases b with
      | true =>
        unfold RepC at h
        obtain ⟨v, us, h1, h2, h3⟩ := h
        exact ⟨v, us, h1, h2.a1 e, h3⟩
      | false =>
        unfold RepC at h
        obtain ⟨v, us, h1, h2, h3⟩ := h
        exact ⟨v, us, h1, h2.a1 e, h3⟩
    obtain ⟨v, us, h1, h2, h3⟩ := key
    subst h1
    cases i with
    | zero =>
      simp at e1 e2
      subst e1 e2
      exact h2
    | succ i => exact repC_get e (i := i) h3 (by simpa using e1) (by simpa using e2)
theorem RepR.a (e : Sub F H) {r : R} {v : V} (h : RepR ca F H O L r v) : RepA ca F H r.d v := by
  cases r with
  | sh d => exact (Rep.a1 e h).a e
  | ow d => exact (RepO.a1 e h).a e
  | tp cs =>
    obtain ⟨a, vs, h1, h2, h3⟩ := h
    refine ⟨a, vs, h1, e _ _ h2, ?_, fun i d w e1 e2 => repC_get e h3 e1 e2⟩
    rw [repC_len h3, List.length_map]
theorem RepR.a1 (e : Sub F H) {r : R} {v : V} (h : RepR ca F H O L r v) (n : noTp r = true) : RepA1 ca F H r.d v := by
  cases r with
  | sh d => exact Rep.a1 e h
  | ow d => exact RepO.a1 e h
  | tp cs => cases n
end
/-- rows -/
def All2 (P : D → V → Prop) : List D → List V → Prop
  | [], vs => vs = []
  | d :: ds, vs => ∃ v w, vs = v :: w ∧ P d v ∧ All2 P ds w
theorem RepRs.all2 {ca : Cs} {F H : Hp} {O : Own} {L : Nat → Nat → Lab} {P : D → V → Prop} : ∀ {rs : List R} {k : Nat} {vs : List V}, RepRs ca F H O L k rs vs → (∀ r, r ∈ rs → ∀ L' v, RepR ca F H O L' r v → P r.d v) → All2 P (rs.map R.d) vs
  | [], k, vs, h, _ => by unfold RepRs at h; exact h
  | r :: rs, k, vs, h, g => by
    unfold RepRs at h
    obtain ⟨v, w, h1, h2, h3⟩ := h
    exact ⟨v, w, h1, g r List.mem_cons_self _ _ h2, h3.all2 fun r' m => g r' (List.mem_cons_of_mem _ m)⟩
/-- an answer: what stood stands; what is new is frozen, but the root of a new list or dict -/
structure Fin (ca : Cs) (F H : Hp) (r : R) (v : V) (F' H' : Hp) : Prop where
  sub : Sub H H'
  ext : Sub F F'
  ins : Sub F' H'
  new : ∀ a o, F' a = some o → F a = some o ∨ H a = none
  val : match r with
    | .sh d => Rep ca F' d v
    | .ow (.lst t xs) => t = none ∧ ∃ a vs, v = .ref a ∧ H a = none ∧ F' a = none ∧ H' a = some (.lst vs) ∧ Reps ca F' xs vs
    | .ow (.dic t xs) => t = none ∧ ∃ a vs, v = .ref a ∧ H a = none ∧ F' a = none ∧ H' a = some (.dK vs) ∧ RepK ca F' xs vs
    | _ => False
/-- an operation by values -/
def rP (ca : Cs) (p : List D → M R) : List V → Hp → VK → Prop := fun vs H Q => ∃ F ds r, Sub F H ∧ p ds = .ok r ∧ (All2 (RepA1 ca F H) ds vs ∨ (All2 (RepA ca F H) ds vs ∧ flatD r.d = true)) ∧ ∀ v F' H', Fin ca F H r v F' H' → Q v H'
theorem sem_ok {p : P} {ds : List D} : (∃ r, p.sem ds = .ok r) ∨ p.sem ds = .no ∨ ∃ c d, p.sem ds = .ex c d := by
  cases p.sem ds with
  | ok r => exact .inl ⟨r, rfl⟩
  | no => exact .inr (.inl rfl)
  | ex c d => exact .inr (.inr ⟨c, d, rfl⟩)
/-! ### the state behind an operation -/
def aPrim (k : Nat) (lk : List (Option Nat)) : Act := fun l => match l with
  | .s i c => some (some (.s i c))
  | .t j c => if j < k then some (some (.t j c)) else (match lk[j - k]? with
    | some (some i) => some (some (.s i c))
    | _ => some none)
theorem aPrim_low (k : Nat) (lk : List (Option Nat)) : Low k (aPrim k lk) := fun j c h => if_pos h
theorem aPrim_ne (k : Nat) (lk : List (Option Nat)) (l : Lab) : aPrim k lk l ≠ none := by
  cases l with
  | s i c => exact fun h => nomatch h
  | t j c =>
    unfold aPrim
    simp only
    split
    · exact fun h => nomatch h
    · split <;> exact fun h => nomatch h
theorem aPrim_lent {k j i c : Nat} {lk : List (Option Nat)} (h : lk[j]? = some (some i)) : aPrim k lk (.t (k + j) c) = some (some (.s i c)) := by
  show (if k + j < k then some (some (Lab.t (k + j) c)) else (match lk[k + j - k]? with
    | some (some i) => some (some (Lab.s i c))
    | _ => some none)) = _
  rw [if_neg (by omega), show k + j - k = j by omega, h]
section
variable {ca : Cs} {F H F' H' : Hp} {O : Own} {env : En} {σ : L2.St} {k : Nat} {lk : List (Option Nat)}
theorem prim_bs (b : Bs F O H) (lk : List (Option Nat)) (k : Nat) : Bs F (mO (aPrim k lk) O) H ∧ Stp k F O H F (mO (aPrim k lk) O) H := by
  have e : mF (aPrim k lk) O F H = F := mF_same (aPrim_ne k lk)
  have h1 := b.map (aPrim k lk)
  have h2 := b.stp (aPrim_low k lk)
  rw [e] at h1 h2
  exact ⟨h1, h2⟩
/-- the heap grows, nothing is owned anew -/
theorem fin_bs (b : Bs F O H) {r : R} {v : V} (f : Fin ca F H r v F' H') : Bs F' O H' := by
  refine ⟨f.ins, fun a l e => ?_, fun a l e => ?_⟩
  · cases q : F' a with
    | none => rfl
    | some o =>
      rcases f.new a o q with z | z
      · rw [b.dis a l e] at z; cases z
      · obtain ⟨o', y⟩ := b.own a l e
        rw [z] at y; cases y
  · obtain ⟨o, y⟩ := b.own a l e
    exact ⟨o, f.sub a o y⟩
theorem fin_stp (b : Bs F O H) {r : R} {v : V} (f : Fin ca F H r v F' H') (k : Nat) : Stp k F O H F' O H' := by
  refine ⟨f.ext, fun a o e _ => f.sub a o e, fun _ _ _ _ => rfl, fun a o e p n => ?_, fun a o e => ⟨o, f.sub a o e⟩⟩
  cases q : F' a with
  | none => rfl
  | some u =>
    rcases f.new a u q with z | z
    · rw [n] at z; cases z
    · rw [e] at z; cases z
theorem newO_bs {a : Addr} {o : HO} {l : Lab} (b : Bs F' O H') (h : H' a = some o) (n : F' a = none) : Bs F' (newO O a l) H' := by
  refine ⟨b.sub, fun c m e => ?_, fun c m e => ?_⟩
  · by_cases hc : c = a
    · subst hc; exact n
    · rw [newO_ne hc] at e; exact b.dis c m e
  · by_cases hc : c = a
    · subst hc; exact ⟨o, h⟩
    · rw [newO_ne hc] at e; exact b.own c m e
/-- behind an operation: its answer at k, the lent slots given back -/
theorem prim_end (ae : AE ca F O env σ H) (bl : Below O k ∨ True) {rs : List R} {vs : List V} (rvs : RepRs ca F H O Lab.t k rs vs) (ln : Lnk lk σ vs) {r : R} {v : V} (f : Fin ca F H r v F' H') :
    ∃ O', Stp k F O H F' O' H' ∧ AE ca F' O' (backs (rs.map some) lk env) σ H' ∧ RepR ca F' H' O' (.t k) r v ∧ Below O' (k + 1) := by
  obtain ⟨b1, s1⟩ := prim_bs ae.bs lk k
  have b2 := fin_bs b1 f
  have s2 := s1.trans (fin_stp b1 f k)
  -- the slots, before a new root is owned
  have sl : ∀ O', (∀ a l, mO (aPrim k lk) O a = some l → O' a = some l) → ∀ (i : Nat) (q : R), (backs (rs.map some) lk env)[i]? = some (some q) → ∃ w, σ[i]? = some (some w) ∧ RepR ca F' H' O' (.s i) q w := fun O' hO i q h => by
    rcases backs_get _ _ _ _ _ h with e | ⟨j, e1, e2⟩
    · obtain ⟨w, w1, w2⟩ := ae.slot i q e
      exact ⟨w, w1, w2.rel f.ext fun c a o z y => ⟨f.sub a o y, hO a _ (mO_some z rfl)⟩⟩
    · rw [List.getElem?_map] at e1
      cases er : rs[j]? with
      | none => rw [er] at e1; cases e1
      | some q' =>
        rw [er] at e1
        have e3 : q' = q := by
          have := Option.some.inj e1
          exact Option.some.inj this
        subst e3
        obtain ⟨w, w1, w2⟩ := rvs.get er
        obtain ⟨w', w3, w4⟩ := ln j i e2
        rw [w1] at w3; cases w3
        exact ⟨w, w4, w2.rel f.ext fun c a o z y => ⟨f.sub a o y, hO a _ (mO_some z (aPrim_lent e2))⟩⟩
  have lowO : ∀ a j c, mO (aPrim k lk) O a = some (.t j c) → j < k + 1 := fun a j c e => by
    obtain ⟨l, e1, e2⟩ := mO_inv e
    cases l with
    | s i' c' => cases e2
    | t j' c' =>
      unfold aPrim at e2
      simp only at e2
      split at e2
      · cases e2; omega
      · split at e2 <;> cases e2
  have root : ∀ (a : Addr) (o : HO), H a = none → F' a = none → H' a = some o → ∃ O', Stp k F O H F' O' H' ∧ AE ca F' O' (backs (rs.map some) lk env) σ H' ∧ O' a = some (.t k 0) ∧ Below O' (k + 1) := fun a o n1 n2 e => by
    have fr : mO (aPrim k lk) O a = none := (b1.fr n1).2
    refine ⟨newO (mO (aPrim k lk) O) a (.t k 0), ⟨s2.ext, s2.keep, fun c u y p => ?_, s2.frz, s2.dom⟩, (newO_bs b2 e n2).ae (sl _ (newO_keep fr)), newO_same, fun c j m y => ?_⟩
    · rw [newO_ne (fun hc => by subst hc; rw [n1] at y; cases y)]
      exact s2.lab c u y p
    · by_cases hc : c = a
      · subst hc; rw [newO_same] at y; cases y; exact Nat.lt_succ_self _
      · rw [newO_ne hc] at y; exact lowO c j m y
  cases r with
  | sh d => exact ⟨_, s2, b2.ae (sl _ fun _ _ z => z), f.val, lowO⟩
  | ow d =>
    cases d with
    | lst t xs =>
      obtain ⟨rfl, a, us, e1, e2, e3, e4, e5⟩ := f.val
      obtain ⟨O', q1, q2, q3, q4⟩ := root a _ e2 e3 e4
      exact ⟨O', q1, q2, ⟨a, us, e1, e4, q3, .inl rfl, e5⟩, q4⟩
    | dic t xs =>
      obtain ⟨rfl, a, us, e1, e2, e3, e4, e5⟩ := f.val
      obtain ⟨O', q1, q2, q3, q4⟩ := root a _ e2 e3 e4
      exact ⟨O', q1, q2, ⟨a, us, e1, e4, q3, .inl rfl, e5⟩, q4⟩
    | _ => exact (show False from f.val).elim
  | tp cs => exact (show False from f.val).elim
end
/-! ### a term that is an operation -/
section
variable {X : Cx} {ca : Cs} {Φ : FT} {gs : List (Str × V)} {W : WX} {x : Expr}
/-- the operation's rule reads p -/
def PrimE (X : Cx) (ca : Cs) (p : P) (x : Expr) (ts : List TE) : Prop := PE X x fun σ H Q => seqT ts σ H fun vs H1 => rP ca p.sem vs H1 Q
def PrimT (X : Cx) (ca : Cs) (p : P) (x : Expr) (ts : List TE) : Prop := PT X x fun σ H Q => seqT ts σ H fun vs H1 => rP ca p.sem vs H1 fun v H2 => ∃ b, v = .bl b ∧ Q b H2
theorem mopt_ex {o : Option D} {c : Str} {d : D} : mopt o ≠ .ex c d := by
  cases o <;> exact fun h => nomatch h
theorem mbo_ex {o : Option Bool} {c : Str} {d : D} : mbo o ≠ .ex c d := by
  cases o <;> exact fun h => nomatch h
theorem semBin_ex {op : Operator} {x y : D} {c : Str} {d : D} : semBin op x y ≠ .ex c d := by
  intro h
  unfold semBin at h
  split at h <;> first
    | (cases h; done)
    | (split at h <;> (cases h; done))
theorem semCmp_ex {op : CmpOp} {x y : D} {c : Str} {d : D} : semCmp op x y ≠ .ex c d := by
  intro h
  unfold semCmp at h
  split at h <;> first
    | (cases h; done)
    | exact mbo_ex h
theorem semIdx_ex {x y : D} {c : Str} {d : D} : semIdx x y ≠ .ex c d := by
  intro h
  unfold semIdx at h
  split at h <;> first
    | (cases h; done)
    | exact mopt_ex h
    | (split at h <;> first
      | (cases h; done)
      | exact mopt_ex h)
theorem semSl_ex {x : D} {lo hi : Option Int} {c : Str} {d : D} : semSl x lo hi ≠ .ex c d := by
  intro h
  unfold semSl at h
  split at h <;> first
    | (cases h; done)
    | (split at h <;> (cases h; done))
theorem semFn_ex {f : Fn} {ds : List D} {c : Str} {d : D} : semFn f ds ≠ .ex c d := by
  intro h
  unfold semFn at h
  split at h
  all_goals
    first
      | unfold semLen at h
      | unfold semInt at h
      | unfold semStr at h
      | unfold semAll at h
      | unfold semAny at h
      | unfold semSum at h
      | unfold semMax2 at h
      | unfold semMin2 at h
      | unfold semList at h
      | unfold semRepr at h
    split at h <;> first
      | (cases h; done)
      | (split at h <;> first
        | (cases h; done)
        | (split at h <;> (cases h; done)))
theorem semMt_ex {m : Mt} {ds : List D} {c : Str} {d : D} : semMt m ds ≠ .ex c d := by
  intro h
  unfold semMt at h
  split at h
  all_goals
    first
      | unfold semJoin at h
      | unfold semCount at h
      | unfold semFind at h
    split at h <;> first
      | (cases h; done)
      | (split at h <;> first
        | (cases h; done)
        | (split at h <;> (cases h; done)))
theorem P.sem_ex {p : P} {ds : List D} {c : Str} {d : D} : p.sem ds ≠ .ex c d := by
  intro h
  unfold P.sem at h
  split at h <;> first
    | (cases h; done)
    | exact semBin_ex h
    | exact semCmp_ex h
    | exact semIdx_ex h
    | exact semSl_ex h
    | exact semFn_ex h
    | (split at h <;> (cases h; done))
theorem prim_e {p : P} {es : T} {env : En} : one1 (ev Φ (.prim p es) env) = (ev Φ es env).bind fun a => (p.sem (a.1.map R.d)).bind fun r => if okRes a.1 r then .ok (r, backs (a.1.map some) (bkOf es) a.2) else .no := by
  have e0 : ev Φ (.prim p es) env = (ev Φ es env).bind fun a => (p.sem (a.1.map R.d)).bind fun r => if okRes a.1 r then .ok ([r], backs (a.1.map some) (bkOf es) a.2) else .no := rfl
  rw [e0, one1_bind]
  congr 1
  funext a
  rw [one1_bind]
  congr 1
  funext r
  cases okRes a.1 r <;> rfl
/-- the operands stand; from the outcome to the reading -/
theorem prim_go {α : Type} {sem : List D → M R} (hex : ∀ ds c d, sem ds ≠ .ex c d) {lk : List (Option Nat)} {σ : L2.St} {F H : Hp} {O : Own} {env : En} {k : Nat} {rs : List R} {vs : List V} {Q : VK} {f : R → En → M α} {C : α → Hp → Own → Hp → Prop}
    (p : PostG ca W σ k F O H ((sem (rs.map R.d)).bind fun r => if okRes rs r then f r (backs (rs.map some) lk env) else .no) C) (ae : AE ca F O env σ H) (rvs : RepRs ca F H O Lab.t k rs vs) (ln : Lnk lk σ vs)
    (h : ∀ r v F' O' H', PostG ca W σ k F' O' H' (f r (backs (rs.map some) lk env)) C → AE ca F' O' (backs (rs.map some) lk env) σ H' → RepR ca F' H' O' (.t k) r v → Below O' (k + 1) → Q v H') : rP ca sem vs H Q := by
  cases e : sem (rs.map R.d) with
  | no => rw [e] at p; exact p.elim
  | ex c d => exact absurd e (hex _ _ _)
  | ok r =>
    rw [e] at p
    have p2 : PostG ca W σ k F O H (if okRes rs r then f r (backs (rs.map some) lk env) else .no) C := p
    cases q : okRes rs r with
    | false => rw [q] at p2; exact p2.elim
    | true =>
      rw [q] at p2
      have p3 : PostG ca W σ k F O H (f r (backs (rs.map some) lk env)) C := p2
      refine ⟨F, rs.map R.d, r, ae.sub, e, ?_, fun v F' H' fn => ?_⟩
      · unfold okRes at q
        simp only [Bool.or_eq_true] at q
        rcases q with q | q
        · exact .inl (rvs.all2 fun r' m L' v' z => z.a1 ae.sub (List.all_eq_true.mp q r' m))
        · exact .inr ⟨rvs.all2 fun r' m L' v' z => z.a ae.sub, q⟩
      · obtain ⟨O', s1, s2, s3, s4⟩ := prim_end ae (.inr trivial) rvs ln fn
        refine h r v F' O' H' ?_ s2 s3 s4
        exact (PostG.bind (m := .ok ()) (f := fun _ => f r (backs (rs.map some) lk env)) p3) _ _ _ s1
theorem snd_prim {p : P} {es : T} {xs : List Expr} (h : ArgOk X ca Φ W es xs) (hx : ∀ ts, PEs X xs ts → PrimE X ca p x ts) : PE X x (tE ca Φ W (.prim p es)) := by
  obtain ⟨ts, pe, i⟩ := h
  refine peImp (hx ts pe) fun σ H Q q => ?_
  obtain ⟨F, O, env, k, ae, bl, p⟩ := q
  rw [prim_e] at p
  refine i _ _ _ ⟨F, O, env, k, ae, bl, p.bind.imp fun a F1 O1 H1 st1 p1 vs ae1 rvs bl1 z => ?_⟩
  exact prim_go (f := fun r e => .ok (r, e)) (fun _ _ _ => P.sem_ex) p1 ae1 rvs z.1 fun r v F' O' H' p2 a2 r2 b2 => p2.here v a2 r2 b2
theorem snd_primT {p : P} {es : T} {xs : List Expr} (h : ArgOk X ca Φ W es xs) (hx : ∀ ts, PEs X xs ts → PrimT X ca p x ts) : PT X x (tT ca Φ W (.prim p es)) := by
  obtain ⟨ts, pe, i⟩ := h
  refine ptImp (hx ts pe) fun σ H Q q => ?_
  obtain ⟨F, O, env, k, ae, bl, pp⟩ := q
  have e3 : evB Φ (.prim p es) env = (ev Φ es env).bind fun a => (p.sem (a.1.map R.d)).bind fun r => if okRes a.1 r then (asB r).bind fun t => .ok (t, backs (a.1.map some) (bkOf es) a.2) else .no := by
    unfold evB
    rw [prim_e, M.bind_assoc]
    congr 1
    funext a
    rw [M.bind_assoc]
    congr 1
    funext r
    cases okRes a.1 r <;> rfl
  rw [e3] at pp
  refine i _ _ _ ⟨F, O, env, k, ae, bl, pp.bind.imp fun a F1 O1 H1 st1 p1 vs ae1 rvs bl1 z => ?_⟩
  refine prim_go (f := fun r e => (asB r).bind fun t => .ok (t, e)) (fun _ _ _ => P.sem_ex) p1 ae1 rvs z.1 fun r v F' O' H' p2 a2 r2 b2 => ?_
  cases e : asB r with
  | ok t =>
    rw [e] at p2
    rw [asB_rep e] at r2
    have ev : v = .bl t := by unfold RepR Rep at r2; exact r2
    refine ⟨t, ev, ?_⟩
    have key := p2 (mF (aTz k) O' F' H') (mO (aTz k) O') H' (a2.bs.stp (aTz_low k))
    exact key (a2.mapS _ fun _ _ => rfl) below_tz
  | ex c d => exact (asB_ex e).elim
  | no =>
    rw [e] at p2
    exact p2.elim
end
end FH
set_option Elab.async false
set_option linter.all false
set_option maxRecDepth 100000
set_option maxHeartbeats 4000000
namespace FH
open PySem PySem.Spec PyProof.Rows L2
section
variable {ca : Cs} {F H : Hp}
theorem fin_sh {d : D} {v : V} (s : Sub F H) (h : Rep ca F d v) : Fin ca F H (.sh d) v F H := ⟨.refl _, .refl _, s, fun _ _ e => .inl e, h⟩
theorem fin_int {i : Int} (s : Sub F H) : Fin ca F H (.sh (.int i)) (.int i) F H := fin_sh s (by unfold Rep; rfl)
theorem fin_bl {i : Bool} (s : Sub F H) : Fin ca F H (.sh (.bl i)) (.bl i) F H := fin_sh s (by unfold Rep; rfl)
theorem fin_str {i : Str} (s : Sub F H) : Fin ca F H (.sh (.str i)) (.str i) F H := fin_sh s (by unfold Rep; rfl)
theorem fin_lst {p : Addr} {xs : List D} {vs : List V} (s : Sub F H) (h : H p = none) (r : Reps ca F xs vs) : Fin ca F H (.ow (.lst none xs)) (.ref p) F (upd H p (.lst vs)) := by
  have n : F p = none := by
    cases e : F p with
    | none => rfl
    | some o => rw [s p o e] at h; cases h
  exact ⟨sub_upd h, .refl _, s.trans (sub_upd h), fun _ _ e => .inl e, rfl, p, vs, rfl, h, n, upd_same, r⟩
/-- two operands -/
theorem rP2 {p : List D → M R} {x y : V} {Q : VK} (h : rP ca p [x, y] H Q) : ∃ F d1 d2 r, Sub F H ∧ p [d1, d2] = .ok r ∧ RepA ca F H d1 x ∧ RepA ca F H d2 y ∧ ((RepA1 ca F H d1 x ∧ RepA1 ca F H d2 y) ∨ flatD r.d = true) ∧ ∀ v F' H', Fin ca F H r v F' H' → Q v H' := by
  obtain ⟨F, ds, r, s, e, rep, k⟩ := h
  have sh : ∀ {P : D → V → Prop}, All2 P ds [x, y] → ∃ d1 d2, ds = [d1, d2] ∧ P d1 x ∧ P d2 y := fun {P} h => by
    match ds, h with
    | [], h => cases h
    | [_], ⟨_, _, h1, _, h2⟩ => cases h1; cases h2
    | [d1, d2], ⟨_, _, h1, h2, _, _, h3, h4, h5⟩ => cases h1; cases h3; exact ⟨d1, d2, rfl, h2, h4⟩
    | _ :: _ :: _ :: _, ⟨_, _, h1, _, _, _, h3, _, _, _, h5, _⟩ => cases h1; cases h3; cases h5
  rcases rep with rep | ⟨rep, fl⟩
  · obtain ⟨d1, d2, rfl, r1, r2⟩ := sh rep
    exact ⟨F, d1, d2, r, s, e, r1.a s, r2.a s, .inl ⟨r1, r2⟩, k⟩
  · obtain ⟨d1, d2, rfl, r1, r2⟩ := sh rep
    exact ⟨F, d1, d2, r, s, e, r1, r2, .inr fl, k⟩
theorem rP1 {p : List D → M R} {x : V} {Q : VK} (h : rP ca p [x] H Q) : ∃ F d1 r, Sub F H ∧ p [d1] = .ok r ∧ RepA ca F H d1 x ∧ (RepA1 ca F H d1 x ∨ flatD r.d = true) ∧ ∀ v F' H', Fin ca F H r v F' H' → Q v H' := by
  obtain ⟨F, ds, r, s, e, rep, k⟩ := h
  have sh : ∀ {P : D → V → Prop}, All2 P ds [x] → ∃ d1, ds = [d1] ∧ P d1 x := fun {P} h => by
    match ds, h with
    | [], h => cases h
    | [d1], ⟨_, _, h1, h2, h3⟩ => cases h1; exact ⟨d1, rfl, h2⟩
    | _ :: _ :: _, ⟨_, _, h1, _, _, _, h3, _⟩ => cases h1; cases h3
  rcases rep with rep | ⟨rep, fl⟩
  · obtain ⟨d1, rfl, r1⟩ := sh rep
    exact ⟨F, d1, r, s, e, r1.a s, .inl r1, k⟩
  · obtain ⟨d1, rfl, r1⟩ := sh rep
    exact ⟨F, d1, r, s, e, r1, .inr fl, k⟩
theorem a_int {i : Int} {v : V} (h : RepA ca F H (.int i) v) : v = .int i := by unfold RepA RepA1 Rep at h; exact h
theorem a_bl {i : Bool} {v : V} (h : RepA ca F H (.bl i) v) : v = .bl i := by unfold RepA RepA1 Rep at h; exact h
theorem a_str {i : Str} {v : V} (h : RepA ca F H (.str i) v) : v = .str i := by unfold RepA RepA1 Rep at h; exact h
theorem a_non {v : V} (h : RepA ca F H .non v) : v = .non := by unfold RepA RepA1 Rep at h; exact h
theorem a_lst {t : Option Addr} {xs : List D} {v : V} (h : RepA ca F H (.lst t xs) v) : ∃ a vs, v = .ref a ∧ H a = some (.lst vs) ∧ Reps ca F xs vs := h
theorem a_tup {xs : List D} {v : V} (h : RepA ca F H (.tup xs) v) : ∃ a vs, v = .ref a ∧ H a = some (.tup vs) ∧ vs.length = xs.length ∧ ∀ (i : Nat) (d : D) (w : V), xs[i]? = some d → vs[i]? = some w → RepA1 ca F H d w := h
theorem a_dic {t : Option Addr} {xs : List (Key × D)} {v : V} (h : RepA ca F H (.dic t xs) v) : ∃ a vs, v = .ref a ∧ H a = some (.dK vs) ∧ RepK ca F xs vs := h
end
section
variable {X : Cx} {ca : Cs}
theorem reps_rep {F : Hp} {ds : List D} {vs : List V} (h : Reps ca F ds vs) : ∀ n : Nat, Reps ca F (List.replicate n ds).flatten (List.replicate n vs).flatten
  | 0 => .nil
  | n + 1 => by
    rw [List.replicate_succ, List.replicate_succ, List.flatten_cons, List.flatten_cons]
    exact h.append (reps_rep h n)
theorem lim_of {n : Nat} (h : n ≤ LIM) : n ≤ sizeLine := Nat.le_trans h lim_le
theorem small_ok {i j : Int} (h : (small i || small j) = true) : CMul i j := by
  simp only [small, Bool.or_eq_true, decide_eq_true_eq] at h
  exact h
theorem foldl_arr : ∀ (xs : List (Array Nat)) (a : Array Nat), (xs.foldl (· ++ ·) a).toList = a.toList ++ (xs.map Array.toList).flatten
  | [], a => by simp
  | x :: xs, a => by
    rw [List.foldl_cons, foldl_arr xs (a ++ x)]
    simp
theorem strRep_eq (s : Str) (n : Nat) : (⟨(List.replicate n s.cps).foldl (· ++ ·) #[]⟩ : Str) = strRep s n := by
  unfold strRep
  congr 1
  apply Array.toList_inj.mp
  rw [foldl_arr]
  simp
theorem strRep_one (s : Str) : strRep s 1 = s := by
  unfold strRep
  cases s
  simp
theorem strRep_empty (s : Str) (n : Nat) (h : s.length = 0) : strRep s n = s := by
  have e : s.cps.toList = [] := by
    have h' : s.cps.size = 0 := h
    simpa using h'
  unfold strRep
  rw [e]
  cases s with
  | mk c =>
    have e' : c.toList = [] := e
    have : c = #[] := by apply Array.toList_inj.mp; simpa using e'
    subst this
    simp
theorem mulS {pins : List (Addr × Obj)} {s : Shared} {σ : L2.St} {H : Hp} {z : Str} {j : Int} {t u : Tok} {Q : VK} (I : Inv X pins σ H s) (h1 : -1000000 ≤ j) (h2 : j ≤ 1000000) (h3 : z.length * j.toNat ≤ LIM) (q : Q (.str (strRep z j.toNat)) H) :
    wpAny (model X.prog X.w) X.A (binaryOp .Mult (.str z t) (.int j u)) (EP X pins σ Q) X.xe s := by
  have q3 : z.length * j.toNat ≤ sizeLine := Nat.le_trans h3 lim_le
  have l0 : z.length = 0 ∨ 1 ≤ z.length := by omega
  refine PySem.P.mul_str (by
    rw [decide_eq_false (by omega), decide_eq_false (by omega)] <;> rfl) (fun a b c => ?_) (fun a b => ?_) ?_
  · have lz : z.length ≤ LIM := by
      have hj : 1 ≤ j.toNat := by omega
      exact Nat.le_trans (Nat.le_mul_of_pos_right _ (by omega)) h3
    have hd : (9000000000000 : Int) ≤ (2 ^ 63 - 1) / j := by
      refine Int.le_ediv_of_mul_le (by omega) ?_
      have : (9000000000000 : Int) * j ≤ 9000000000000 * 1000000 := Int.mul_le_mul_of_nonneg_left h2 (by decide)
      omega
    have lim : LIM = 1000000 := rfl
    omega
  · show decide (z.length * j.toNat > sizeLine) = false
    exact decide_eq_false (by omega)
  · split
    · rename_i hj
      have e0 : j.toNat = 0 := by omega
      rw [e0] at q
      have e1 : strRep z 0 = Str.empty := by unfold strRep; rfl
      rw [e1] at q
      exact ⟨by decide, .str _, H, I.tok _, ⟨_, rfl⟩, q⟩
    · split
      · rename_i hj hb
        simp only [Bool.or_eq_true, beq_iff_eq] at hb
        have e1 : strRep z j.toNat = z := by
          rcases hb with hb | hb
          · subst hb; exact strRep_one z
          · exact strRep_empty z _ hb
        rw [e1] at q
        exact ⟨.str _, H, I, ⟨_, rfl⟩, q⟩
      · rw [strRep_eq]
        refine ⟨?_, .str _, H, I.tok _, ⟨_, rfl⟩, q⟩
        have e1 : (strRep z j.toNat).length = j.toNat * z.length := by
          show (List.replicate j.toNat z.cps.toList).flatten.toArray.size = _
          rw [List.size_toArray]
          simp
          first | rfl | exact .inl rfl | exact .inr rfl
        show (strRep z j.toNat).length ≤ sizeLine
        rw [e1, Nat.mul_comm]
        exact q3
/-- a binary operator -/
theorem opr_bin {op : Operator} : OpR X (binaryOp op) (fun x y H Q => rP ca (P.bin op).sem [x, y] H Q) := by
  intro pins s σ H x y v u Q I rx ry h
  obtain ⟨F, d1, d2, r, sb, e, r1, r2, fl, k⟩ := rP2 h
  have e' : semBin op d1 d2 = .ok r := e
  unfold semBin at e'
  split at e'
  · -- int + int
    cases e'
    exact op_add pins s σ H x y v u Q I rx ry ⟨_, _, a_int r1, a_int r2, k _ _ _ (fin_int sb)⟩
  · split at e'
    · rename_i hl
      cases e'
      exact op_add_str pins s σ H x y v u Q I rx ry ⟨_, _, a_str r1, a_str r2, lim_of hl, k _ _ _ (fin_str sb)⟩
    · cases e'
  · split at e'
    · rename_i hl
      cases e'
      obtain ⟨a, vs, rfl, h1, h2⟩ := a_lst r1
      obtain ⟨b, us, rfl, h3, h4⟩ := a_lst r2
      refine op_cat pins s σ H _ _ v u Q I rx ry ⟨a, b, vs, us, rfl, rfl, h1, h3, ?_, fun p hp => k _ _ _ (fin_lst sb hp (h2.append h4))⟩
      rw [h2.length, h4.length]
      exact lim_of hl
    · cases e'
  · cases e'
    exact op_sub pins s σ H x y v u Q I rx ry ⟨_, _, a_int r1, a_int r2, k _ _ _ (fin_int sb)⟩
  · split at e'
    · rename_i hl
      cases e'
      exact op_mul pins s σ H x y v u Q I rx ry ⟨_, _, a_int r1, a_int r2, small_ok hl, k _ _ _ (fin_int sb)⟩
    · cases e'
  · split at e'
    · rename_i hl
      cases e'
      obtain ⟨a, vs, rfl, h1, h2⟩ := a_lst r1
      refine op_rep pins s σ H _ y v u Q I rx ry ⟨a, _, vs, rfl, a_int r2, h1, by omega, by omega, ?_, fun p hp => k _ _ _ (fin_lst sb hp (reps_rep h2 _))⟩
      rw [h2.length]
      exact lim_of hl.2.2
    · cases e'
  · split at e'
    · rename_i hl
      cases e'
      have e1 := a_str r1
      have e2 := a_int r2
      subst e1 e2
      obtain ⟨t, rfl⟩ := rx
      obtain ⟨t2, rfl⟩ := ry
      exact mulS I hl.1 hl.2.1 hl.2.2 (k _ _ _ (fin_str sb))
    · cases e'
  · split at e'
    · rename_i hl
      cases e'
      exact op_fdiv pins s σ H x y v u Q I rx ry ⟨_, _, a_int r1, a_int r2, hl, k _ _ _ (fin_int sb)⟩
    · cases e'
  · split at e'
    · rename_i hl
      cases e'
      exact op_mod pins s σ H x y v u Q I rx ry ⟨_, _, a_int r1, a_int r2, hl, k _ _ _ (fin_int sb)⟩
    · cases e'
  · split at e'
    · rename_i hl
      cases e'
      exact op_pow pins s σ H x y v u Q I rx ry ⟨_, _, a_int r1, a_int r2, hl, k _ _ _ (fin_int sb)⟩
    · cases e'
  · cases e'
/-! ### data compared -/
mutual
theorem rep_dp {K : PySem.W.Frag} {F H : Hp} (sb : Sub F H) : ∀ (d : D) (v : V) (x : PyData), Rep ca F d v → toPy d = some x → x.canLay0 = true → Dp K H v x
  | .non, v, x, h, e, c => by unfold Rep at h; subst h; unfold toPy at e; cases e; exact .non
  | .bl b, v, x, h, e, c => by unfold Rep at h; subst h; unfold toPy at e; cases e; exact .bl b
  | .int i, v, x, h, e, c => by unfold Rep at h; subst h; unfold toPy at e; cases e; exact .int i
  | .str s, v, x, h, e, c => by unfold Rep at h; subst h; unfold toPy at e; cases e; exact .str s
  | .scr ns, v, x, h, e, c => by unfold toPy at e; cases e
  | .obj _ _, v, x, h, e, c => by unfold toPy at e; cases e
  | .lst t xs, v, x, h, e, c => by
    unfold Rep at h
    obtain ⟨a, vs, rfl, h2, _, h4⟩ := h
    unfold toPy at e
    cases q : toPys xs with
    | none => rw [q] at e; cases e
    | some ys =>
      rw [q] at e
      cases e
      unfold PyData.canLay0 at c
      exact .lst (SqL.of (sb _ _ h2)) (reps_dp sb xs vs ys h4 q c)
  | .tup xs, v, x, h, e, c => by
    unfold Rep at h
    obtain ⟨a, vs, rfl, h2, h4⟩ := h
    unfold toPy at e
    cases q : toPys xs with
    | none => rw [q] at e; cases e
    | some ys =>
      rw [q] at e
      cases e
      unfold PyData.canLay0 at c
      exact .tup (SqT.of (sb _ _ h2)) (reps_dp sb xs vs ys h4 q c)
  | .dic t kvs, v, x, h, e, c => by
    unfold toPy at e
    cases q : toPyK kvs with
    | none => rw [q] at e; cases e
    | some ys =>
      rw [q] at e
      cases e
      unfold PyData.canLay0 at c
      cases c
theorem reps_dp {K : PySem.W.Frag} {F H : Hp} (sb : Sub F H) : ∀ (ds : List D) (vs : List V) (xs : List PyData), Reps ca F ds vs → toPys ds = some xs → PyData.canLayAll0 xs = true → DpAll K H vs xs
  | [], vs, xs, h, e, c => by unfold Reps at h; subst h; unfold toPys at e; cases e; exact .nil
  | d :: ds, vs, xs, h, e, c => by
    unfold Reps at h
    obtain ⟨v, r, rfl, h2, h3⟩ := h
    unfold toPys at e
    cases q : toPy d with
    | none => rw [q] at e; cases e
    | some y =>
      cases q2 : toPys ds with
      | none => rw [q, q2] at e; cases e
      | some ys =>
        rw [q, q2] at e
        cases e
        unfold PyData.canLayAll0 at c
        simp only [Bool.and_eq_true] at c
        exact .cons (rep_dp sb d v y h2 q c.1) (reps_dp sb ds r ys h3 q2 c.2)
end
theorem a1_dp {K : PySem.W.Frag} {F H : Hp} (sb : Sub F H) {d : D} {v : V} {x : PyData} (h : RepA1 ca F H d v) (e : toPy d = some x) (c : x.canLay0 = true) : Dp K H v x := by
  cases d with
  | lst t xs =>
    obtain ⟨a, vs, rfl, h2, h4⟩ := h
    unfold toPy at e
    cases q : toPys xs with
    | none => rw [q] at e; cases e
    | some ys =>
      rw [q] at e
      cases e
      unfold PyData.canLay0 at c
      exact .lst (SqL.of h2) (reps_dp sb xs vs ys h4 q c)
  | dic t kvs =>
    unfold toPy at e
    cases q : toPyK kvs with
    | none => rw [q] at e; cases e
    | some ys =>
      rw [q] at e
      cases e
      unfold PyData.canLay0 at c
      cases c
  | _ => exact rep_dp sb _ _ _ h e c
theorem all_dp {K : PySem.W.Frag} {F H : Hp} (sb : Sub F H) : ∀ {ds : List D} {vs : List V} {xs : List PyData}, vs.length = ds.length → (∀ (i : Nat) (d : D) (w : V), ds[i]? = some d → vs[i]? = some w → RepA1 ca F H d w) → toPys ds = some xs → PyData.canLayAll0 xs = true → DpAll K H vs xs
  | [], [], xs, _, _, e, c => by unfold toPys at e; cases e; exact .nil
  | d :: ds, v :: vs, xs, hl, h, e, c => by
    unfold toPys at e
    cases q : toPy d with
    | none => rw [q] at e; cases e
    | some y =>
      cases q2 : toPys ds with
      | none => rw [q, q2] at e; cases e
      | some ys =>
        rw [q, q2] at e
        cases e
        unfold PyData.canLayAll0 at c
        simp only [Bool.and_eq_true] at c
        exact .cons (a1_dp sb (h 0 d v rfl rfl) q c.1) (all_dp sb (by simpa using hl) (fun i d' w e1 e2 => h (i + 1) d' w (by simpa using e1) (by simpa using e2)) q2 c.2)
  | [], v :: vs, xs, hl, _, _, _ => by simp at hl
  | d :: ds, [], xs, hl, _, _, _ => by simp at hl
theorem a_dp {K : PySem.W.Frag} {F H : Hp} (sb : Sub F H) {d : D} {v : V} {x : PyData} (h : RepA ca F H d v) (e : toPy d = some x) (c : x.canLay0 = true) : Dp K H v x := by
  cases d with
  | tup xs =>
    obtain ⟨a, vs, rfl, h2, h3, h4⟩ := h
    unfold toPy at e
    cases q : toPys xs with
    | none => rw [q] at e; cases e
    | some ys =>
      rw [q] at e
      cases e
      unfold PyData.canLay0 at c
      exact .tup (SqT.of h2) (all_dp sb h3 h4 q c)
  | _ =>
    unfold RepA at h
    exact a1_dp sb h e c
/-- == of two data, at most a Boolean -/
theorem eqD_rule {neg : Bool} {F H : Hp} {d1 d2 : D} {b : Bool} {x y : V} (hu : X.A.units + 64 < cLine) {pins : List (Addr × Obj)} {σ : L2.St} {s : Shared} {v u : Value} {Q : VK} (I : Inv X pins σ H s) (rx : RelV x v) (ry : RelV y u) (sb : Sub F H)
    (r1 : RepA ca F H d1 x) (r2 : RepA ca F H d2 y) (e : eqD d1 d2 = some b) (q : Q (.bl (if neg then !b else b)) H) : wpAny (model X.prog X.w) X.A (compareOp (if neg then .NotEq else .Eq) v u) (EP X pins σ Q) X.xe s := by
  have one : ∀ {c : Bool}, scal x y = true → decide (x = y) = c → c = b → wpAny (model X.prog X.w) X.A (compareOp (if neg then .NotEq else .Eq) v u) (EP X pins σ Q) X.xe s := fun {c} h1 h2 h3 => by
    subst h3
    cases neg with
    | false => exact op_eq pins s σ H x y v u Q I rx ry ⟨h1, by rw [h2]; exact q⟩
    | true => exact op_ne pins s σ H x y v u Q I rx ry ⟨h1, by rw [h2]; exact q⟩
  unfold eqD at e
  split at e
  case h_15 =>
    unfold eqDeep at e
    cases q1 : toPy d1 with
    | none => rw [q1] at e; cases e
    | some p1 =>
      cases q2 : toPy d2 with
      | none => rw [q1, q2] at e; cases e
      | some p2 =>
        rw [q1, q2] at e
        simp only at e
        split at e
        · rename_i hs
          simp only [Bool.and_eq_true] at hs
          cases e
          have k1 := a_dp (K := X.K) sb r1 q1 (SeqAt.canLay_of_shaped hs.1)
          have k2 := a_dp (K := X.K) sb r2 q2 (SeqAt.canLay_of_shaped hs.2)
          cases neg with
          | false => exact op_eqD hu pins s σ H x y v u Q I rx ry ⟨p1, p2, k1, k2, hs.1, hs.2, q⟩
          | true => exact op_neD hu pins s σ H x y v u Q I rx ry ⟨p1, p2, k1, k2, hs.1, hs.2, q⟩
        · cases e
  all_goals
    (first
      | (have z1 := a_int r1)
      | (have z1 := a_str r1)
      | (have z1 := a_bl r1)
      | (have z1 := a_non r1))
    (first
      | (have z2 := a_int r2)
      | (have z2 := a_str r2)
      | (have z2 := a_bl r2)
      | (have z2 := a_non r2))
    subst z1 z2
    refine one rfl rfl (Option.some.inj ((show some (decide _) = some _ from ?_).trans e))
    first
      | (congr 1; simp; done)
      | (rfl)
end
end FH
set_option Elab.async false
set_option linter.all false
set_option maxRecDepth 100000
set_option maxHeartbeats 4000000
namespace FH
open PySem PySem.Spec PyProof.Rows L2
section
variable {X : Cx} {ca : Cs} {F H : Hp}
theorem flat_v {d : D} {v : V} (f : flatD d = true) (h : Rep ca F d v) : flatV v = true := by
  cases d <;> first
    | (unfold flatD at f; cases f; done)
    | (unfold Rep at h; subst h; rfl)
theorem eqF_v {d e : D} {v u : V} (f : flatD d = true) (g : flatD e = true) (h : Rep ca F d v) (k : Rep ca F e u) : eqV v u = eqF d e := by
  cases d <;> first
    | (unfold flatD at f; cases f; done)
    | (cases e <;> first
      | (unfold flatD at g; cases g; done)
      | (unfold Rep at h k; subst h k; rfl)
      | (unfold Rep at h k; subst h k; unfold eqV eqF; rw [Bool.beq_eq_decide_eq]))
theorem allFlat : ∀ {ds : List D} {vs : List V}, Reps ca F ds vs → ds.all flatD = true → vs.all flatV = true
  | [], vs, h, f => by unfold Reps at h; subst h; rfl
  | d :: ds, vs, h, f => by
    unfold Reps at h
    obtain ⟨v, r, rfl, h2, h3⟩ := h
    rw [List.all_cons, Bool.and_eq_true] at f
    rw [List.all_cons, flat_v f.1 h2, allFlat h3 f.2] <;> rfl
theorem inF_v {x : D} {v : V} (fx : flatD x = true) (hx : Rep ca F x v) : ∀ {ds : List D} {vs : List V}, Reps ca F ds vs → ds.all flatD = true → inV v vs = inF x ds
  | [], vs, h, f => by unfold Reps at h; subst h; rfl
  | d :: ds, vs, h, f => by
    unfold Reps at h
    obtain ⟨w, r, rfl, h2, h3⟩ := h
    rw [List.all_cons, Bool.and_eq_true] at f
    have ih := inF_v fx hx h3 f.2
    show (eqV w v || inV v r) = (eqF d x || inF x ds)
    rw [eqF_v f.1 fx h2 hx, ih]
theorem rep_flat {d : D} {v : V} (f : flatD d = true) (h : RepA ca F H d v) : Rep ca F d v := by
  cases d <;> first
    | (unfold flatD at f; cases f; done)
    | (unfold RepA RepA1 at h; exact h)
theorem a1_flat {d : D} {v : V} (f : flatD d = true) (h : RepA1 ca F H d v) : Rep ca F d v := by
  cases d <;> first
    | (unfold flatD at f; cases f; done)
    | (unfold RepA1 at h; exact h)
/-- a tuple of flat things, fresh or not -/
theorem tup_flat {ds : List D} {vs : List V} (hl : vs.length = ds.length) (h : ∀ (i : Nat) (d : D) (w : V), ds[i]? = some d → vs[i]? = some w → RepA1 ca F H d w) (f : ds.all flatD = true) : Reps ca F ds vs :=
  .of_get hl fun i d v e1 e2 => a1_flat (List.all_eq_true.mp f d (List.mem_of_getElem? e1)) (h i d v e1 e2)
theorem str_one {s : Str} {c : Nat} (h : s.cps.toList = [c]) : s = ⟨#[c]⟩ := by
  cases s with
  | mk a =>
    have : a = #[c] := by
      apply Array.toList_inj.mp
      simpa using h
    rw [this]
theorem keyV {x : D} {v : V} {k : Key} (e : keyD x = some k) (h : RepA ca F H x v) : v = kV k := by
  cases x <;> first
    | (unfold keyD at e; cases e; done)
    | (unfold keyD at e; cases e; unfold RepA RepA1 Rep at h; exact h)
theorem getK_v : ∀ {ds : List (Key × D)} {vs : List (Key × V)} {k : Key}, RepK ca F ds vs → (getK ds k = none ∧ valV vs k = none) ∨ ∃ d v, getK ds k = some d ∧ valV vs k = some v ∧ Rep ca F d v
  | [], vs, k, h => by unfold RepK at h; subst h; exact .inl ⟨rfl, rfl⟩
  | (j, d) :: ds, vs, k, h => by
    unfold RepK at h
    obtain ⟨v, r, rfl, h2, h3⟩ := h
    by_cases e : j = k
    · refine .inr ⟨d, v, ?_, ?_, h2⟩
      · simp [getK, List.find?_cons, e]
      · exact valV_pos e
    · have e1 : getK ((j, d) :: ds) k = getK ds k := by simp [getK, List.find?_cons, e]
      have e2 : valV ((j, v) :: r) k = valV r k := valV_neg e
      rw [e1, e2]
      exact getK_v h3
theorem semIn_rule {neg : Bool} {d1 d2 : D} {b : Bool} {x y : V} (hu : X.A.units + 64 < cLine) {pins : List (Addr × Obj)} {σ : L2.St} {s : Shared} {v u : Value} {Q : VK} (I : Inv X pins σ H s) (rx : RelV x v) (ry : RelV y u) (sb : Sub F H)
    (r1 : RepA ca F H d1 x) (r2 : RepA ca F H d2 y) (e : semIn d1 d2 = some b) (q : Q (.bl (if neg then !b else b)) H) : wpAny (model X.prog X.w) X.A (compareOp (if neg then .NotIn else .In) v u) (EP X pins σ Q) X.xe s := by
  have seq : ∀ {p : Addr} {ds : List D} {vs : List V}, y = .ref p → (SqL X.K H p vs ∨ SqT X.K H p vs) → Reps ca F ds vs → (flatD d1 && ds.all flatD) = true → inF d1 ds = b → wpAny (model X.prog X.w) X.A (compareOp (if neg then .NotIn else .In) v u) (EP X pins σ Q) X.xe s := fun {p ds vs} ey hs hr hf hb => by
    simp only [Bool.and_eq_true] at hf
    have hx := rep_flat hf.1 r1
    have key := inF_v hf.1 hx hr hf.2
    cases neg with
    | false => exact op_in_seq pins s σ H x y v u Q I rx ry ⟨p, vs, ey, hs, flat_v hf.1 hx, allFlat hr hf.2, by rw [key, hb]; exact q⟩
    | true => exact op_notIn_seq pins s σ H x y v u Q I rx ry ⟨p, vs, ey, hs, flat_v hf.1 hx, allFlat hr hf.2, by rw [key, hb]; exact q⟩
  unfold semIn at e
  split at e
  · rename_i z
    have ey := a_str r2
    split at e
    · rename_i w
      have ex := a_str r1
      unfold signIn at e
      split at e
      · rename_i c hc
        cases e
        have e1 := str_one hc
        subst e1
        cases neg with
        | false => exact op_in_sign pins s σ H x y v u Q I rx ry ⟨c, z, ex, ey, q⟩
        | true => exact op_notIn_sign pins s σ H x y v u Q I rx ry ⟨c, z, ex, ey, q⟩
      · cases e
    · cases e
  · rename_i ys
    split at e
    · rename_i hf
      obtain ⟨a, vs, ey, h1, h2⟩ := a_lst r2
      exact seq ey (.inl (SqL.of h1)) h2 hf (Option.some.inj e)
    · cases e
  · rename_i ys
    split at e
    · rename_i hf
      obtain ⟨a, vs, ey, h1, h2, h3⟩ := a_tup r2
      have hf' := hf
      simp only [Bool.and_eq_true] at hf'
      exact seq ey (.inr (SqT.of h1)) (tup_flat h2 h3 hf'.2) hf (Option.some.inj e)
    · cases e
  · rename_i kvs
    obtain ⟨a, vs, ey, h1, h2⟩ := a_dic r2
    cases ek : keyD d1 with
    | none => rw [ek] at e; cases e
    | some k =>
      rw [ek] at e
      have eb : (getK kvs k).isSome = b := Option.some.inj e
      have ex := keyV ek r1
      subst ex ey
      cases ry
      have g : DGet H a (kV k) (valV vs k) := DGet.k h1
      have es : (valV vs k).isSome = b := by
        rcases getK_v (k := k) h2 with ⟨z1, z2⟩ | ⟨d, v', z1, z2, _⟩
        · rw [z2]; rw [z1] at eb; exact eb
        · rw [z2]; rw [z1] at eb; exact eb
      cases neg with
      | false => exact d_in (by omega) I g rx fun s' J => ⟨.bl _, H, J, rfl, by rw [es]; exact q⟩
      | true => exact d_notIn (by omega) I g rx fun s' J => ⟨.bl _, H, J, rfl, by rw [es]; exact q⟩
  · cases e
theorem isNon_v {d : D} {v : V} (h : RepA ca F H d v) : decide (v = .non) = isNon d := by
  cases d with
  | non => unfold RepA RepA1 Rep at h; subst h; rfl
  | bl b => unfold RepA RepA1 Rep at h; subst h; rfl
  | int b => unfold RepA RepA1 Rep at h; subst h; rfl
  | str b => unfold RepA RepA1 Rep at h; subst h; rfl
  | scr ns =>
    unfold RepA RepA1 Rep at h
    obtain ⟨a, rfl, _⟩ := h
    rfl
  | lst t xs => obtain ⟨a, vs, rfl, _⟩ := h; rfl
  | tup xs => obtain ⟨a, vs, rfl, _⟩ := h; rfl
  | dic t xs => obtain ⟨a, vs, rfl, _⟩ := h; rfl
  | obj C fs =>
    unfold RepA RepA1 Rep at h
    obtain ⟨a, _, vs, rfl, _⟩ := h
    rfl
/-- a comparison -/
theorem opr_cmp (hu : X.A.units + 64 < cLine) {op : CmpOp} : OpR X (compareOp op) (fun x y H Q => rP ca (P.cmp op).sem [x, y] H Q) := by
  intro pins s σ H x y v u Q I rx ry h
  obtain ⟨F, d1, d2, r, sb, e, r1, r2, fl, k⟩ := rP2 h
  have e' : semCmp op d1 d2 = .ok r := e
  have bo : ∀ {o : Option Bool}, mbo o = .ok r → ∃ b, o = some b ∧ r = .sh (.bl b) := fun {o} z => by
    cases o with
    | none => cases z
    | some b => cases z; exact ⟨b, rfl, rfl⟩
  unfold semCmp at e'
  split at e'
  · cases e'; exact op_lt pins s σ H x y v u Q I rx ry ⟨_, _, a_int r1, a_int r2, k _ _ _ (fin_bl sb)⟩
  · cases e'; exact op_le pins s σ H x y v u Q I rx ry ⟨_, _, a_int r1, a_int r2, k _ _ _ (fin_bl sb)⟩
  · cases e'; exact op_gt pins s σ H x y v u Q I rx ry ⟨_, _, a_int r1, a_int r2, k _ _ _ (fin_bl sb)⟩
  · cases e'; exact op_ge pins s σ H x y v u Q I rx ry ⟨_, _, a_int r1, a_int r2, k _ _ _ (fin_bl sb)⟩
  · obtain ⟨b, e1, rfl⟩ := bo e'
    exact eqD_rule (neg := false) hu I rx ry sb r1 r2 e1 (k _ _ _ (fin_bl sb))
  · obtain ⟨b, e1, rfl⟩ := bo e'
    cases eq : eqD d1 d2 with
    | none => rw [eq] at e1; cases e1
    | some c =>
      rw [eq] at e1
      cases e1
      exact eqD_rule (neg := true) hu I rx ry sb r1 r2 eq (k _ _ _ (fin_bl sb))
  · obtain ⟨b, e1, rfl⟩ := bo e'
    exact semIn_rule (neg := false) hu I rx ry sb r1 r2 e1 (k _ _ _ (fin_bl sb))
  · obtain ⟨b, e1, rfl⟩ := bo e'
    cases eq : semIn d1 d2 with
    | none => rw [eq] at e1; cases e1
    | some c =>
      rw [eq] at e1
      cases e1
      exact semIn_rule (neg := true) hu I rx ry sb r1 r2 eq (k _ _ _ (fin_bl sb))
  · cases e'; exact op_isBl pins s σ H x y v u Q I rx ry ⟨_, _, a_bl r1, a_bl r2, k _ _ _ (fin_bl sb)⟩
  · cases e'; exact op_isN pins s σ H x y v u Q I rx ry ⟨a_non r2, by rw [isNon_v r1]; exact k _ _ _ (fin_bl sb)⟩
  · cases e'; exact op_notN pins s σ H x y v u Q I rx ry ⟨a_non r2, by rw [isNon_v r1]; exact k _ _ _ (fin_bl sb)⟩
  · cases e'
/-! ### items -/
theorem opt_ok {o : Option D} {r : R} (h : mopt o = .ok r) : ∃ d, o = some d ∧ r = .sh d := by
  cases o with
  | none => cases h
  | some d => cases h; exact ⟨d, rfl, rfl⟩
theorem atI_get2 {α β : Type} {xs : List α} {ys : List β} (hl : ys.length = xs.length) {i : Int} {a : α} (h : atI xs i = some a) : ∃ j : Nat, xs[j]? = some a ∧ ∀ b, ys[j]? = some b → atI ys i = some b := by
  unfold atI at h ⊢
  rw [hl]
  cases e : ixN xs.length i with
  | none => rw [e] at h; cases h
  | some j =>
    rw [e] at h
    exact ⟨j, h, fun b hb => hb⟩
theorem ixr_idx (hu : X.A.units + 64 < cLine) (hK : ca.K = X.K) : IxR X (fun x y H Q => rP ca P.idx.sem [x, y] H Q) := by
  intro value slice pins s σ H x y v u Q I rx ry h hs
  obtain ⟨F, d1, d2, r, sb, e, r1, r2, fl, k⟩ := rP2 h
  have e' : semIdx d1 d2 = .ok r := e
  unfold semIdx at e'
  split at e'
  · rename_i t xs i
    obtain ⟨d, e1, rfl⟩ := opt_ok e'
    obtain ⟨a, vs, rfl, h1, h2⟩ := a_lst r1
    obtain ⟨j, j1, j2⟩ := atI_get2 h2.length e1
    obtain ⟨w, w1, w2⟩ := h2.get j1
    exact ix_list value slice pins s σ H _ y v u Q I rx ry ⟨a, vs, i, w, rfl, a_int r2, SqL.of h1, j2 w w1, k _ _ _ (fin_sh sb w2)⟩ hs
  · rename_i ns i
    obtain ⟨d, e1, rfl⟩ := opt_ok e'
    have r1' : Rep ca F (.scr ns) x := r1
    unfold Rep at r1'
    obtain ⟨a, rfl, h1⟩ := r1'
    cases e2 : atI ns i with
    | none => rw [e2] at e1; cases e1
    | some n =>
      rw [e2] at e1
      have e3 : d = .int n := (Option.some.inj e1).symm
      subst e3
      obtain ⟨j, j1, j2⟩ := atI_get2 (ys := ns.map V.int) (by simp) e2
      have w1 : (ns.map V.int)[j]? = some (.int n) := by rw [List.getElem?_map, j1] <;> rfl
      rw [hK] at h1
      exact ix_list value slice pins s σ H _ y v u Q I rx ry ⟨a, _, i, .int n, rfl, a_int r2, Same.seq sb h1, j2 _ w1, k _ _ _ (fin_int sb)⟩ hs
  · rename_i xs i
    obtain ⟨d, e1, rfl⟩ := opt_ok e'
    obtain ⟨a, vs, rfl, h1, h2, h3⟩ := a_tup r1
    obtain ⟨j, j1, j2⟩ := atI_get2 h2 e1
    have hj : j < vs.length := by
      rw [h2]
      exact (List.getElem?_eq_some_iff.mp j1).1
    have w1 : vs[j]? = some vs[j] := List.getElem?_eq_getElem hj
    have w2 : Rep ca F d vs[j] := by
      rcases fl with fl | fl
      · have q : Rep ca F (.tup xs) (.ref a) := fl.1
        unfold Rep at q
        obtain ⟨a', vs', q1, q2, q3⟩ := q
        cases q1
        have q4 := sb _ _ q2
        rw [h1] at q4
        cases q4
        obtain ⟨w, z1, z2⟩ := q3.get j1
        rw [w1] at z1
        cases z1
        exact z2
      · exact a1_flat fl (h3 j d _ j1 w1)
    exact ix_tup value slice pins s σ H _ y v u Q I rx ry ⟨a, vs, i, _, rfl, a_int r2, SqT.of h1, j2 _ w1, k _ _ _ (fin_sh sb w2)⟩ hs
  · rename_i z i
    split at e'
    · rename_i hl
      obtain ⟨d, e1, rfl⟩ := opt_ok e'
      unfold oneStr at e1
      cases e2 : atI z.cps.toList i with
      | none => rw [e2] at e1; cases e1
      | some c =>
        rw [e2] at e1
        have e3 : d = .str ⟨#[c]⟩ := (Option.some.inj e1).symm
        subst e3
        exact ix_str value slice pins s σ H x y v u Q I rx ry ⟨z, i, c, a_str r1, a_int r2, lim_of hl, e2, k _ _ _ (fin_str sb)⟩ hs
    · cases e'
  · split at e'
    · rename_i key ek
      obtain ⟨d, e1, rfl⟩ := opt_ok e'
      obtain ⟨a, vs, rfl, h1, h2⟩ := a_dic r1
      have ey := keyV ek r2
      subst ey
      cases rx
      rcases getK_v (k := key) h2 with ⟨z1, z2⟩ | ⟨d', v', z1, z2, z3⟩
      · rw [z1] at e1; cases e1
      · rw [z1] at e1
        cases e1
        have g : DGet H a (kV key) (some v') := by rw [← z2]; exact DGet.k h1
        exact tail_any (dict_typeIs I g) PySem.F.slot_dict_getitem.lookup (d_getItem (by omega) I g ry fun w' s' J rw' => ⟨v', H, J, rw', k _ _ _ (fin_sh sb z3)⟩) hs
    · cases e'
  · cases e'
end
end FH
set_option Elab.async false
set_option linter.all false
set_option maxRecDepth 100000
set_option maxHeartbeats 4000000
namespace FH
open PySem PySem.Spec PyProof.Rows L2
section
variable {X : Cx} {ca : Cs} {F H : Hp}
theorem cut_reps {ds : List D} {vs : List V} (h : Reps ca F ds vs) (lo hi : Option Int) : Reps ca F (cutD ds lo hi) (cutV vs lo hi) := by
  unfold cutD cutV
  rw [h.length]
  exact (h.drop _).take _
/-- a slice by values -/
def rSl (ca : Cs) : V → Option Int → Option Int → Hp → VK → Prop := fun x lo hi H Q => ∃ F d r, Sub F H ∧ semSl d lo hi = .ok r ∧ RepA ca F H d x ∧ ∀ v F' H', Fin ca F H r v F' H' → Q v H'
theorem slr_all : SlR X (rSl ca) := by
  intro pins s σ H x v vl vu lo hi sl Q I rx hs pl pu h
  obtain ⟨F, d, r, sb, e, r1, k⟩ := h
  unfold semSl at e
  split at e
  · cases e
    obtain ⟨a, vs, ex, h1, h2⟩ := a_lst r1
    exact sl_list pins s σ H x v vl vu lo hi sl Q I rx hs pl pu ⟨a, vs, ex, SqL.of h1, fun p hp => k _ _ _ (fin_lst sb hp (cut_reps h2 lo hi))⟩
  · split at e
    · rename_i hl
      cases e
      exact sl_str pins s σ H x v vl vu lo hi sl Q I rx hs pl pu ⟨_, a_str r1, lim_of hl, k _ _ _ (fin_str sb)⟩
    · cases e
  · cases e
section
variable {e l h : Expr} {te tl th : TE} {p2 pos : Pos} {r : V → Option Int → Option Int → Hp → VK → Prop}
/-- both bounds: that they are ints is asked at the end -/
theorem pe_sl2 (hr : SlR X r) (he : PE X e te) (hl : PE X l tl) (hh : PE X h th) :
    PE X (.Subscript e (.Slice (some l) (some h) none p2) pos) (fun σ H Q => te σ H fun x H1 => tl σ H1 fun y H2 => th σ H2 fun z H3 => ∃ i j, y = .int i ∧ z = .int j ∧ r x (some i) (some j) H3 Q) := by
  constructor
  intro pins s σ H Q I q
  refine Subscript_ (thn (he.run pins s σ H _ I q) ?_)
  rintro v s1 ⟨x, H1, I1, r1, q1⟩
  refine wpAny_Slice ?_
  rw [evalPart_some]
  refine thn (hl.run pins s1 σ H1 _ I1 q1) ?_
  rintro vl s2 ⟨y, H2, I2, r2, q2⟩
  rw [evalPart_some]
  refine thn (hh.run pins s2 σ H2 _ I2 q2) ?_
  rintro vu s3 ⟨z, H3, I3, r3, i, j, rfl, rfl, q3⟩
  rw [evalPart_none]
  refine wpAny_pure ?_
  obtain ⟨t1, rfl⟩ := r2
  obtain ⟨t2, rfl⟩ := r3
  generalize hS : ({ s3 with heap := s3.heap.push { cls := .type "slice", data := .fields #[.int i t1, .int j t2, .none] } } : Shared) = s4
  have I4 : Inv X pins σ H3 s4 := by
    rw [← hS]
    exact I3.kept (t' := s3.toks) fun b ob z => Heap.get?_push_of_some _ z
  have hsl : s4.heap.IsSliceOf s3.heap.objs.size (.int i t1) (.int j t2) .none := by
    rw [← hS]
    exact Heap.IsSliceOf.new ..
  obtain ⟨T, id, hT, ht, hg⟩ := hr pins s4 σ H3 x v (.int i t1) (.int j t2) (some i) (some j) s3.heap.objs.size Q I4 r1 hsl (.int i t1) (.int j t2) q3
  have go := tail_any (value := e) (slice := .Slice (some l) (some h) none p2) (ops := [.ref s3.heap.objs.size, v]) ht hT hg (by with_unfolding_all rfl)
  rw [← hS] at go ⊢
  exact go
end
/-! ### functions by values -/
theorem ints_v : ∀ {ds : List D} {vs : List V} {is : List Int}, Reps ca F ds vs → intsOf ds = some is → vs = is.map V.int
  | [], vs, is, h, e => by unfold Reps at h; subst h; cases e; rfl
  | d :: ds, vs, is, h, e => by
    unfold Reps at h
    obtain ⟨v, r, rfl, h2, h3⟩ := h
    cases d <;> first
      | (unfold intsOf at e; cases e; done)
      | skip
    unfold intsOf at e
    cases q : intsOf ds with
    | none => rw [q] at e; cases e
    | some js =>
      rw [q] at e
      cases e
      unfold Rep at h2
      rw [h2, ints_v h3 q] <;> rfl
theorem bls_v : ∀ {ds : List D} {vs : List V} {is : List Bool}, Reps ca F ds vs → blsOf ds = some is → vs = is.map V.bl
  | [], vs, is, h, e => by unfold Reps at h; subst h; cases e; rfl
  | d :: ds, vs, is, h, e => by
    unfold Reps at h
    obtain ⟨v, r, rfl, h2, h3⟩ := h
    cases d <;> first
      | (unfold blsOf at e; cases e; done)
      | skip
    unfold blsOf at e
    cases q : blsOf ds with
    | none => rw [q] at e; cases e
    | some js =>
      rw [q] at e
      cases e
      unfold Rep at h2
      rw [h2, bls_v h3 q] <;> rfl
theorem strs_v : ∀ {ds : List D} {vs : List V} {is : List Str}, Reps ca F ds vs → strsOf ds = some is → vs = is.map V.str
  | [], vs, is, h, e => by unfold Reps at h; subst h; cases e; rfl
  | d :: ds, vs, is, h, e => by
    unfold Reps at h
    obtain ⟨v, r, rfl, h2, h3⟩ := h
    cases d <;> first
      | (unfold strsOf at e; cases e; done)
      | skip
    unfold strsOf at e
    cases q : strsOf ds with
    | none => rw [q] at e; cases e
    | some js =>
      rw [q] at e
      cases e
      unfold Rep at h2
      rw [h2, strs_v h3 q] <;> rfl
abbrev FnR1 (X : Cx) (ca : Cs) (f : Fn) (c : Value) : Prop := CallR X c (fun vs H Q => rP ca (P.fn f).sem vs H Q)
theorem all2_len {P : D → V → Prop} : ∀ {ds : List D} {vs : List V}, All2 P ds vs → vs.length = ds.length
  | [], vs, h => by unfold All2 at h; subst h; rfl
  | d :: ds, vs, h => by
    unfold All2 at h
    obtain ⟨v, w, rfl, _, h3⟩ := h
    rw [List.length_cons, List.length_cons, all2_len h3]
theorem rP_len {p : List D → M R} {vs : List V} {H : Hp} {Q : VK} {n : Nat} (h : rP ca p vs H Q) (hn : ∀ ds r, p ds = .ok r → ds.length = n) : vs.length = n := by
  obtain ⟨F, ds, r, sb, e, rep, k⟩ := h
  rw [← hn ds r e]
  rcases rep with rep | ⟨rep, _⟩
  · exact all2_len rep
  · exact all2_len rep
/-- one argument -/
theorem fn1 {f : Fn} {c : Value} (hn : ∀ ds r, semFn f ds = .ok r → ds.length = 1) (h : ∀ (pins : List (Addr × Obj)) (s : Shared) (σ : L2.St) (H : Hp) (x : V) (us : List Value) (Q : VK) (F : Hp) (d : D) (r : R), Inv X pins σ H s → Vals [x] us → Sub F H → semFn f [d] = .ok r → RepA ca F H d x → (RepA1 ca F H d x ∨ flatD r.d = true) →
    (∀ v F' H', Fin ca F H r v F' H' → Q v H') → wpAny (model X.prog X.w) X.A (call c us) (EP X pins σ Q) X.xe s) : CallR X c (fun vs H Q => rP ca (P.fn f).sem vs H Q) := by
  intro pins s σ H vs us Q I rv q
  have hl := rP_len q (n := 1) fun ds r e => hn ds r e
  match vs, hl with
  | [x], _ =>
    obtain ⟨F, d, r, sb, e, r1, fl, k⟩ := rP1 q
    exact h pins s σ H x us Q F d r I rv sb e r1 fl k
theorem fn_len (hK : ca.K = X.K) : CallR X (.builtin "len") (fun vs H Q => rP ca (P.fn .len).sem vs H Q) := by
  refine fn1 (fun ds r e => by
    replace e : semLen ds = .ok r := e
    unfold semLen at e
    split at e <;> first
      | (cases e; done)
      | rfl) fun pins s σ H x us Q F d r I rv sb e r1 fl k => ?_
  replace e : semLen [d] = .ok r := e
  unfold semLen at e
  split at e <;> (try (cases e; done))
  · split at e
    · rename_i h1 h2 hl
      cases h2
      cases e
      exact call_len_str pins s σ H [x] us Q I rv ⟨_, by rw [a_str r1], lim_of hl, k _ _ _ (fin_int sb)⟩
    · cases e
  · rename_i h2
    cases h2
    cases e
    obtain ⟨a, vs, rfl, h1, h2⟩ := a_lst r1
    exact call_len_seq pins s σ H _ us Q I rv ⟨a, vs, rfl, .inl (SqL.of h1), by rw [h2.length]; exact k _ _ _ (fin_int sb)⟩
  · rename_i h2
    cases h2
    cases e
    have r1' : Rep ca F (.scr _) x := r1
    unfold Rep at r1'
    obtain ⟨a, rfl, h1⟩ := r1'
    rw [hK] at h1
    exact call_len_seq pins s σ H _ us Q I rv ⟨a, _, rfl, .inl (Same.seq sb h1), by rw [List.length_map]; exact k _ _ _ (fin_int sb)⟩
  · rename_i h2
    cases h2
    cases e
    obtain ⟨a, vs, rfl, h1, h2, h3⟩ := a_tup r1
    exact call_len_seq pins s σ H _ us Q I rv ⟨a, vs, rfl, .inr (SqT.of h1), by rw [h2]; exact k _ _ _ (fin_int sb)⟩
theorem fn_int : CallR X (.type "int") (fun vs H Q => rP ca (P.fn .int).sem vs H Q) := by
  refine fn1 (fun ds r e => by
    replace e : semInt ds = .ok r := e
    unfold semInt at e
    split at e <;> first
      | (cases e; done)
      | rfl) fun pins s σ H x us Q F d r I rv sb e r1 fl k => ?_
  replace e : semInt [d] = .ok r := e
  unfold semInt at e
  split at e <;> (try (cases e; done))
  · rename_i h2
    cases h2
    cases e
    exact call_int1 pins s σ H [x] us Q I rv (.inl ⟨_, by rw [a_int r1], k _ _ _ (fin_int sb)⟩)
  · rename_i h2
    cases h2
    cases e
    exact call_int1 pins s σ H [x] us Q I rv (.inr ⟨_, by rw [a_bl r1], k _ _ _ (fin_int sb)⟩)
  · rename_i h2
    cases h2
    split at e
    · rename_i hn
      split at e
      · rename_i hl
        cases e
        exact call_int_str pins s σ H [x] us Q I rv ⟨_, _, by rw [a_str r1], hn, hl, k _ _ _ (fin_int sb)⟩
      · cases e
    · cases e
theorem fn_str : CallR X (.type "str") (fun vs H Q => rP ca (P.fn .str).sem vs H Q) := by
  refine fn1 (fun ds r e => by
    replace e : semStr ds = .ok r := e
    unfold semStr at e
    split at e <;> first
      | (cases e; done)
      | rfl) fun pins s σ H x us Q F d r I rv sb e r1 fl k => ?_
  replace e : semStr [d] = .ok r := e
  unfold semStr at e
  split at e <;> (try (cases e; done))
  rename_i h2
  cases h2
  split at e
  · rename_i hl
    cases e
    exact call_str_int pins s σ H [x] us Q I rv ⟨_, by rw [a_int r1], hl, k _ _ _ (fin_str sb)⟩
  · cases e
theorem fn_all (hc : X.calm = true) : CallR X (.builtin "all") (fun vs H Q => rP ca (P.fn .all).sem vs H Q) := by
  refine fn1 (fun ds r e => by
    replace e : semAll ds = .ok r := e
    unfold semAll at e
    split at e <;> first
      | (cases e; done)
      | rfl) fun pins s σ H x us Q F d r I rv sb e r1 fl k => ?_
  replace e : semAll [d] = .ok r := e
  unfold semAll at e
  split at e <;> (try (cases e; done))
  rename_i h2
  cases h2
  split at e
  · rename_i hb
    cases e
    obtain ⟨a, vs, rfl, h1, h2⟩ := a_lst r1
    have ev := bls_v h2 hb
    subst ev
    exact cr_all hc pins s σ H _ us Q I rv ⟨a, _, rfl, SqL.of h1, k _ _ _ (fin_bl sb)⟩
  · cases e
theorem fn_any (hc : X.calm = true) : CallR X (.builtin "any") (fun vs H Q => rP ca (P.fn .any).sem vs H Q) := by
  refine fn1 (fun ds r e => by
    replace e : semAny ds = .ok r := e
    unfold semAny at e
    split at e <;> first
      | (cases e; done)
      | rfl) fun pins s σ H x us Q F d r I rv sb e r1 fl k => ?_
  replace e : semAny [d] = .ok r := e
  unfold semAny at e
  split at e <;> (try (cases e; done))
  rename_i h2
  cases h2
  split at e
  · rename_i hb
    cases e
    obtain ⟨a, vs, rfl, h1, h2⟩ := a_lst r1
    have ev := bls_v h2 hb
    subst ev
    exact cr_any hc pins s σ H _ us Q I rv ⟨a, _, rfl, SqL.of h1, k _ _ _ (fin_bl sb)⟩
  · cases e
theorem fn_sum (hc : X.calm = true) : CallR X (.builtin "sum") (fun vs H Q => rP ca (P.fn .sum).sem vs H Q) := by
  refine fn1 (fun ds r e => by
    replace e : semSum ds = .ok r := e
    unfold semSum at e
    split at e <;> first
      | (cases e; done)
      | rfl) fun pins s σ H x us Q F d r I rv sb e r1 fl k => ?_
  replace e : semSum [d] = .ok r := e
  unfold semSum at e
  split at e <;> (try (cases e; done))
  rename_i h2
  cases h2
  split at e
  · rename_i hb
    cases e
    obtain ⟨a, vs, rfl, h1, h2⟩ := a_lst r1
    have ev := ints_v h2 hb
    subst ev
    exact cr_sum hc pins s σ H _ us Q I rv ⟨a, _, rfl, SqL.of h1, k _ _ _ (fin_int sb)⟩
  · cases e
theorem fn_list : CallR X (.type "list") (fun vs H Q => rP ca (P.fn .list).sem vs H Q) := by
  refine fn1 (fun ds r e => by
    replace e : semList ds = .ok r := e
    unfold semList at e
    split at e <;> first
      | (cases e; done)
      | rfl) fun pins s σ H x us Q F d r I rv sb e r1 fl k => ?_
  replace e : semList [d] = .ok r := e
  unfold semList at e
  split at e <;> (try (cases e; done))
  · rename_i h2
    cases h2
    cases e
    obtain ⟨a, vs, rfl, h1, h2⟩ := a_lst r1
    exact call_list_of pins s σ H _ us Q I rv ⟨a, vs, rfl, .inl (SqL.of h1), fun p hp => k _ _ _ (fin_lst sb hp h2)⟩
  · rename_i h2
    cases h2
    cases e
    rcases fl with fl | fl
    · have q : Rep ca F (.tup _) x := fl
      unfold Rep at q
      obtain ⟨a, vs, rfl, h1, h2⟩ := q
      exact call_list_of pins s σ H _ us Q I rv ⟨a, vs, rfl, .inr (SqT.of (sb _ _ h1)), fun p hp => k _ _ _ (fin_lst sb hp h2)⟩
    · cases fl
theorem fn_max2 (hc : X.calm = true) : CallR X (.builtin "max") (fun vs H Q => rP ca (P.fn .max2).sem vs H Q) := by
  intro pins s σ H vs us Q I rv q
  have hl := rP_len q (n := 2) fun ds r e => by
    replace e : semMax2 ds = .ok r := e
    unfold semMax2 at e
    split at e <;> first
      | (cases e; done)
      | rfl
  match vs, hl with
  | [x, y], _ =>
    obtain ⟨F, d1, d2, r, sb, e, r1, r2, fl, k⟩ := rP2 q
    have e' : semFn .max2 [d1, d2] = .ok r := e
    replace e' : semMax2 [d1, d2] = .ok r := e'
    unfold semMax2 at e'
    split at e' <;> (try (cases e'; done))
    rename_i h2
    cases h2
    cases e'
    exact call_max2 hc pins s σ H _ us Q I rv ⟨_, _, by rw [a_int r1, a_int r2], k _ _ _ (fin_int sb)⟩
theorem fn_min2 (hc : X.calm = true) : CallR X (.builtin "min") (fun vs H Q => rP ca (P.fn .min2).sem vs H Q) := by
  intro pins s σ H vs us Q I rv q
  have hl := rP_len q (n := 2) fun ds r e => by
    replace e : semMin2 ds = .ok r := e
    unfold semMin2 at e
    split at e <;> first
      | (cases e; done)
      | rfl
  match vs, hl with
  | [x, y], _ =>
    obtain ⟨F, d1, d2, r, sb, e, r1, r2, fl, k⟩ := rP2 q
    have e' : semFn .min2 [d1, d2] = .ok r := e
    replace e' : semMin2 [d1, d2] = .ok r := e'
    unfold semMin2 at e'
    split at e' <;> (try (cases e'; done))
    rename_i h2
    cases h2
    cases e'
    exact call_min2 hc pins s σ H _ us Q I rv ⟨_, _, by rw [a_int r1, a_int r2], k _ _ _ (fin_int sb)⟩
theorem fn_repr (hu : X.A.units + 64 < cLine) (hg : X.A.guards = some []) : CallR X (.builtin "repr") (fun vs H Q => rP ca (P.fn .repr).sem vs H Q) := by
  refine fn1 (fun ds r e => by
    replace e : semRepr ds = .ok r := e
    unfold semRepr at e
    split at e <;> first
      | (cases e; done)
      | rfl) fun pins s σ H x us Q F d r I rv sb e r1 fl k => ?_
  replace e : semRepr [d] = .ok r := e
  unfold semRepr at e
  simp only at e
  split at e
  · rename_i y ey
    split at e
    · rename_i hc
      simp only [Bool.and_eq_true, decide_eq_true_eq] at hc
      obtain ⟨c1, c2, c3, c4⟩ := hc
      cases e
      have dp := a_dp (K := X.K) sb r1 ey c1
      obtain ⟨u, rfl, ru⟩ := vals1 rv
      obtain ⟨as, rd⟩ := Dp.reads I y x u dp ru
      have hz : y.shown.length ≤ sizeLine := lim_of c4
      have go : ∀ (h' : Heap) (t : Tok) (tk : Nat), (∀ b o, s.heap.get? b = some o → h'.get? b = some o) → EP X pins σ Q (.str y.shown t) { s with heap := h', toks := tk } := fun h' t tk hk =>
        ⟨.str y.shown, H, I.kept hk, ⟨t, rfl⟩, k _ _ _ (fin_str sb)⟩
      cases y with
      | none => cases rd; exact PySem.P.repr_of_none (go s.heap s.toks (s.toks + 1) fun _ _ z => z)
      | bool b => cases rd; exact PySem.P.repr_of_bool (go s.heap s.toks (s.toks + 1) fun _ _ z => z)
      | int i =>
        cases rd
        have hi : i.natAbs.log2 < 1920 := of_decide_eq_true c2
        exact PySem.P.repr_of_int hi (go s.heap s.toks (s.toks + 1) fun _ _ z => z)
      | str z =>
        cases rd
        exact PySem.P.repr_of_str (go s.heap s.toks (s.toks + 1) fun _ _ z => z) hz
      | list zs =>
        cases rd with
        | list g1 g2 g3 g4 =>
          exact repr_of_reads' (.list g1 g2 g3 g4) c2 (PyData.noDict_hsm (PyData.hasDict_of_canLay _ c1)) hg (by omega) (fun _ _ z => z) (fun h' t tk hk => go h' t tk hk) hz
      | tuple zs =>
        cases rd with
        | tuple g1 g2 g3 g4 =>
          exact repr_of_reads' (.tuple g1 g2 g3 g4) c2 (PyData.noDict_hsm (PyData.hasDict_of_canLay _ c1)) hg (by omega) (fun _ _ z => z) (fun h' t tk hk => go h' t tk hk) hz
      | dict kvs => cases c1
    · cases e
  · cases e
end
end FH
set_option Elab.async false
set_option linter.all false
set_option maxRecDepth 100000
set_option maxHeartbeats 4000000
namespace FH
open PySem PySem.Spec PyProof.Rows L2
section
variable {X : Cx} {ca : Cs} {F H : Hp} {gs : List (Str × V)} {Φ : FT} {W : WX}
/-! ### isinstance -/
def tyS : D → String
  | .non => "NoneType" | .bl _ => "bool" | .int _ => "int" | .str _ => "str" | .scr _ => "list" | .lst _ _ => "list" | .tup _ => "tuple" | .dic _ _ => "dict" | .obj _ _ => "object"
theorem ty_of (hK : ca.K = X.K) (sb : Sub F H) {d : D} {v : V} (h : RepA ca F H d v) (n : isObj d = false) : TyX X.K H v (.type (tyS d)) := by
  cases d with
  | non => rw [a_non h]; exact .base .non
  | bl b => rw [a_bl h]; exact .base (.bl b)
  | int b => rw [a_int h]; exact .base (.int b)
  | str b => rw [a_str h]; exact .base (.str b)
  | scr ns =>
    unfold RepA RepA1 Rep at h
    obtain ⟨a, rfl, h1⟩ := h
    rw [hK] at h1
    rcases h1 with (h1 | ⟨o, h1⟩) | ⟨o, its, n, h1, h2, _⟩
    · exact .base (.lst (sb _ _ h1))
    · exact .base (.frz (sb _ _ h1))
    · exact .kList h1 h2
  | lst t xs => obtain ⟨a, vs, rfl, h1, _⟩ := h; exact .base (.lst h1)
  | tup xs => obtain ⟨a, vs, rfl, h1, _⟩ := h; exact .base (.tup h1)
  | dic t xs => obtain ⟨a, vs, rfl, h1, _⟩ := h; exact .base (.dK h1)
  | obj C fs => cases n
theorem okTy_cases {y : Str} (h : okTy y = true) : ∃ n : String, bootBuiltins y = some (.type n) ∧ y ≠ "__name__" ∧ (y == ("__debug__" : Str)) = false ∧ ∀ d, isObj d = false → kitB (tyS d) n = some (isOf [y] d) := by
  unfold okTy at h
  have h' := of_decide_eq_true h
  simp only [List.mem_cons, List.mem_nil_iff, or_false] at h'
  have key : ∀ (z : Str) (n : String), bootBuiltins z = some (.type n) → z ≠ "__name__" → (z == ("__debug__" : Str)) = false → kitB "NoneType" n = some (isOfS [z] "NoneType") → kitB "bool" n = some (isOfS [z] "bool") → kitB "int" n = some (isOfS [z] "int") →
      kitB "str" n = some (isOfS [z] "str") → kitB "list" n = some (isOfS [z] "list") → kitB "tuple" n = some (isOfS [z] "tuple") → kitB "dict" n = some (isOfS [z] "dict") →
      ∃ n : String, bootBuiltins z = some (.type n) ∧ z ≠ "__name__" ∧ (z == ("__debug__" : Str)) = false ∧ ∀ d, isObj d = false → kitB (tyS d) n = some (isOf [z] d) := fun z n h1 h2 h3 a1 a2 a3 a4 a5 a6 a7 =>
    ⟨n, h1, h2, h3, fun d hd => by cases d <;> first | exact a1 | exact a2 | exact a3 | exact a4 | exact a5 | exact a6 | exact a7 | cases hd⟩
  rcases h' with rfl | rfl | rfl | rfl | rfl | rfl
  · exact key "int" "int" (by decide +kernel) (by decide +kernel) (by decide +kernel) (by decide +kernel) (by decide +kernel) (by decide +kernel) (by decide +kernel) (by decide +kernel) (by decide +kernel) (by decide +kernel)
  · exact key "str" "str" (by decide +kernel) (by decide +kernel) (by decide +kernel) (by decide +kernel) (by decide +kernel) (by decide +kernel) (by decide +kernel) (by decide +kernel) (by decide +kernel) (by decide +kernel)
  · exact key "bool" "bool" (by decide +kernel) (by decide +kernel) (by decide +kernel) (by decide +kernel) (by decide +kernel) (by decide +kernel) (by decide +kernel) (by decide +kernel) (by decide +kernel) (by decide +kernel)
  · exact key "list" "list" (by decide +kernel) (by decide +kernel) (by decide +kernel) (by decide +kernel) (by decide +kernel) (by decide +kernel) (by decide +kernel) (by decide +kernel) (by decide +kernel) (by decide +kernel)
  · exact key "tuple" "tuple" (by decide +kernel) (by decide +kernel) (by decide +kernel) (by decide +kernel) (by decide +kernel) (by decide +kernel) (by decide +kernel) (by decide +kernel) (by decide +kernel) (by decide +kernel)
  · exact key "dict" "dict" (by decide +kernel) (by decide +kernel) (by decide +kernel) (by decide +kernel) (by decide +kernel) (by decide +kernel) (by decide +kernel) (by decide +kernel) (by decide +kernel) (by decide +kernel)
theorem okTy_in {y : Str} (h : okTy y = true) : y ∈ bnames := by
  unfold okTy at h
  have h' := of_decide_eq_true h
  simp only [List.mem_cons, List.mem_nil_iff, or_false] at h'
  rcases h' with rfl | rfl | rfl | rfl | rfl | rfl <;> decide +kernel
theorem isi_sem {ts : List Str} {d : D} {r : R} (h : (P.isi ts).sem [d] = .ok r) : isObj d = false ∧ r = .sh (.bl (isOf ts d)) := by
  have h' : (if isObj d then M.no else mb (isOf ts d)) = .ok r := h
  cases e : isObj d with
  | true => rw [e] at h'; cases h'
  | false => rw [e] at h'; cases h'; exact ⟨rfl, rfl⟩
theorem prim_isi1 (hK : ca.K = X.K) (G : Good X ca Φ gs W) {y : Str} {a : Expr} {ta : TE} {p1 p2 pos : Pos} {z : Str} (hz : z = "isinstance") (g1 : gl (cOf X gs) z = true) (g2 : gl (cOf X gs) y = true) (hy : okTy y = true) (hp : plain a = true) (h : PE X a ta) :
    PrimE X ca (.isi [y]) (.Call (.Name z p1) [a, .Name y p2] [] pos) [ta] := by
  subst hz
  obtain ⟨n, b1, b2, b3, b4⟩ := okTy_cases hy
  have hm := G.un y (okTy_in hy)
  have pty : PE X (.Name y p2) (tC (.ty n)) := pe_bltn (gl_ok g2).1 hm b1 rfl b2 b3
  have pa : PA X [a, .Name y p2] (tCons (mono ta) (tCons (tC (.ty n)) tNil)) := pa_cons (peMono h) (pa_cons pty pa_nil rfl) (star_plain hp)
  refine peImp (pe_callB call_isi (gl_ok g1).1 (G.un _ (by decide +kernel)) (by decide +kernel) pa (by decide) (by decide) (star_plain hp) rfl) fun σ H Q q => ⟨_, q, fun x H1 q1 => ?_⟩
  obtain ⟨F, d, r, sb, e, r1, _, k⟩ := rP1 q1
  obtain ⟨e1, rfl⟩ := isi_sem e
  exact ⟨x, .ty n, .type (tyS d), .type n, isOf [y] d, rfl, .ty n, ty_of hK sb r1 e1, kit_ty (b4 d e1), k _ _ _ (fin_bl sb)⟩
theorem RepA1.grow {H' : Hp} (e : Sub H H') {d : D} {v : V} (h : RepA1 ca F H d v) : RepA1 ca F H' d v := by
  cases d with
  | lst t xs => obtain ⟨a, vs, h1, h2, h3⟩ := h; exact ⟨a, vs, h1, e _ _ h2, h3⟩
  | dic t xs => obtain ⟨a, vs, h1, h2, h3⟩ := h; exact ⟨a, vs, h1, e _ _ h2, h3⟩
  | _ => exact h
theorem RepA.grow {H' : Hp} (e : Sub H H') {d : D} {v : V} (h : RepA ca F H d v) : RepA ca F H' d v := by
  cases d with
  | tup xs =>
    obtain ⟨a, vs, h1, h2, h3, h4⟩ := h
    exact ⟨a, vs, h1, e _ _ h2, h3, fun i d w e1 e2 => (h4 i d w e1 e2).grow e⟩
  | _ =>
    unfold RepA at h ⊢
    exact RepA1.grow e h
theorem isOf_two (y z : Str) (d : D) : (isOf [y] d || isOf [z] d) = isOf [y, z] d := by
  unfold isOf isOfS
  simp only [List.mem_cons, List.mem_nil_iff, or_false, Bool.decide_or]
  cases decide (tyD d = y) <;> cases decide (tyD d = z) <;> cases decide (tyD d = "bool") <;> cases decide (("int" : Str) = y) <;> cases decide (("int" : Str) = z) <;> rfl
theorem prim_isi2 (hK : ca.K = X.K) (G : Good X ca Φ gs W) {y y' : Str} {a : Expr} {ta : TE} {p1 p2 p3 p4 pos : Pos} {m : Nat} {z : Str} (hz : z = "isinstance") (g1 : gl (cOf X gs) z = true) (g2 : gl (cOf X gs) y = true) (g3 : gl (cOf X gs) y' = true) (hy : okTy y = true) (hy' : okTy y' = true) (hp : plain a = true) (h : PE X a ta) :
    PrimE X ca (.isi [y, y']) (.Call (.Name z p1) [a, .Tuple [.Name y p2, .Name y' p3] m p4] [] pos) [ta] := by
  subst hz
  obtain ⟨n, b1, b2, b3, b4⟩ := okTy_cases hy
  obtain ⟨n', c1, c2, c3, c4⟩ := okTy_cases hy'
  have pty : PE X (.Name y p2) (tC (.ty n)) := pe_bltn (gl_ok g2).1 (G.un y (okTy_in hy)) b1 rfl b2 b3
  have pty' : PE X (.Name y' p3) (tC (.ty n')) := pe_bltn (gl_ok g3).1 (G.un y' (okTy_in hy')) c1 rfl c2 c3
  have pt : PE X (.Tuple [.Name y p2, .Name y' p3] m p4) (tTup (tCons (tC (.ty n)) (tCons (tC (.ty n')) tNil))) := pe_tup (pa_cons pty (pa_cons pty' pa_nil rfl) rfl)
  have pa : PA X [a, .Tuple [.Name y p2, .Name y' p3] m p4] (tCons (mono ta) (tCons (tTup (tCons (tC (.ty n)) (tCons (tC (.ty n')) tNil))) tNil)) := pa_cons (peMono h) (pa_cons pt pa_nil rfl) (star_plain hp)
  refine peImp (pe_callB call_isiT (gl_ok g1).1 (G.un _ (by decide +kernel)) (by decide +kernel) pa (by decide) (by decide) (star_plain hp) rfl) fun σ H Q q => ⟨_, q, fun x H1 q1 => ?_⟩
  obtain ⟨F, d, r, sb, e, r1, _, k⟩ := rP1 q1
  obtain ⟨e1, rfl⟩ := isi_sem e
  refine ⟨by show 2 ≤ sizeLine; rw [sizeLine_eq]; decide, fun p hp => ?_⟩
  have sb2 : Sub F (upd H1 p (.tup [.ty n, .ty n'])) := sb.trans (sub_upd hp)
  refine ⟨x, p, [.ty n, .ty n'], .type (tyS d), [.type n, .type n'], isOf [y, y'] d, rfl, upd_same, .cons (.ty n) (.cons (.ty n') .nil), ty_of hK sb2 (r1.grow (sub_upd hp)) e1, ?_, k _ _ _ ⟨sub_upd hp, .refl _, sb2, fun _ _ z => .inl z, (fin_bl (F := F) (ca := ca) sb).val⟩⟩
  rw [← isOf_two]
  refine kitAny_cons (kit_ty (b4 d e1)) (fun hb => ?_) fun hb => by rw [hb] <;> rfl
  rw [hb]
  refine kitAny_cons (kit_ty (c4 d e1)) (fun hc => ?_) fun hc => by rw [hc] <;> rfl
  rw [hc]
  exact kitAny_nil
/-! ### the others -/
theorem plainIx {b : Expr} (h : plain b = true) : PlainIx b := by
  intro o i
  cases b <;> first
    | rfl
    | (unfold plain at h; cases h; done)
theorem un_neg' : UnR X (unaryOp .USub) (fun x H Q => rP ca P.neg.sem [x] H Q) := by
  intro pins s σ H x v Q I rx q
  obtain ⟨F, d, r, sb, e, r1, _, k⟩ := rP1 q
  cases d <;> first
    | (cases e; done)
    | skip
  cases e
  exact un_neg pins s σ H x v Q I rx ⟨_, a_int r1, k _ _ _ (fin_int sb)⟩
theorem fn_call (hK : ca.K = X.K) (G : Good X ca Φ gs W) {f : Fn} {y : Str} {args : List Expr} {ts : List TE} {p pos : Pos} (hy : y = f.name) (hg : gl (cOf X gs) y = true) (ha : args.length = f.arity) (pe : PEs X args ts) (hp : plains args = true) : PrimE X ca (.fn f) (.Call (.Name y p) args [] pos) ts := by
  have ne : args ≠ [] := fun e => by
    subst e
    cases f <;> cases ha
  obtain ⟨e, es, rfl⟩ := List.exists_cons_of_ne_nil ne
  have pa := pe.pa hp
  unfold plains at hp
  simp only [Bool.and_eq_true] at hp
  subst hy
  have hu : X.A.units + 64 < cLine := G.room.room.units
  have B : ∀ {id : String} {r : List V → Hp → VK → Prop}, CallR X (.builtin id) r → bootBuiltins f.name = some (.builtin id) → PE X (.Call (.Name f.name p) (e :: es) [] pos) (tCB r (seqT ts)) := fun {id r} hc hv =>
    pe_callB hc (gl_ok hg).1 (G.un _ (by cases f <;> decide +kernel)) hv pa (by cases f <;> decide) (by cases f <;> decide) (star_plain hp.1) (star_plains hp.2)
  have Ty : ∀ {id : String} {r : List V → Hp → VK → Prop}, CallR X (.type id) r → bootBuiltins f.name = some (.type id) → PE X (.Call (.Name f.name p) (e :: es) [] pos) (tCB r (seqT ts)) := fun {id r} hc hv =>
    pe_callTy hc (gl_ok hg).1 (G.un _ (by cases f <;> decide +kernel)) hv pa (by cases f <;> decide) (by cases f <;> decide) (star_plain hp.1) (star_plains hp.2)
  cases f with
  | len => exact B (fn_len hK) (by decide +kernel)
  | int => exact Ty fn_int (by decide +kernel)
  | str => exact Ty fn_str (by decide +kernel)
  | repr => exact B (fn_repr hu G.room.gd) (by decide +kernel)
  | list => exact Ty fn_list (by decide +kernel)
  | sum => exact B (fn_sum G.calm) (by decide +kernel)
  | all => exact B (fn_all G.calm) (by decide +kernel)
  | any => exact B (fn_any G.calm) (by decide +kernel)
  | max2 => exact B (fn_max2 G.calm) (by decide +kernel)
  | min2 => exact B (fn_min2 G.calm) (by decide +kernel)
end
end FH
set_option Elab.async false
set_option linter.all false
set_option maxRecDepth 100000
set_option maxHeartbeats 4000000
namespace FH
open PySem PySem.Spec PyProof.Rows L2
section
variable {X : Cx} {ca : Cs} {gs : List (Str × V)} {Φ : FT} {W : WX}
theorem pes1 {a : Expr} {ts : List TE} (pe : PEs X [a] ts) : ∃ t, ts = [t] ∧ PE X a t := by
  cases pe with | cons h1 pe => cases pe; exact ⟨_, rfl, h1⟩
theorem pes2 {a b : Expr} {ts : List TE} (pe : PEs X [a, b] ts) : ∃ t u, ts = [t, u] ∧ PE X a t ∧ PE X b u := by
  cases pe with | cons h1 pe => obtain ⟨u, rfl, h2⟩ := pes1 pe; exact ⟨_, u, rfl, h1, h2⟩
theorem pes3 {a b c : Expr} {ts : List TE} (pe : PEs X [a, b, c] ts) : ∃ t u w, ts = [t, u, w] ∧ PE X a t ∧ PE X b u ∧ PE X c w := by
  cases pe with | cons h1 pe => obtain ⟨u, w, rfl, h2, h3⟩ := pes2 pe; exact ⟨_, u, w, rfl, h1, h2, h3⟩
theorem plains_1 {a : Expr} {r : List Expr} (h : plains (a :: r) = true) : plain a = true ∧ plains r = true := by
  unfold plains at h
  simpa only [Bool.and_eq_true] using h
theorem endR {b : Expr} (hb : plain b = true) {env : Env} : True := trivial
theorem prim_bin {op : Operator} {a b : Expr} {pos : Pos} {ts : List TE} (pe : PEs X [a, b] ts) : PrimE X ca (.bin op) (.BinOp a op b pos) ts := by
  obtain ⟨t, u, rfl, h1, h2⟩ := pes2 pe
  have := pe_op (pos := pos) (opr_bin (X := X) (ca := ca) (op := op)) h1 h2
  exact this
theorem prim_cmp (hu : X.A.units + 64 < cLine) {op : CmpOp} {a b : Expr} {pos : Pos} {ts : List TE} (hb : plain b = true) (pe : PEs X [a, b] ts) : PrimE X ca (.cmp op) (.Compare a [op] [b] pos) ts := by
  obtain ⟨t, u, rfl, h1, h2⟩ := pes2 pe
  have := pe_cmpR (pos := pos) (opr_cmp (ca := ca) (op := op) hu) h1 h2 (by cases b <;> first | rfl | (unfold plain at hb; cases hb; done))
  exact this
theorem prim_cmpT (hu : X.A.units + 64 < cLine) {op : CmpOp} {a b : Expr} {pos : Pos} {ts : List TE} (hb : plain b = true) (pe : PEs X [a, b] ts) : PrimT X ca (.cmp op) (.Compare a [op] [b] pos) ts := by
  obtain ⟨t, u, rfl, h1, h2⟩ := pes2 pe
  have := pt_cmpR (pos := pos) (opr_cmp (ca := ca) (op := op) hu) h1 h2 (by cases b <;> first | rfl | (unfold plain at hb; cases hb; done))
  exact this
theorem prim_neg {a : Expr} {pos : Pos} {ts : List TE} (pe : PEs X [a] ts) : PrimE X ca .neg (.UnaryOp .USub a pos) ts := by
  obtain ⟨t, rfl, h1⟩ := pes1 pe
  have := pe_un (pos := pos) (un_neg' (X := X) (ca := ca)) h1
  exact this
theorem prim_idx (hu : X.A.units + 64 < cLine) (hK : ca.K = X.K) {a b : Expr} {pos : Pos} {ts : List TE} (hb : plain b = true) (pe : PEs X [a, b] ts) : PrimE X ca .idx (.Subscript a b pos) ts := by
  obtain ⟨t, u, rfl, h1, h2⟩ := pes2 pe
  have := pe_ix (pos := pos) (ixr_idx (ca := ca) hu hK) h1 h2 (plainIx hb)
  exact this
theorem rP3 {p : List D → M R} {F H : Hp} {x y z : V} {Q : VK} (h : rP ca p [x, y, z] H Q) : ∃ F d1 d2 d3 r, Sub F H ∧ p [d1, d2, d3] = .ok r ∧ RepA ca F H d1 x ∧ RepA ca F H d2 y ∧ RepA ca F H d3 z ∧ ∀ v F' H', Fin ca F H r v F' H' → Q v H' := by
  obtain ⟨F, ds, r, s, e, rep, k⟩ := h
  have sh : ∀ {P : D → V → Prop}, All2 P ds [x, y, z] → ∃ d1 d2 d3, ds = [d1, d2, d3] ∧ P d1 x ∧ P d2 y ∧ P d3 z := fun {P} h => by
    match ds, h with
    | [], h => cases h
    | [_], ⟨_, _, h1, _, h2⟩ => cases h1; cases h2
    | [_, _], ⟨_, _, h1, h2, _, _, h3, h4, h5⟩ => cases h1; cases h3; cases h5
    | [d1, d2, d3], ⟨_, _, h1, h2, _, _, h3, h4, _, _, h5, h6, h7⟩ => cases h1; cases h3; cases h5; exact ⟨d1, d2, d3, rfl, h2, h4, h6⟩
    | _ :: _ :: _ :: _ :: _, ⟨_, _, h1, _, _, _, h3, _, _, _, h5, _, _, _, h7, _⟩ => cases h1; cases h3; cases h5; cases h7
  rcases rep with rep | ⟨rep, fl⟩
  · obtain ⟨d1, d2, d3, rfl, r1, r2, r3⟩ := sh rep
    exact ⟨F, d1, d2, d3, r, s, e, r1.a s, r2.a s, r3.a s, k⟩
  · obtain ⟨d1, d2, d3, rfl, r1, r2, r3⟩ := sh rep
    exact ⟨F, d1, d2, d3, r, s, e, r1, r2, r3, k⟩
def dInt : D → Option Int
  | .int i => some i
  | _ => none
theorem sl_tt {d l h : D} {r : R} (e : (P.sl true true).sem [d, l, h] = .ok r) : ∃ i j, l = .int i ∧ h = .int j ∧ semSl d (some i) (some j) = .ok r := by
  cases l <;> cases h <;> first
    | exact ⟨_, _, rfl, rfl, e⟩
    | (exact nomatch (show (M.no : M R) = .ok r from e))
theorem sl_tf {d l : D} {r : R} (e : (P.sl true false).sem [d, l] = .ok r) : ∃ i, l = .int i ∧ semSl d (some i) none = .ok r := by
  cases l <;> first
    | exact ⟨_, rfl, e⟩
    | (exact nomatch (show (M.no : M R) = .ok r from e))
theorem sl_ft {d l : D} {r : R} (e : (P.sl false true).sem [d, l] = .ok r) : ∃ i, l = .int i ∧ semSl d none (some i) = .ok r := by
  cases l <;> first
    | exact ⟨_, rfl, e⟩
    | (exact nomatch (show (M.no : M R) = .ok r from e))
theorem rv_ok {d : D} {r : R} (e : P.rv.sem [d] = .ok r) : ∃ t xs, d = .lst t xs ∧ r = .ow (.lst none xs.reverse) := by
  cases d <;> first
    | (exact nomatch (show (M.no : M R) = .ok r from e))
    | skip
  have e' : (M.ok (R.ow (D.lst none (List.reverse _))) : M R) = .ok r := e
  cases e'
  exact ⟨_, _, rfl, rfl⟩
theorem prim_sl2 {a l h : Expr} {p2 pos : Pos} {ts : List TE} (pe : PEs X [a, l, h] ts) : PrimE X ca (.sl true true) (.Subscript a (.Slice (some l) (some h) none p2) pos) ts := by
  obtain ⟨t, u, w, rfl, h1, h2, h3⟩ := pes3 pe
  have := pe_sl2 (pos := pos) (p2 := p2) (slr_all (X := X) (ca := ca)) (peMono h1) (peMono h2) (peMono h3)
  refine peImp this fun σ H Q q => ⟨_, q, fun x H1 q1 => ⟨_, q1, fun y H2 q2 => ⟨_, q2, fun z H3 q3 => ?_⟩⟩⟩
  obtain ⟨F, d1, d2, d3, r, sb, e, a1, a2, a3, k⟩ := rP3 (F := H3) q3
  obtain ⟨i, j, rfl, rfl, e2⟩ := sl_tt e
  exact ⟨i, j, a_int a2, a_int a3, F, d1, r, sb, e2, a1, k⟩
theorem prim_sl1 {a l : Expr} {p2 pos : Pos} {ts : List TE} (pe : PEs X [a, l] ts) : PrimE X ca (.sl true false) (.Subscript a (.Slice (some l) none none p2) pos) ts := by
  obtain ⟨t, u, rfl, h1, h2⟩ := pes2 pe
  have := pe_slice (pos := pos) (p2 := p2) (slr_all (X := X) (ca := ca)) (peMono h1) (po_some (peMono h2)) po_none
  refine peImp this fun σ H Q q => ⟨_, q, fun x H1 q1 => ⟨_, q1, fun y H2 q2 => ?_⟩⟩
  obtain ⟨F, d1, d2, r, sb, e, a1, a2, _, k⟩ := rP2 q2
  obtain ⟨i, rfl, e2⟩ := sl_tf e
  exact ⟨i, a_int a2, F, d1, r, sb, e2, a1, k⟩
theorem prim_sl0 {a l : Expr} {p2 pos : Pos} {ts : List TE} (pe : PEs X [a, l] ts) : PrimE X ca (.sl false true) (.Subscript a (.Slice none (some l) none p2) pos) ts := by
  obtain ⟨t, u, rfl, h1, h2⟩ := pes2 pe
  have := pe_slice (pos := pos) (p2 := p2) (slr_all (X := X) (ca := ca)) (peMono h1) po_none (po_some (peMono h2))
  refine peImp this fun σ H Q q => ⟨_, q, fun x H1 q1 => ⟨_, q1, fun y H2 q2 => ?_⟩⟩
  obtain ⟨F, d1, d2, r, sb, e, a1, a2, _, k⟩ := rP2 q2
  obtain ⟨i, rfl, e2⟩ := sl_ft e
  exact ⟨i, a_int a2, F, d1, r, sb, e2, a1, k⟩
theorem prim_rv {a : Expr} {p1 p2 p3 pos : Pos} {n : Nat} {ts : List TE} (pe : PEs X [a] ts) : PrimE X ca .rv (.Subscript a (.Slice none none (some (.UnaryOp .USub (.Constant (.int 1) n p1) p2)) p3) pos) ts := by
  obtain ⟨t, rfl, h1⟩ := pes1 pe
  refine peImp (pe_revL (peMono h1)) fun σ H Q q => ⟨_, q, fun x H1 q1 => ?_⟩
  obtain ⟨F, d, r, sb, e, a1, _, k⟩ := rP1 q1
  obtain ⟨t, xs, rfl, rfl⟩ := rv_ok e
  obtain ⟨a, vs, rfl, b1, b2⟩ := a_lst a1
  exact ⟨a, vs, rfl, SqL.of b1, fun p hp => k _ _ _ (fin_lst sb hp b2.reverse)⟩
theorem prim_all (hK : ca.K = X.K) (G : Good X ca Φ gs W) {p : P} {x : Expr} {xs : List Expr} {ts : List TE} (hm : mP (cOf X gs) p x = some xs) (hp : plains xs = true) (pe : PEs X xs ts) : PrimE X ca p x ts := by
  have hu : X.A.units + 64 < cLine := G.room.room.units
  unfold mP at hm
  split at hm
  · split at hm
    · rename_i h; subst h
      cases (Option.some.inj hm)
      exact prim_bin pe
    · cases hm
  · split at hm
    · rename_i h; subst h
      cases (Option.some.inj hm)
      exact prim_cmp hu (plains_1 (plains_1 hp).2).1 pe
    · cases hm
  · cases (Option.some.inj hm)
    exact prim_neg pe
  · cases (Option.some.inj hm)
    exact prim_idx hu hK (plains_1 (plains_1 hp).2).1 pe
  · cases (Option.some.inj hm)
    exact prim_sl2 pe
  · cases (Option.some.inj hm)
    exact prim_sl1 pe
  · cases (Option.some.inj hm)
    exact prim_sl0 pe
  · cases (Option.some.inj hm)
    exact prim_rv pe
  · split at hm
    · rename_i hz
      simp only [Bool.and_eq_true, decide_eq_true_eq] at hz
      obtain ⟨hz, g1⟩ := hz
      split at hm
      · split at hm
        · rename_i h
          simp only [Bool.and_eq_true, decide_eq_true_eq] at h
          obtain ⟨⟨g2, rfl⟩, g3⟩ := h
          cases (Option.some.inj hm)
          obtain ⟨t, rfl, h1⟩ := pes1 pe
          exact prim_isi1 hK G hz g1 g2 g3 (plains_1 hp).1 h1
        · cases hm
      · split at hm
        · rename_i h
          simp only [Bool.and_eq_true, decide_eq_true_eq] at h
          obtain ⟨⟨⟨⟨g2, g3⟩, rfl⟩, g4⟩, g5⟩ := h
          cases (Option.some.inj hm)
          obtain ⟨t, rfl, h1⟩ := pes1 pe
          exact prim_isi2 hK G hz g1 g2 g3 g4 g5 (plains_1 hp).1 h1
        · cases hm
      · cases hm
    · cases hm
  · split at hm
    · rename_i h
      simp only [Bool.and_eq_true, decide_eq_true_eq] at h
      cases (Option.some.inj hm)
      exact fn_call hK G h.1.1 h.1.2 h.2 pe hp
    · cases hm
  · cases hm
end
end FH
set_option Elab.async false
set_option linter.all false
set_option maxRecDepth 100000
set_option maxHeartbeats 2000000
namespace FH
open PySem PySem.Spec PyProof.Rows L2
/-- what an iterator over these data does -/
def ItD (ca : Cs) (F : Hp) (J : It) (xs : List D) : Prop := ∀ (i : Nat) (F1 H : Hp), Sub F F1 → Sub F1 H →
  (∀ d, xs[i]? = some d → J.go i H ∧ ∀ x H', J.yld i H x H' → ∃ F2, Sub F1 F2 ∧ Sub F2 H' ∧ Sub H H' ∧ (∀ a o, F2 a = some o → F1 a = some o ∨ H a = none) ∧ Rep ca F2 d x) ∧ (i = xs.length → J.stop i H)
section
variable {ca : Cs} {F : Hp} {K : PySem.W.Frag}
theorem itd_list {a : Addr} {vs : List V} {xs : List D} (h : F a = some (.lst vs)) (r : Reps ca F xs vs) : ItD ca F (Itl K a) xs := fun i F1 H s1 s2 => by
  have hq : SqL K H a vs := SqL.of (s2 _ _ (s1 _ _ h))
  refine ⟨fun d e => ?_, fun e => ⟨vs, hq, ?_⟩⟩
  · obtain ⟨v, e1, e2⟩ := r.get e
    refine ⟨⟨vs, v, hq, e1⟩, fun x H' y => ?_⟩
    obtain ⟨y1, y2⟩ := y
    have e3 := y2 vs hq
    rw [e1] at e3
    cases e3
    rw [y1]
    exact ⟨F1, .refl _, s2, .refl _, fun _ _ z => .inl z, Rep.mono s1 _ _ e2⟩
  · rw [r.length]
    exact Nat.le_of_eq e.symm
theorem itd_tup {a : Addr} {vs : List V} {xs : List D} (h : F a = some (.tup vs)) (r : Reps ca F xs vs) : ItD ca F (Itt K a) xs := fun i F1 H s1 s2 => by
  have hq : SqT K H a vs := SqT.of (s2 _ _ (s1 _ _ h))
  refine ⟨fun d e => ?_, fun e => ⟨vs, hq, ?_⟩⟩
  · obtain ⟨v, e1, e2⟩ := r.get e
    refine ⟨⟨vs, v, hq, e1⟩, fun x H' y => ?_⟩
    obtain ⟨y1, y2⟩ := y
    have e3 := y2 vs hq
    rw [e1] at e3
    cases e3
    rw [y1]
    exact ⟨F1, .refl _, s2, .refl _, fun _ _ z => .inl z, Rep.mono s1 _ _ e2⟩
  · rw [r.length]
    exact Nat.le_of_eq e.symm
theorem itd_str {s : Str} : ItD ca F (Its s) (strItems s) := fun i F1 H s1 s2 => by
  have hl : (strItems s).length = s.cps.size := by unfold strItems; simp
  refine ⟨fun d e => ?_, fun e => ?_⟩
  · have hi : i < s.cps.size := by rw [← hl]; exact (List.getElem?_eq_some_iff.mp e).1
    refine ⟨hi, fun x H' y => ?_⟩
    obtain ⟨y1, c, y2, y3⟩ := y
    rw [y1, y3]
    refine ⟨F1, .refl _, s2, .refl _, fun _ _ z => .inl z, ?_⟩
    have e2 : (strItems s)[i]? = some (.str ⟨#[c]⟩) := by
      unfold strItems
      rw [List.getElem?_map, Array.getElem?_toList, y2] <;> rfl
    rw [e] at e2
    cases e2
    unfold Rep
    rfl
  · show s.cps.size ≤ i
    omega
theorem itd_rng {lo hi : Int} {n : Nat} (hn : n = (hi - lo).toNat) : ItD ca F (Itr lo n) (rngD lo hi) := fun i F1 H s1 s2 => by
  have hl : (rngD lo hi).length = n := by unfold rngD; simp [hn]
  refine ⟨fun d e => ?_, fun e => ?_⟩
  · have hi' : i < n := by rw [← hl]; exact (List.getElem?_eq_some_iff.mp e).1
    refine ⟨hi', fun x H' y => ?_⟩
    obtain ⟨y1, y2⟩ := y
    rw [y1, y2]
    refine ⟨F1, .refl _, s2, .refl _, fun _ _ z => .inl z, ?_⟩
    have e2 : (rngD lo hi)[i]? = some (.int (lo + (i : Int))) := by
      unfold rngD
      rw [List.getElem?_map, List.getElem?_range (by omega)] <;> rfl
    rw [e] at e2
    cases e2
    unfold Rep
    rfl
  · show n ≤ i
    omega
theorem rep_tup2 {F1 : Hp} {T : Addr} {d1 d2 : D} {x y : V} {H : Hp} (s2 : Sub F1 H) (hT : H T = none) (r1 : Rep ca F1 d1 x) (r2 : Rep ca F1 d2 y) :
    ∃ F2, Sub F1 F2 ∧ Sub F2 (upd H T (.tup [x, y])) ∧ Sub H (upd H T (.tup [x, y])) ∧ (∀ a o, F2 a = some o → F1 a = some o ∨ H a = none) ∧ Rep ca F2 (.tup [d1, d2]) (.ref T) := by
  have n1 : F1 T = none := by
    cases e : F1 T with
    | none => rfl
    | some o => rw [s2 _ _ e] at hT; cases hT
  have sb := sub_upd (o := .tup [x, y]) n1
  refine ⟨upd F1 T (.tup [x, y]), sb, fun a o e => ?_, sub_upd hT, fun a o e => ?_, ?_⟩
  · by_cases ha : a = T
    · subst ha; rw [upd_same] at e ⊢; exact e
    · rw [upd_ne ha] at e ⊢; exact s2 _ _ e
  · by_cases ha : a = T
    · subst ha; exact .inr hT
    · rw [upd_ne ha] at e; exact .inl e
  · unfold Rep
    exact ⟨T, [x, y], rfl, upd_same, .cons (Rep.mono sb _ _ r1) (.cons (Rep.mono sb _ _ r2) .nil)⟩
theorem enumD_get {xs : List D} {i : Nat} {d : D} (h : (enumD xs)[i]? = some d) : ∃ e, xs[i]? = some e ∧ d = .tup [.int (i : Nat), e] := by
  unfold enumD at h
  rw [List.getElem?_map, List.getElem?_zipIdx] at h
  cases e : xs[i]? with
  | none => rw [e] at h; cases h
  | some x =>
    rw [e] at h
    have h' := Option.some.inj h
    refine ⟨x, rfl, ?_⟩
    rw [← h']
    simp
theorem enumD_len {xs : List D} : (enumD xs).length = xs.length := by unfold enumD; simp
theorem itd_enum {a : Addr} {vs : List V} {xs : List D} (h : F a = some (.lst vs)) (r : Reps ca F xs vs) : ItD ca F (Ite K a) (enumD xs) := fun i F1 H s1 s2 => by
  have hq : SqL K H a vs := SqL.of (s2 _ _ (s1 _ _ h))
  refine ⟨fun d e => ?_, fun e => ⟨vs, hq, ?_⟩⟩
  · obtain ⟨q, q1, rfl⟩ := enumD_get e
    obtain ⟨v, e1, e2⟩ := r.get q1
    refine ⟨⟨vs, v, hq, e1⟩, fun x H' y => ?_⟩
    obtain ⟨T, w, y1, y2, y3, y4⟩ := y
    have e3 := y4 vs hq
    rw [e1] at e3
    cases e3
    rw [y1, y3]
    exact rep_tup2 s2 y2 (by unfold Rep; rfl) (Rep.mono s1 _ _ e2)
  · rw [r.length]
    rw [enumD_len] at e
    omega
theorem zipD_get {xs ys : List D} {i : Nat} {d : D} (h : (zipD xs ys)[i]? = some d) : ∃ e f, xs[i]? = some e ∧ ys[i]? = some f ∧ d = .tup [e, f] := by
  unfold zipD at h
  rw [List.getElem?_map] at h
  cases e : (xs.zip ys)[i]? with
  | none => rw [e] at h; cases h
  | some p =>
    rw [e] at h
    obtain ⟨h1, h2⟩ := List.getElem?_zip_eq_some.mp e
    exact ⟨p.1, p.2, h1, h2, (Option.some.inj h).symm⟩
theorem itd_zip {a b : Addr} {vs us : List V} {xs ys : List D} (h : F a = some (.lst vs)) (h2 : F b = some (.lst us)) (r : Reps ca F xs vs) (r2 : Reps ca F ys us) : ItD ca F (Itz K a b) (zipD xs ys) := fun i F1 H s1 s2 => by
  have hq : SqL K H a vs := SqL.of (s2 _ _ (s1 _ _ h))
  have hq2 : SqL K H b us := SqL.of (s2 _ _ (s1 _ _ h2))
  refine ⟨fun d e => ?_, fun e => ⟨vs, us, hq, hq2, ?_⟩⟩
  · obtain ⟨q, q', q1, q2, rfl⟩ := zipD_get e
    obtain ⟨v, e1, e2⟩ := r.get q1
    obtain ⟨u, f1, f2⟩ := r2.get q2
    refine ⟨⟨vs, us, v, u, hq, hq2, e1, f1⟩, fun x H' y => ?_⟩
    obtain ⟨T, w, z, y1, y2, y3, y4, y5⟩ := y
    have e3 := y4 vs hq
    have e4 := y5 us hq2
    rw [e1] at e3
    rw [f1] at e4
    cases e3
    cases e4
    rw [y1, y3]
    exact rep_tup2 s2 y2 (Rep.mono s1 _ _ e2) (Rep.mono s1 _ _ f2)
  · rw [r.length, r2.length]
    unfold zipD at e
    rw [List.length_map, List.length_zip] at e
    omega
end
/-! ### readings of sources -/
def tI (ca : Cs) (Φ : FT) (W : WX) (e : T) : TI := fun σ H R => ∃ F O env k, AE ca F O env σ H ∧ Below O k ∧ PostG ca W σ k F O H (one1 (ev Φ e env)) (fun a F1 O1 H1 => AE ca F1 O1 a.2 σ H1 → Below O1 k → ∀ t xs, a.1 = .sh (.lst t xs) → ∀ J, ItD ca F1 J xs → R J H1)
section
variable {X : Cx} {ca : Cs} {Φ : FT} {gs : List (Str × V)} {W : WX} {tg x : Expr}
theorem piImp {t t' : TI} (h : PI X tg x t) (i : ∀ σ H Q, t' σ H Q → t σ H Q) : PI X tg x t' := ⟨fun pins s σ H Q I q => h.run pins s σ H Q I (i σ H Q q)⟩
/-- a list, a tuple, a text -/
def iUni (K : PySem.W.Frag) (te : TE) : TI := fun σ H R => te σ H fun x H1 => (∃ a, x = .ref a ∧ (∃ xs, SqL K H1 a xs) ∧ R (Itl K a) H1) ∨ (∃ a, x = .ref a ∧ (∃ xs, SqT K H1 a xs) ∧ R (Itt K a) H1) ∨ ∃ z, x = .str z ∧ R (Its z) H1
theorem pi_uni {te : TE} (hl : PE X x te) : PI X tg x (iUni X.K te) := by
  constructor
  intro pins s0 σ H R I0 hw
  refine thn (hl.run pins s0 σ H _ I0 hw) ?_
  rintro w s1 ⟨y, H1, J, ry, (⟨a, rfl, ⟨zs, hz⟩, q⟩ | ⟨a, rfl, ⟨zs, hz⟩, q⟩ | ⟨z, rfl, q⟩)⟩
  · obtain rfl : w = .ref a := ry
    obtain ⟨us, _, pl, _⟩ := J.list hz
    exact wpAny_pyIter_list pl.isList (pi_one (tk := s1.toks) J _ (turn_list a _) ⟨_, Heap.get?_push_size _ rfl, rfl, rfl⟩ q)
  · obtain rfl : w = .ref a := ry
    obtain ⟨us, _, pl, _⟩ := J.tuple hz
    exact wpAny_pyIter_tuple (show s1.heap.IsTuple a us.toArray from pl) (pi_one (tk := s1.toks) J _ (turn_tuple a _) ⟨_, Heap.get?_push_size _ rfl, rfl, rfl⟩ q)
  · obtain ⟨t, rfl⟩ := ry
    cases hw : z.cps.all (· < 128) with
    | true => exact wpAny_pyIter_ascii hw (pi_one (tk := s1.toks) J _ (turn_str _ z t _ (.inl rfl)) ⟨_, Heap.get?_push_size _ rfl, rfl, rfl⟩ q)
    | false => exact wpAny_pyIter_wide hw (pi_one (tk := s1.toks) J _ (turn_str _ z t _ (.inr rfl)) ⟨_, Heap.get?_push_size _ rfl, rfl, rfl⟩ q)
theorem srcR_ok {xs : List D} {env : En} : (xs.length ≤ LIM ∧ srcR xs env = .ok ([.sh (.lst none xs)], env)) ∨ srcR xs env = .no := by
  unfold srcR
  split
  · rename_i h; exact .inl ⟨h, rfl⟩
  · exact .inr rfl
/-- the source's value frozen -/
theorem src_go {σ : L2.St} {k : Nat} {F : Hp} {O : Own} {H : Hp} {env : En} {xs : List D} {R : It → Hp → Prop} {J : It}
    (p : PostG ca W σ k F O H (one1 (srcR xs env)) (fun a F1 O1 H1 => AE ca F1 O1 a.2 σ H1 → Below O1 k → ∀ t xs, a.1 = .sh (.lst t xs) → ∀ J, ItD ca F1 J xs → R J H1)) (ae : AE ca F O env σ H)
    (hJ : ItD ca (mF (aTz k) O F H) J xs) : R J H := by
  rcases srcR_ok (xs := xs) (env := env) with ⟨_, e⟩ | e
  · rw [e] at p
    have p2 : PostG ca W σ k F O H (.ok (FH.R.sh (.lst none xs), env)) _ := p
    exact p2 _ _ _ (ae.bs.stp (aTz_low k)) (ae.mapS _ fun _ _ => rfl) below_tz none xs rfl J hJ
  · rw [e] at p
    exact p.elim
theorem snd_sval {e : T} (h : PE X x (tE ca Φ W e)) : PI X tg x (tI ca Φ W (.sval e)) := by
  refine piImp (pi_uni h) fun σ H R q => ?_
  obtain ⟨F, O, env, k, ae, bl, p⟩ := q
  have e3 : one1 (ev Φ (.sval e) env) = (one1 (ev Φ e env)).bind fun a => one1 (match itemsOf a.1.d with
    | some xs => srcR xs a.2
    | none => .no) := by
    show one1 ((one1 (ev Φ e env)).bind _) = _
    rw [one1_bind] <;> rfl
  rw [e3] at p
  refine ⟨F, O, env, k, ae, bl, p.bind.imp fun a F1 O1 H1 st1 p1 v ae1 rv bl1 => ?_⟩
  have rz : Rep ca (mF (aTz k) O1 F1 H1) a.1.d v := rv.frz (φ := aTz k) ae1.bs fun c => if_neg (Nat.lt_irrefl k)
  have sb := (ae1.bs.map (aTz k)).sub
  cases ei : itemsOf a.1.d with
  | none => rw [ei] at p1; exact p1.elim
  | some xs =>
    rw [ei] at p1
    unfold itemsOf at ei
    split at ei
    · rename_i t ys ed
      cases ei
      rw [ed] at rz
      unfold Rep at rz
      obtain ⟨a', vs, rfl, h1, _, h2⟩ := rz
      exact .inl ⟨a', rfl, ⟨vs, SqL.of (sb _ _ h1)⟩, src_go p1 ae1 (itd_list h1 h2)⟩
    · rename_i ys ed
      cases ei
      rw [ed] at rz
      unfold Rep at rz
      obtain ⟨a', vs, rfl, h1, h2⟩ := rz
      exact .inr (.inl ⟨a', rfl, ⟨vs, SqT.of (sb _ _ h1)⟩, src_go p1 ae1 (itd_tup h1 h2)⟩)
    · rename_i z ed
      cases ei
      rw [ed] at rz
      unfold Rep at rz
      subst rz
      exact .inr (.inr ⟨z, rfl, src_go p1 ae1 itd_str⟩)
    · cases ei
theorem RepRs.tz {F H : Hp} {O : Own} {k : Nat} {rs : List FH.R} {vs : List V} (b : Bs F O H) (h : RepRs ca F H O Lab.t k rs vs) : Reps ca (mF (aTz k) O F H) (rs.map FH.R.d) vs :=
  RepRs.frz (L := Lab.t) (φ := aTz k) b (fun j c hj => (show (if j < k then some (some (Lab.t j c)) else none) = none from if_neg (by omega))) h
theorem int_of {F : Hp} {i : Int} {v : V} (h : Rep ca F (.int i) v) : v = .int i := by unfold Rep at h; exact h
theorem lim62 : (LIM : Int) < 2 ^ 62 := by unfold LIM; decide
theorem rngE {es : T} {env : En} : one1 (ev Φ (.srng es) env) = (ev Φ es env).bind fun a => one1 (match a.1.map FH.R.d with
    | [.int n] => if -LIM ≤ n ∧ n ≤ LIM then srcR (rngD 0 n) a.2 else .no
    | [.int a', .int b] => if -LIM ≤ a' ∧ a' ≤ LIM ∧ -LIM ≤ b ∧ b ≤ LIM then srcR (rngD a' b) a.2 else .no
    | _ => .no) := by
  show one1 ((ev Φ es env).bind _) = _
  rw [one1_bind] <;> rfl
theorem snd_rng1 (G : Good X ca Φ gs W) {es : T} {a : Expr} {p pos : Pos} (h : ArgOk X ca Φ W es [a]) (hp : plain a = true) (hg : gl (cOf X gs) "range" = true) : PI X tg (.Call (.Name "range" p) [a] [] pos) (tI ca Φ W (.srng es)) := by
  obtain ⟨ts, pe, i⟩ := h
  have pa := pe.pa (by unfold plains plains; rw [hp] <;> rfl)
  refine piImp (pi_range1 (gl_ok hg).1 (G.un _ (by decide +kernel)) pa (star_plain hp)) fun σ H R q => ?_
  obtain ⟨F, O, env, k, ae, bl, p⟩ := q
  rw [rngE] at p
  refine i _ _ _ ⟨F, O, env, k, ae, bl, p.bind.imp fun a F1 O1 H1 st1 p1 vs ae1 rvs bl1 z => ?_⟩
  have rz := rvs.tz ae1.bs
  have hl : (a.1.map FH.R.d).length = 1 := by rw [List.length_map, ← rvs.length]; exact z.2
  generalize a.1.map FH.R.d = ds at p1 rz hl
  match ds, hl with
  | [d], _ =>
    unfold Reps at rz
    obtain ⟨v, r, rfl, r1, r2⟩ := rz
    unfold Reps at r2
    subst r2
    cases d with
    | int n =>
      have ev := int_of r1
      subst ev
      have p2 : PostG ca W σ k F1 O1 H1 (one1 (if -(LIM : Int) ≤ n ∧ n ≤ (LIM : Int) then srcR (rngD 0 n) a.2 else .no)) _ := p1
      split at p2
      · have l62 := lim62
        exact ⟨n, rfl, by omega, by omega, src_go p2 ae1 (itd_rng (by simp))⟩
      · exact p2.elim
    | _ => exact p1.elim
theorem snd_rng2 (G : Good X ca Φ gs W) {es : T} {a b : Expr} {p pos : Pos} (h : ArgOk X ca Φ W es [a, b]) (hp : plain a = true) (hp2 : plain b = true) (hg : gl (cOf X gs) "range" = true) : PI X tg (.Call (.Name "range" p) [a, b] [] pos) (tI ca Φ W (.srng es)) := by
  obtain ⟨ts, pe, i⟩ := h
  have pa := pe.pa (by unfold plains plains plains; rw [hp, hp2] <;> rfl)
  have s2 : starEach [b] X.env = [(false, eval b X.env)] := star_plain hp2
  refine piImp (pi_range2 (gl_ok hg).1 (G.un _ (by decide +kernel)) pa (by rw [star_plain hp, s2]) s2) fun σ H R q => ?_
  obtain ⟨F, O, env, k, ae, bl, p⟩ := q
  rw [rngE] at p
  refine i _ _ _ ⟨F, O, env, k, ae, bl, p.bind.imp fun a F1 O1 H1 st1 p1 vs ae1 rvs bl1 z => ?_⟩
  have rz := rvs.tz ae1.bs
  have hl : (a.1.map FH.R.d).length = 2 := by rw [List.length_map, ← rvs.length]; exact z.2
  generalize a.1.map FH.R.d = ds at p1 rz hl
  match ds, hl with
  | [d, d'], _ =>
    unfold Reps at rz
    obtain ⟨v, r, rfl, r1, r2⟩ := rz
    unfold Reps at r2
    obtain ⟨v', r', rfl, r3, r4⟩ := r2
    unfold Reps at r4
    subst r4
    cases d with
    | int n =>
      cases d' with
      | int m =>
        have ev := int_of r1
        have ev2 := int_of r3
        subst ev ev2
        have p2 : PostG ca W σ k F1 O1 H1 (one1 (if -(LIM : Int) ≤ n ∧ n ≤ (LIM : Int) ∧ -(LIM : Int) ≤ m ∧ m ≤ (LIM : Int) then srcR (rngD n m) a.2 else .no)) _ := p1
        split at p2
        · have l62 := lim62
          exact ⟨n, m, rfl, ⟨by omega, by omega, by omega, by omega⟩, src_go p2 ae1 (itd_rng rfl)⟩
        · exact p2.elim
      | _ => exact p1.elim
    | _ => exact p1.elim
end
end FH
set_option Elab.async false
set_option linter.all false
set_option maxRecDepth 100000
set_option maxHeartbeats 2000000
namespace FH
open PySem PySem.Spec PyProof.Rows L2
/-- the signs of a text, numbered, in new pairs -/
def Ies (x : Str) : It :=
  ⟨fun i _ => i < x.cps.size, fun i H v H' => ∃ T c, v = .ref T ∧ H T = none ∧ H' = upd H T (.tup [.int (i : Nat), .str ⟨#[c]⟩]) ∧ x.cps[i]? = some c, fun i _ => i = x.cps.size⟩
def draws_text {prog : Program} {w : World} {A : Around} (hh : A.handled = none) (it : Addr) (x : Str) (t : Tok) :
    Draws prog w A it [it] x.cps.size (fun i v => ∃ c u, x.cps[i]? = some c ∧ v = .str ⟨#[c]⟩ u) (fun i h => h.IsStrIter it (strIterType x) x t i) := by
  unfold strIterType
  cases x.cps.all (· < 128) with
  | true => exact Draws.strAscii hh it x t
  | false => exact Draws.strWide hh it x t
theorem turn_enumS {P : Program} {w : World} {K : PySem.W.Frag} {elts : List Expr} {kk : Nat} {tpos : Pos} (x : Str) (t : Tok) (e it : Addr) (ne : e ≠ it) :
    Turn P w K (.Tuple elts kk tpos) (Ies x) [e, it] e (fun i h => (∃ old, IsEnum h e it ((i : Nat) : Int) old) ∧ h.IsStrIter it (strIterType x) x t i) where
  mem := List.mem_cons_self
  obj := by
    rintro i h ⟨⟨old, q1⟩, ⟨o, q2, q3, q4⟩⟩ b hb
    have two : b = e ∨ b = it := by simpa using hb
    rcases two with rfl | rfl
    · exact ⟨_, q1, fun v y => nomatch y⟩
    · exact ⟨o, q2, fun v y => by rw [q4] at y; cases y⟩
  keep := by
    rintro i h h' ⟨⟨old, q1⟩, ⟨o, q2, q3⟩⟩ kp
    exact ⟨⟨old, kp e List.mem_cons_self _ q1⟩, ⟨o, kp it (List.mem_cons_of_mem _ List.mem_cons_self) o q2, q3⟩⟩
  item := by
    rintro X rfl rfl rfl hc i pins s σ H E I hf ⟨⟨old, q1⟩, q2⟩ hg
    have lt1 : e < s.heap.objs.size := Heap.lt_size q1
    have lt2 : it < s.heap.objs.size := by obtain ⟨_, y, _⟩ := q2; exact Heap.lt_size y
    have D := draws_text (prog := X.prog) (w := X.w) (A := X.A.in1) (I.ok.hd hc) it x t
    refine wpAny_pyNext_enum_itemD D q1 q2 hg ne (by simpa using ne) fun v h1 tk hv ho st2 hT hsz hk => ?_
    obtain ⟨c, u, hcx, rfl⟩ := hv
    refine ⟨_, rfl, wpAny_letOwnedTupleGo_enum (s := { s with heap := h1, toks := tk + 1 }) ho fun h2 ho2 sb => ?_⟩
    have hT2 : h2.get? s.heap.objs.size = some { cls := .type "tuple", data := .seq #[.int i tk, .str ⟨#[c]⟩ u] } := (sb.2 _ (Nat.ne_of_gt lt1)).trans hT
    have fresh : ObjOk X.prog X.w (upd H s.heap.objs.size (.tup [.int (i : Nat), .str ⟨#[c]⟩])) h2 s.heap.objs.size (.tup [.int (i : Nat), .str ⟨#[c]⟩]) :=
      ⟨by show 2 ≤ sizeLine; rw [sizeLine_eq]; decide, [.int i tk, .str ⟨#[c]⟩ u], .cons ⟨_, rfl⟩ (.cons ⟨_, rfl⟩ .nil), ⟨_, hT2, rfl, _, rfl⟩⟩
    have J : Inv X pins σ (upd H s.heap.objs.size (.tup [.int (i : Nat), .str ⟨#[c]⟩])) { s with heap := h2, toks := tk + 1 } :=
      I.turnedNew (ch := [e, it]) (fun b ob hb y => (sb.2 b (fun z => hb (by rw [z]; exact List.mem_cons_self))).trans (hk b ob (fun z => hb (by rw [z]; exact List.mem_cons_self)) (fun z => hb (by rw [z]; exact List.mem_cons_of_mem _ List.mem_cons_self)) y)) hf (Nat.le_refl _) fresh
    refine ⟨.ref s.heap.objs.size, _, J, rfl, ⟨_, c, rfl, I.hok.fresh (Nat.le_refl _), rfl, hcx⟩, ⟨⟨.str ⟨#[c]⟩ u, ?_⟩, ?_⟩, fun b hb => ?_⟩
    · have e1 : ((i + 1 : Nat) : Int) = (i : Int) + 1 := by omega
      rw [e1]
      exact ho2
    · obtain ⟨o, y1, y2⟩ := st2
      exact ⟨o, (sb.2 it (Ne.symm ne)).trans y1, y2⟩
    · have two : b = e ∨ b = it := by simpa using hb
      have lt3 : b < s.heap.objs.size := by rcases two with rfl | rfl <;> assumption
      rw [upd_ne (Nat.ne_of_lt lt3)]
      exact (hf b hb).1
  done := by
    rintro X rfl rfl rfl hc i pins s σ H E I hf ⟨⟨old, q1⟩, q2⟩ hg
    obtain ⟨f0, f1, f2, f3, f4, f5⟩ := hf it (List.mem_cons_of_mem _ List.mem_cons_self)
    have hg' : i = x.cps.size := hg
    subst hg'
    have D := draws_text (prog := X.prog) (w := X.w) (A := X.A.in1) (I.ok.hd hc) it x t
    refine wpAny_pyNext_enum_endD D q1 q2 fun h1 eb => ⟨rfl, ?_⟩
    exact I.turned (t' := s.toks) (fun b o hb y => eb b o hb y) f0 f1 f3 f4 f5
  self := by
    rintro A i s Q E ⟨⟨old, q1⟩, q2⟩ h
    exact wpAny_pyIter_enum q1 h
/-! ### the sources -/
section
variable {X : Cx} {ca : Cs} {Φ : FT} {gs : List (Str × V)} {W : WX} {x : Expr}
def iEnumU (K : PySem.W.Frag) (ta : TA) : TI := fun σ H R => ta σ H fun vs H1 => (∃ a, vs = [.ref a] ∧ (∃ xs, SqL K H1 a xs) ∧ R (Ite K a) H1) ∨ ∃ z, vs = [.str z] ∧ R (Ies z) H1
theorem pi_enumU {e : Expr} {ta : TA} {p pos tpos : Pos} {elts : List Expr} {kk : Nat} (hg : Gl X "enumerate") (hm : X.mg "enumerate" = none) (ha : PA X [e] ta) (hs : starEach [e] X.env = [(false, eval e X.env)]) :
    PI X (.Tuple elts kk tpos) (.Call (.Name "enumerate" p) [e] [] pos) (iEnumU X.K ta) := by
  constructor
  intro pins s0 σ H R I0 hw
  refine Call_ (ld_blt I0 hg hm boot_enumerate (PyProof.Rows.callWith_type1 (thn (ha.run pos pins s0 σ H _ I0 hw) ?_) hs rfl))
  rintro us s1 ⟨vs, H1, J, ru, (⟨a, rfl, ⟨zs, hz⟩, q⟩ | ⟨z, rfl, q⟩)⟩
  · cases ru with
    | cons r1 r2 =>
      cases r2
      rename_i u
      obtain rfl : u = .ref a := r1
      obtain ⟨us, _, pl, _⟩ := J.list hz
      refine call_enumerate_list pl.isList fun h1 y1 y2 y3 y4 => wpAny_pyIter_enum y1 ?_
      have J2 : Inv X pins σ H1 { s1 with heap := h1 } := J.kept (t' := s1.toks) y4
      refine ⟨s1.heap.objs.size + 1, [s1.heap.objs.size + 1, s1.heap.objs.size], _, _, H1, rfl, J2, turn_enum a (s1.heap.objs.size + 1) s1.heap.objs.size, ⟨⟨.none, y1⟩, y2, Nat.succ_ne_self _⟩, fun b hb => ?_, q⟩
      have two : b = s1.heap.objs.size + 1 ∨ b = s1.heap.objs.size := by simpa using hb
      have le : s1.heap.objs.size ≤ b := by rcases two with rfl | rfl <;> omega
      exact J.fpOk le (J.hok.fresh le)
  · cases ru with
    | cons r1 r2 =>
      cases r2
      obtain ⟨t, rfl⟩ := r1
      refine call_enumerate_str fun h1 y1 y2 y3 y4 => wpAny_pyIter_enum y1 ?_
      have J2 : Inv X pins σ H1 { s1 with heap := h1 } := J.kept (t' := s1.toks) y4
      refine ⟨s1.heap.objs.size + 1, [s1.heap.objs.size + 1, s1.heap.objs.size], _, _, H1, rfl, J2, turn_enumS z t (s1.heap.objs.size + 1) s1.heap.objs.size (Nat.succ_ne_self _), ⟨⟨.none, y1⟩, y2⟩, fun b hb => ?_, q⟩
      have two : b = s1.heap.objs.size + 1 ∨ b = s1.heap.objs.size := by simpa using hb
      have le : s1.heap.objs.size ≤ b := by rcases two with rfl | rfl <;> omega
      exact J.fpOk le (J.hok.fresh le)
theorem itd_enumS {F : Hp} {s : Str} : ItD ca F (Ies s) (enumD (strItems s)) := fun i F1 H s1 s2 => by
  have hl : (strItems s).length = s.cps.size := by unfold strItems; simp
  refine ⟨fun d e => ?_, fun e => ?_⟩
  · obtain ⟨q, q1, rfl⟩ := enumD_get e
    have hi : i < s.cps.size := by rw [← hl]; exact (List.getElem?_eq_some_iff.mp q1).1
    refine ⟨hi, fun x H' y => ?_⟩
    obtain ⟨T, c, y1, y2, y3, y4⟩ := y
    have e2 : (strItems s)[i]? = some (.str ⟨#[c]⟩) := by
      unfold strItems
      rw [List.getElem?_map, Array.getElem?_toList, y4] <;> rfl
    rw [q1] at e2
    cases e2
    rw [y1, y3]
    exact rep_tup2 s2 y2 (by unfold Rep; rfl) (by unfold Rep; rfl)
  · rw [enumD_len] at e
    show i = s.cps.size
    omega
theorem snd_enum (G : Good X ca Φ gs W) {e : T} {a : Expr} {p pos tpos : Pos} {elts : List Expr} {kk : Nat} (h : PE X a (tE ca Φ W e)) (hp : plain a = true) (hg : gl (cOf X gs) "enumerate" = true) :
    PI X (.Tuple elts kk tpos) (.Call (.Name "enumerate" p) [a] [] pos) (tI ca Φ W (.senum e)) := by
  have pa : PA X [a] (tCons (tE ca Φ W e) tNil) := pa_cons h pa_nil (star_plain hp)
  refine piImp (pi_enumU (gl_ok hg).1 (G.un _ (by decide +kernel)) pa (star_plain hp)) fun σ H R q => ?_
  obtain ⟨F, O, env, k, ae, bl, p⟩ := q
  have e3 : one1 (ev Φ (.senum e) env) = (one1 (ev Φ e env)).bind fun a => one1 (match enumOf a.1.d with
    | some xs => srcR (enumD xs) a.2
    | none => .no) := by
    show one1 ((one1 (ev Φ e env)).bind _) = _
    rw [one1_bind] <;> rfl
  rw [e3] at p
  refine ⟨F, O, env, k, ae, bl, p.bind.imp fun a F1 O1 H1 st1 p1 v ae1 rv bl1 => ?_⟩
  show _ ∨ _
  have rz : Rep ca (mF (aTz k) O1 F1 H1) a.1.d v := rv.frz (φ := aTz k) ae1.bs fun c => if_neg (Nat.lt_irrefl k)
  have sb := (ae1.bs.map (aTz k)).sub
  cases ei : enumOf a.1.d with
  | none => rw [ei] at p1; exact p1.elim
  | some xs =>
    rw [ei] at p1
    unfold enumOf at ei
    split at ei
    · rename_i t ys ed
      cases ei
      rw [ed] at rz
      unfold Rep at rz
      obtain ⟨a', vs, rfl, h1, _, h2⟩ := rz
      exact .inl ⟨a', rfl, ⟨vs, SqL.of (sb _ _ h1)⟩, src_go p1 ae1 (itd_enum h1 h2)⟩
    · rename_i z ed
      cases ei
      rw [ed] at rz
      unfold Rep at rz
      subst rz
      exact .inr ⟨z, rfl, src_go p1 ae1 itd_enumS⟩
    · cases ei
theorem zipE {es : T} {env : En} : one1 (ev Φ (.szip es) env) = (ev Φ es env).bind fun a => one1 (match a.1.map FH.R.d with
    | [a', b] => (match lstOf a', lstOf b with
      | some xs, some ys => srcR (zipD xs ys) a.2
      | _, _ => .no)
    | _ => .no) := by
  show one1 ((ev Φ es env).bind _) = _
  rw [one1_bind] <;> rfl
theorem snd_zip (G : Good X ca Φ gs W) {es : T} {a b : Expr} {p pos tpos : Pos} {elts : List Expr} {kk : Nat} (h : ArgOk X ca Φ W es [a, b]) (hp : plain a = true) (hp2 : plain b = true) (hg : gl (cOf X gs) "zip" = true) :
    PI X (.Tuple elts kk tpos) (.Call (.Name "zip" p) [a, b] [] pos) (tI ca Φ W (.szip es)) := by
  obtain ⟨ts, pe, i⟩ := h
  have pa := pe.pa (by unfold plains plains plains; rw [hp, hp2] <;> rfl)
  have s2 : starEach [b] X.env = [(false, eval b X.env)] := star_plain hp2
  refine piImp (pi_zip (gl_ok hg).1 (G.un _ (by decide +kernel)) pa (star_plain hp) (by rw [s2] <;> rfl)) fun σ H R q => ?_
  obtain ⟨F, O, env, k, ae, bl, p⟩ := q
  rw [zipE] at p
  refine i _ _ _ ⟨F, O, env, k, ae, bl, p.bind.imp fun a F1 O1 H1 st1 p1 vs ae1 rvs bl1 z => ?_⟩
  have rz := rvs.tz ae1.bs
  have sb := (ae1.bs.map (aTz k)).sub
  have hl : (a.1.map FH.R.d).length = 2 := by rw [List.length_map, ← rvs.length]; exact z.2
  generalize a.1.map FH.R.d = ds at p1 rz hl
  match ds, hl with
  | [d, d'], _ =>
    unfold Reps at rz
    obtain ⟨v, r, rfl, r1, r2⟩ := rz
    unfold Reps at r2
    obtain ⟨v', r', rfl, r3, r4⟩ := r2
    unfold Reps at r4
    subst r4
    cases d with
    | lst t xs =>
      cases d' with
      | lst t' ys =>
        unfold Rep at r1 r3
        obtain ⟨a1, us, rfl, h1, _, h2⟩ := r1
        obtain ⟨a2, us2, rfl, h3, _, h4⟩ := r3
        exact ⟨a1, a2, us, us2, rfl, SqL.of (sb _ _ h1), SqL.of (sb _ _ h3), src_go p1 ae1 (itd_zip h1 h3 h2 h4)⟩
      | _ => exact p1.elim
    | _ => exact p1.elim
end
end FH
set_option Elab.async false
set_option linter.all false
set_option maxRecDepth 100000
set_option maxHeartbeats 2000000
namespace FH
open PySem PySem.Spec PyProof.Rows L2
section
variable {ca : Cs} {W : WX} {σ : L2.St} {k : Nat} {F F' : Hp} {O O' : Own} {H H' : Hp} {α : Type} {m : M α}
theorem PostG.at {C : α → Hp → Own → Hp → Prop} (h : PostG ca W σ k F O H m C) (st : Stp k F O H F' O' H') : PostG ca W σ k F' O' H' m C :=
  (PostG.bind (m := .ok ()) (f := fun _ => m) h) _ _ _ st
end
section
variable {X : Cx} {ca : Cs} {Φ : FT} {gs : List (Str × V)} {W : WX} {x : Expr}
/-! ### methods of texts -/
def Mt.id : Mt → String
  | .join => "str.join" | .count => "str.count" | .find => "str.find"
theorem len_join {ds : List D} {r : R} (e : semJoin ds = .ok r) : ds.length = 2 := by
  unfold semJoin at e
  split at e <;> first
    | rfl
    | (cases e; done)
theorem len_count {ds : List D} {r : R} (e : semCount ds = .ok r) : ds.length = 2 := by
  unfold semCount at e
  split at e <;> first
    | rfl
    | (cases e; done)
theorem len_find {ds : List D} {r : R} (e : semFind ds = .ok r) : ds.length = 2 := by
  unfold semFind at e
  split at e <;> first
    | rfl
    | (cases e; done)
theorem rP_arg {p : List D → M R} {x : V} {xs : List V} {H : Hp} {Q : VK} (q : rP ca p (x :: xs) H Q) (hn : ∀ ds r, p ds = .ok r → ds.length = 2) : ∃ y, xs = [y] := by
  have h := rP_len q hn
  match xs, h with
  | [y], _ => exact ⟨y, rfl⟩
theorem mt_j : MtR X "str.join" (fun x xs H Q => rP ca (semMt .join) (x :: xs) H Q) := by
  intro pins s σ H x xs v us Q I rx rs q
  obtain ⟨y, rfl⟩ := rP_arg q fun ds r e => len_join e
  obtain ⟨F, d1, d2, r, sb, e, r1, r2, fl, kk⟩ := rP2 q
  replace e : semJoin [d1, d2] = .ok r := e
  unfold semJoin at e
  split at e
  · rename_i hd
    cases hd
    split at e
    · rename_i ss hs
      split at e
      · rename_i hl
        cases e
        obtain ⟨a, vs, rfl, h1, h2⟩ := a_lst r2
        have ev := strs_v h2 hs
        subst ev
        exact mt_join pins s σ H x _ v us Q I rx rs ⟨_, a, ss, a_str r1, rfl, .inl (SqL.of h1), Nat.le_trans hl (by decide), kk _ _ _ (fin_str sb)⟩
      · cases e
    · cases e
  · cases e
theorem mt_c : MtR X "str.count" (fun x xs H Q => rP ca (semMt .count) (x :: xs) H Q) := by
  intro pins s σ H x xs v us Q I rx rs q
  obtain ⟨y, rfl⟩ := rP_arg q fun ds r e => len_count e
  obtain ⟨F, d1, d2, r, sb, e, r1, r2, fl, kk⟩ := rP2 q
  replace e : semCount [d1, d2] = .ok r := e
  unfold semCount at e
  split at e
  · rename_i hd
    cases hd
    cases e
    exact mt_count pins s σ H x _ v us Q I rx rs ⟨_, _, a_str r1, by rw [a_str r2], kk _ _ _ (fin_int sb)⟩
  · cases e
theorem mt_f : MtR X "str.find" (fun x xs H Q => rP ca (semMt .find) (x :: xs) H Q) := by
  intro pins s σ H x xs v us Q I rx rs q
  obtain ⟨y, rfl⟩ := rP_arg q fun ds r e => len_find e
  obtain ⟨F, d1, d2, r, sb, e, r1, r2, fl, kk⟩ := rP2 q
  replace e : semFind [d1, d2] = .ok r := e
  unfold semFind at e
  split at e
  · rename_i hd
    cases hd
    cases e
    exact mt_find pins s σ H x _ v us Q I rx rs ⟨_, _, a_str r1, by rw [a_str r2], kk _ _ _ (fin_int sb)⟩
  · cases e
/-- the receiver, asked for its type, then the arguments -/
theorem meth_imp {e es : T} {te : TE} {tr : TA} {Z : L2.St → V → Prop} {Y : L2.St → List V → Prop} {C : V → Hp → Prop} {okD : D → Bool} {f : R → List R → En → M (R × En)} {Rd : V → List V → Hp → VK → Prop}
    (h1 : ∀ σ H Q, (tE ca Φ W e σ H fun v H' => Z σ v → Q v H') → te σ H Q) (h2 : ∀ σ H Q, (tA ca Φ W es σ H fun vs H' => Y σ vs → Q vs H') → tr σ H Q)
    (hC : ∀ F H d v, Sub F H → RepA ca F H d v → okD d = true → C v H)
    (hk : ∀ σ F O H env k r rs v vs Q, AE ca F O env σ H → RepRs ca F H O Lab.t k (r :: rs) (v :: vs) → Below O (k + (rs.length + 1)) → Z σ v → Y σ vs → PostG ca W σ k F O H (f r rs env) (CE ca σ k Q) → Rd v vs H Q) :
    ∀ σ H Q, (∃ F O env k, AE ca F O env σ H ∧ Below O k ∧ PostG ca W σ k F O H ((one1 (ev Φ e env)).bind fun a => if okD a.1.d then (ev Φ es a.2).bind fun b => f a.1 b.1 b.2 else .no) (CE ca σ k Q)) → te σ H fun v H1 => C v H1 ∧ tr σ H1 fun vs H2 => Rd v vs H2 Q := by
  intro σ H Q q
  obtain ⟨F, O, env, k, ae, bl, p⟩ := q
  refine h1 _ _ _ ⟨F, O, env, k, ae, bl, p.bind.imp fun a F1 O1 H1 st1 p1 v ae1 rv bl1 z => ?_⟩
  cases ok : okD a.1.d with
  | false => rw [ok] at p1; exact p1.elim
  | true =>
    rw [ok] at p1
    have p2 : PostG ca W σ k F1 O1 H1 ((ev Φ es a.2).bind fun b => f a.1 b.1 b.2) (CE ca σ k Q) := p1
    refine ⟨hC _ _ _ _ ae1.sub (rv.a ae1.sub) ok, h2 _ _ _ ⟨F1, O1, a.2, k + 1, ae1, bl1, ?_⟩⟩
    refine (p2.bind.lift (Nat.le_succ k)).imp fun b F2 O2 H2 st2 p3 vs ae2 rvs bl2 y => ?_
    refine hk σ F2 O2 H2 b.2 k a.1 b.1 v vs Q ae2 ⟨v, vs, rfl, rv.stp st2 (Nat.lt_succ_self k), rvs⟩ ?_ z y p3
    intro a' j c w
    have := bl2 a' j c w
    omega
theorem few_ok {cpos : Pos} : ∀ {es : List Expr} {env : Env}, plains es = true → es.length < 20 → ((backTo cpos (starEach es env)).all (fun x => !x.1) && (backToKw cpos (keywordEach [] env)).all (fun x => x.1.isSome)
      && decide (es.length + ([] : List Keyword).length + (if ([] : List Keyword).isEmpty then 0 else 1) < 30)) = true := by
  intro es env hp hl
  have key : ∀ {es : List Expr}, plains es = true → (backTo cpos (starEach es env)).all (fun x => !x.1) = true := by
    intro es
    induction es with
    | nil => intro _; rfl
    | cons e es ih =>
      intro h
      unfold plains at h
      simp only [Bool.and_eq_true] at h
      rw [star_plain h.1]
      show (!false && (backTo cpos (starEach es env)).all (fun x => !x.1)) = true
      rw [ih h.2] <;> rfl
  rw [key hp, Bool.true_and]
  have e1 : (backToKw cpos (keywordEach [] env)).all (fun x => x.1.isSome) = true := rfl
  rw [e1, Bool.true_and]
  exact decide_eq_true (by simp; omega)
theorem base_ok {o : Expr} {name : Str} {env : Env} {t : Sem Value} (hp : plain o = true) : attributeBase o name env t = t := by
  cases o <;> first
    | rfl
    | skip
  rename_i f args kws pos
  cases f <;> first
    | rfl
    | (unfold plain at hp; cases hp; done)
    | skip
  rename_i id p
  have hid : (!(id == ("super" : Str))) = true := by unfold plain at hp; exact hp
  cases args <;> cases kws <;> first
    | rfl
    | skip
  unfold attributeBase
  have e : (id != ("super" : Str)) = true := hid
  simp only [e, Bool.true_or, if_true]
theorem mth_e {m : Mt} {e es : T} {env : En} : one1 (ev Φ (.mth m e es) env) = (one1 (ev Φ e env)).bind fun a => if m.okD a.1.d then (ev Φ es a.2).bind fun b => (semMt m (a.1.d :: b.1.map R.d)).bind fun q => if okRes (a.1 :: b.1) q then .ok (q, backs (some a.1 :: b.1.map some) (bkOf (.cons e es)) b.2) else .no else .no := by
  have e0 : ev Φ (.mth m e es) env = (one1 (ev Φ e env)).bind fun a => if m.okD a.1.d then (ev Φ es a.2).bind fun b => (semMt m (a.1.d :: b.1.map R.d)).bind fun q => if okRes (a.1 :: b.1) q then .ok ([q], backs (some a.1 :: b.1.map some) (bkOf (.cons e es)) b.2) else .no else .no := rfl
  rw [e0, one1_bind]
  congr 1
  funext a
  cases m.okD a.1.d with
  | false => rfl
  | true =>
    simp only [if_true]
    rw [one1_bind]
    congr 1
    funext b
    rw [one1_bind]
    congr 1
    funext q
    cases okRes (a.1 :: b.1) q <;> rfl
theorem okD_str {m : Mt} {F H : Hp} {d : D} {v : V} (r : RepA ca F H d v) (h : m.okD d = true) : tyV X.K "str" v H := by
  cases m <;> cases d <;> first
    | (cases h; done)
    | (rw [a_str r]; rfl)
theorem snd_mth {m : Mt} {e es : T} {o : Expr} {args : List Expr} {ap cp : Pos} (h1 : PE X o (tE ca Φ W e)) (nv : ∀ i, e ≠ .mv i) (h2 : ArgOk X ca Φ W es args) (hp : plains args = true) (ho : plain o = true) (hl : args.length < 20) (ha : args ≠ []) (line : (ap.endLine == cp.line) = true) :
    PE X (.Call (.Attribute o m.name ap) args [] cp) (tE ca Φ W (.mth m e es)) := by
  obtain ⟨ts, pe, i⟩ := h2
  obtain ⟨a1, ar, rfl⟩ := List.exists_cons_of_ne_nil ha
  have hp1 := plains_1 hp
  have go : PE X (.Call (.Attribute o m.name ap) (a1 :: ar) [] cp) (tBM X.K "str" (fun x xs H Q => rP ca (semMt m) (x :: xs) H Q) (tE ca Φ W e) (seqT ts)) := by
    cases m with
    | join => exact pe_bm PySem.F.plainAttrs_str PySem.F.slot_str_join PySem.F.type_str_join mt_j h1 (pe.pa hp) (base_ok ho) (few_ok hp hl) line (star_plain hp1.1) (star_plains hp1.2)
    | count => exact pe_bm PySem.F.plainAttrs_str PySem.F.slot_str_count PySem.F.type_str_count mt_c h1 (pe.pa hp) (base_ok ho) (few_ok hp hl) line (star_plain hp1.1) (star_plains hp1.2)
    | find => exact pe_bm PySem.F.plainAttrs_str PySem.F.slot_str_find PySem.F.type_str_find mt_f h1 (pe.pa hp) (base_ok ho) (few_ok hp hl) line (star_plain hp1.1) (star_plains hp1.2)
  refine peImp go fun σ H Q q => ?_
  have q' : ∃ F O env k, AE ca F O env σ H ∧ Below O k ∧ PostG ca W σ k F O H (one1 (ev Φ (.mth m e es) env)) (CE ca σ k Q) := q
  simp only [mth_e] at q'
  refine meth_imp (te := tE ca Φ W e) (e := e) (f := fun r rs env => (semMt m (r.d :: rs.map R.d)).bind fun q => if okRes (r :: rs) q then .ok (q, backs (some r :: rs.map some) (bkOf (.cons e es)) env) else .no) (Z := fun _ _ => True) (Y := fun σ vs => Lnk (bkOf es) σ vs ∧ vs.length = (a1 :: ar).length) (C := fun v H => tyV X.K "str" v H) (okD := m.okD) (Rd := fun v vs H Q => rP ca (semMt m) (v :: vs) H Q) (fun σ H Q q => ?_) i (fun F H d v sb r h => okD_str r h) ?_ σ H Q q'
  · obtain ⟨F, O, env, k, ae, bl, p⟩ := q
    exact ⟨F, O, env, k, ae, bl, p.imp fun a F1 O1 H1 _ h v h1 h2 h3 => h v h1 h2 h3 trivial⟩
  · intro σ F O H env k r rs v vs Q ae rvs bl _ y p
    have eb : bkOf (.cons e es) = none :: bkOf es := by
      cases e <;> first
        | rfl
        | exact absurd rfl (nv _)
    rw [eb] at p
    have ln : Lnk (none :: bkOf es) σ (v :: vs) := fun j i q => by
      cases j with
      | zero => cases q
      | succ j => exact y.1 j i q
    exact prim_go (sem := semMt m) (f := fun r e => .ok (r, e)) (fun _ _ _ => semMt_ex) (rs := r :: rs) p ae rvs ln fun r' v' F' O' H' p2 a2 r2 b2 => p2.here v' a2 r2 b2
end
end FH
set_option Elab.async false
set_option linter.all false
set_option maxRecDepth 100000
set_option maxHeartbeats 2000000
namespace FH
open PySem PySem.Spec PyProof.Rows L2
section
variable {X : Cx} {ca : Cs} {Φ : FT} {gs : List (Str × V)} {W : WX} {x : Expr}
/-! ### a op b op c -/
def chainM {α : Type} (Φ : FT) (p q : CmpOp) (a b c : T) (env : En) (f : R → En → M α) : M α :=
  (one1 (ev Φ a env)).bind fun ra => (one1 (ev Φ b ra.2)).bind fun rb => (semCmp p ra.1.d rb.1.d).bind fun r => (asB r).bind fun t =>
    if t then (one1 (ev Φ c rb.2)).bind fun rc => (semCmp q rb.1.d rc.1.d).bind fun r2 => f r2 rc.2 else f (.sh (.bl false)) rb.2
theorem semCmp_bl {op : CmpOp} {a b : D} {r : R} (h : semCmp op a b = .ok r) : ∃ t, r = .sh (.bl t) := by
  have bo : ∀ {o : Option Bool}, mbo o = .ok r → ∃ t, r = .sh (.bl t) := fun {o} z => by
    cases o with
    | none => cases z
    | some b => cases z; exact ⟨b, rfl⟩
  unfold semCmp at h
  split at h <;> first
    | (cases h; exact ⟨_, rfl⟩)
    | exact bo h
    | (cases h; done)
/-- one comparison, from the outcome to the reading -/
theorem cmp_go {α : Type} {op : CmpOp} {σ : L2.St} {F H : Hp} {O : Own} {env : En} {k : Nat} {a b : R} {x y : V} {K : VK} {f : R → M α} {C : α → Hp → Own → Hp → Prop} (p : PostG ca W σ k F O H ((semCmp op a.d b.d).bind f) C)
    (ae : AE ca F O env σ H) (ra : RepA ca F H a.d x) (rb : RepA ca F H b.d y) (h : ∀ t F' H', Stp k F O H F' O H' → (∀ j, Stp j F O H F' O H') → AE ca F' O env σ H' → Sub H H' → Sub F F' → PostG ca W σ k F' O H' (f (.sh (.bl t))) C → K (.bl t) H') : rP ca (P.cmp op).sem [x, y] H K := by
  cases e : semCmp op a.d b.d with
  | no => rw [e] at p; exact p.elim
  | ex c d => exact absurd e semCmp_ex
  | ok r =>
    rw [e] at p
    obtain ⟨t, rfl⟩ := semCmp_bl e
    refine ⟨F, [a.d, b.d], _, ae.sub, e, .inr ⟨⟨x, [y], rfl, ra, y, [], rfl, rb, rfl⟩, rfl⟩, fun v F' H' fn => ?_⟩
    have hv : v = .bl t := by
      have := fn.val
      have h2 : Rep ca F' (.bl t) v := this
      unfold Rep at h2
      exact h2
    subst hv
    have st := fin_stp ae.bs fn
    have p2 : PostG ca W σ k F O H (f (.sh (.bl t))) C := p
    exact h t F' H' (st k) st (ae.grow (fin_bs ae.bs fn) fn.ext fn.sub fun _ _ z => z) fn.sub fn.ext (p2.at (st k))
theorem chain_core {α : Type} {p q : CmpOp} {a b c : T} {σ : L2.St} {F H : Hp} {O : Own} {env : En} {k : Nat} {Q : VK} {f : R → En → M α} {C : α → Hp → Own → Hp → Prop} (ae : AE ca F O env σ H) (bl : Below O k)
    (h : PostG ca W σ k F O H (chainM Φ p q a b c env f) C) (fin : ∀ t env F O H, AE ca F O env σ H → PostG ca W σ k F O H (f (.sh (.bl t)) env) C → Q (.bl t) H) :
    tChain (fun x y H Q => rP ca (P.cmp p).sem [x, y] H Q) (fun x y H Q => rP ca (P.cmp q).sem [x, y] H Q) (tE ca Φ W a) (tE ca Φ W b) (tE ca Φ W c) σ H Q := by
  unfold chainM at h
  refine ⟨F, O, env, k, ae, bl, h.bind.imp fun ra F1 O1 H1 st1 p1 x ae1 rx bl1 => ?_⟩
  refine ⟨F1, O1, ra.2, k + 1, ae1, bl1, (p1.bind.lift (Nat.le_succ k)).imp fun rb F2 O2 H2 st2 p2 y ae2 ry bl2 => ?_⟩
  refine cmp_go p2 ae2 ((rx.stp st2 (Nat.lt_succ_self k)).a ae2.sub) (ry.a ae2.sub) fun t F' H' s0 st ae' sb sF p3 => ⟨t, rfl, ?_⟩
  cases t with
  | false =>
    rw [if_neg Bool.false_ne_true]
    exact fin false rb.2 F' O2 H' ae' p3
  | true =>
    rw [if_pos rfl]
    have p4 : PostG ca W σ k F' O2 H' ((one1 (ev Φ c rb.2)).bind fun rc => (semCmp q rb.1.d rc.1.d).bind fun r2 => f r2 rc.2) C := p3
    have ry' : RepR ca F' H' O2 (.t (k + 1)) rb.1 y := ry.grow sF sb fun _ _ z => z
    refine ⟨F', O2, rb.2, k + 2, ae', bl2, (p4.bind.lift (by omega)).imp fun rc F3 O3 H3 st3 p5 z ae3 rz bl3 => ?_⟩
    exact cmp_go p5 ae3 ((ry'.stp st3 (Nat.lt_succ_self _)).a ae3.sub) (rz.a ae3.sub) fun t F4 H4 _ _ ae4 _ _ p6 => fin t rc.2 F4 O3 H4 ae4 p6
theorem chain_e {p q : CmpOp} {a b c : T} {env : En} : one1 (ev Φ (.chain p q a b c) env) = chainM Φ p q a b c env fun r e => .ok (r, e) := by
  unfold chainM
  have e0 : ev Φ (.chain p q a b c) env = (one1 (ev Φ a env)).bind fun ra => (one1 (ev Φ b ra.2)).bind fun rb => (semCmp p ra.1.d rb.1.d).bind fun r => (asB r).bind fun t =>
    if t then (one1 (ev Φ c rb.2)).bind fun rc => (semCmp q rb.1.d rc.1.d).bind fun r2 => .ok ([r2], rc.2) else .ok ([.sh (.bl false)], rb.2) := rfl
  rw [e0, one1_bind]
  congr 1; funext ra
  rw [one1_bind]
  congr 1; funext rb
  rw [one1_bind]
  congr 1; funext r
  rw [one1_bind]
  congr 1; funext t
  cases t with
  | false => rfl
  | true =>
    rw [if_pos rfl, if_pos rfl, one1_bind]
    congr 1; funext rc
    rw [one1_bind]
    rfl
theorem evB_chain {p q : CmpOp} {a b c : T} {env : En} : evB Φ (.chain p q a b c) env = chainM Φ p q a b c env fun r e => (asB r).bind fun t => .ok (t, e) := by
  unfold evB
  rw [chain_e]
  unfold chainM
  rw [M.bind_assoc]
  congr 1; funext ra
  rw [M.bind_assoc]
  congr 1; funext rb
  rw [M.bind_assoc]
  congr 1; funext r
  rw [M.bind_assoc]
  congr 1; funext t
  cases t with
  | false => rfl
  | true =>
    rw [if_pos rfl, if_pos rfl, M.bind_assoc]
    congr 1; funext rc
    rw [M.bind_assoc]
    rfl
theorem lastM {op op' : CmpOp} {b c : Expr} (hc : plain c = true) : lastMarks [op, op'] [b, c] = false := by
  show behindInMarks op' c = false
  cases c <;> first
    | rfl
    | (unfold plain at hc; cases hc; done)
theorem snd_chain (hu : X.A.units + 64 < cLine) {p q : CmpOp} {a b c : T} {xa xb xc : Expr} {pos : Pos} (h1 : PE X xa (tE ca Φ W a)) (h2 : PE X xb (tE ca Φ W b)) (h3 : PE X xc (tE ca Φ W c)) (hc : plain xc = true) :
    PE X (.Compare xa [p, q] [xb, xc] pos) (tE ca Φ W (.chain p q a b c)) := by
  refine peImp (pe_chain (opr_cmp (ca := ca) hu) (opr_cmp (ca := ca) hu) h1 h2 h3 (lastM hc)) fun σ H Q w => ?_
  obtain ⟨F, O, env, k, ae, bl, pp⟩ := w
  rw [chain_e] at pp
  exact chain_core ae bl pp fun t env F O H ae2 p2 => (p2.at (ae2.bs.stp (aTz_low k))).here (.bl t) (ae2.mapS _ fun _ _ => rfl) (show Rep ca (mF (aTz k) O F H) (.bl t) (.bl t) by unfold Rep; rfl) (below_bl below_tz)
theorem snd_chainT (hu : X.A.units + 64 < cLine) {p q : CmpOp} {a b c : T} {xa xb xc : Expr} {pos : Pos} (h1 : PE X xa (tE ca Φ W a)) (h2 : PE X xb (tE ca Φ W b)) (h3 : PE X xc (tE ca Φ W c)) (hc : plain xc = true) :
    PT X (.Compare xa [p, q] [xb, xc] pos) (tT ca Φ W (.chain p q a b c)) := by
  refine ptImp (pt_chain (opr_cmp (ca := ca) hu) (opr_cmp (ca := ca) hu) h1 h2 h3 (lastM hc)) fun σ H Q w => ?_
  obtain ⟨F, O, env, k, ae, bl, pp⟩ := w
  rw [evB_chain] at pp
  exact chain_core ae bl pp fun t env F O H ae2 p2 => ⟨t, rfl, (p2.at (ae2.bs.stp (aTz_low k))).here (ae2.mapS _ fun _ _ => rfl) below_tz⟩
/-! ### if as a test -/
theorem pt_ifE {c a b : Expr} {pos : Pos} {tc ta tb : TT} (hc : PT X c tc) (ha : PT X a ta) (hb : PT X b tb) : PT X (.IfExp c a b pos) (fun σ H Q => tc σ H fun t H1 => if t = true then ta σ H1 Q else tb σ H1 Q) := by
  constructor
  intro pins s σ H Q I q
  have e : ∀ w, isTrue (.IfExp c a b pos) X.env w = (do if ← isTrue c X.env (eval c X.env) then isTrue a X.env (eval a X.env) else isTrue b X.env (eval b X.env)) := fun w => by
    conv => lhs; unfold PySem.isTrue
  rw [e]
  refine wpAny_bind (thn (hc.run pins s σ H _ I q) ?_)
  rintro t s1 ⟨H1, I1, q1⟩
  cases t with
  | true => exact ha.run pins s1 σ H1 Q I1 q1
  | false => exact hb.run pins s1 σ H1 Q I1 q1
theorem iteB {t a b : T} {env : En} : evB Φ (.ite t a b) env = (one1 (ev Φ t env)).bind fun r => (asB r.1).bind fun w => if w then evB Φ a r.2 else evB Φ b r.2 := by
  have e3 : one1 (ev Φ (.ite t a b) env) = (one1 (ev Φ t env)).bind fun r => (asB r.1).bind fun w => one1 (if w then ev Φ a r.2 else ev Φ b r.2) := by
    show one1 ((one1 (ev Φ t env)).bind _) = _
    rw [one1_bind]
    congr 1
    funext r
    exact one1_bind _ _
  unfold evB
  rw [e3, M.bind_assoc]
  congr 1; funext r
  rw [M.bind_assoc]
  congr 1; funext w
  cases w <;> rfl
theorem snd_iteTT {t a b : T} {c y z : Expr} {pos : Pos} (h1 : PT X c (tT ca Φ W t)) (h2 : PT X y (tT ca Φ W a)) (h3 : PT X z (tT ca Φ W b)) : PT X (.IfExp c y z pos) (tT ca Φ W (.ite t a b)) := by
  refine ptImp (pt_ifE h1 h2 h3) fun σ H Q q => ?_
  obtain ⟨F, O, env, k, ae, bl, p⟩ := q
  rw [iteB] at p
  refine test_then (f := fun w env1 => if w = true then evB Φ a env1 else evB Φ b env1) ae bl p fun w env1 F1 O1 H1 ae1 bl1 p1 => ?_
  cases w with
  | true =>
    rw [if_pos rfl] at p1 ⊢
    exact ⟨F1, O1, env1, k, ae1, bl1, p1⟩
  | false =>
    rw [if_neg Bool.false_ne_true] at p1 ⊢
    exact ⟨F1, O1, env1, k, ae1, bl1, p1⟩
/-! ### dict displays -/
def pairT : List TE → List (TE × TE)
  | t :: u :: r => (t, u) :: pairT r
  | _ => []
def pairV : List V → List (V × V)
  | x :: y :: r => (x, y) :: pairV r
  | _ => []
theorem tPairs_eq : ∀ {keys : List (Option Expr)} {vals : List Expr} {xs : List Expr} {ts : List TE}, inter keys vals = some xs → PEs X xs ts → ∀ σ H Q, tPairs (pairT ts) σ H Q = seqT ts σ H fun vs H' => Q (pairV vs) H'
  | [], [], xs, ts, h, pe, σ, H, Q => by
    unfold inter at h
    cases h
    cases pe
    rfl
  | some k :: ks, v :: vs, xs, ts, h, pe, σ, H, Q => by
    unfold inter at h
    cases e : inter ks vs with
    | none => rw [e] at h; cases h
    | some r =>
      rw [e] at h
      cases h
      cases pe with
      | cons h1 pe =>
        cases pe with
        | cons h2 pe =>
          unfold pairT tPairs seqT
          rw [show seqT = seqT from rfl]
          show _ = tCons _ (tCons _ (seqT _)) _ _ _
          unfold tCons
          congr 1
          funext x H1
          congr 1
          funext y H2
          exact tPairs_eq e pe σ H2 _
  | [], _ :: _, xs, ts, h, pe, σ, H, Q => by unfold inter at h; cases h
  | none :: _, _, xs, ts, h, pe, σ, H, Q => by unfold inter at h; cases h
  | some _ :: _, [], xs, ts, h, pe, σ, H, Q => by unfold inter at h; cases h
theorem pps_of {pos : Pos} : ∀ {keys : List (Option Expr)} {vals : List Expr} {xs : List Expr} {ts : List TE}, inter keys vals = some xs → PEs X xs ts → PPs X pos keys vals (pairT ts) ∧ keys.all (·.isSome) = true ∧ keys.length = vals.length ∧ xs.length = 2 * keys.length
  | [], [], xs, ts, h, pe => by
    unfold inter at h
    cases h
    cases pe
    exact ⟨pps_nil, rfl, rfl, rfl⟩
  | some k :: ks, v :: vs, xs, ts, h, pe => by
    unfold inter at h
    cases e : inter ks vs with
    | none => rw [e] at h; cases h
    | some r =>
      rw [e] at h
      cases h
      cases pe with
      | cons h1 pe =>
        cases pe with
        | cons h2 pe =>
          obtain ⟨a, b, c, d⟩ := pps_of (pos := pos) e pe
          refine ⟨pps_cons h1 h2 a, ?_, ?_, ?_⟩
          · rw [List.all_cons, b] <;> rfl
          · rw [List.length_cons, List.length_cons, c]
          · rw [List.length_cons, List.length_cons, List.length_cons, d]; omega
  | [], _ :: _, xs, ts, h, pe => by unfold inter at h; cases h
  | none :: _, _, xs, ts, h, pe => by unfold inter at h; cases h
  | some _ :: _, [], xs, ts, h, pe => by unfold inter at h; cases h
theorem keyD_v {F : Hp} {d : D} {v : V} {n : Key} (h : Rep ca F d v) (e : keyD d = some n) : v = kV n := by
  cases d <;> first
    | (unfold keyD at e; cases e; done)
    | (unfold keyD at e; cases e; unfold Rep at h; exact h)
theorem pairs_rep {F : Hp} : ∀ {ds : List D} {vs : List V} {kvs : List (Key × D)}, Reps ca F ds vs → pairD ds = some kvs → ∃ us : List (Key × V), pairV vs = us.map (fun kv => (kV kv.1, kv.2)) ∧ RepK ca F kvs us ∧ 2 * us.length = vs.length
  | [], vs, kvs, h, e => by
    unfold Reps at h
    subst h
    unfold pairD at e
    cases e
    exact ⟨[], rfl, by unfold RepK; rfl, rfl⟩
  | [_], vs, kvs, h, e => by unfold pairD at e; cases e
  | k :: v :: r, vs, kvs, h, e => by
    unfold Reps at h
    obtain ⟨x, w, rfl, h1, h2⟩ := h
    unfold Reps at h2
    obtain ⟨y, z, rfl, h3, h4⟩ := h2
    unfold pairD at e
    split at e
    · rename_i n m e1 e2
      cases e
      obtain ⟨us, u1, u2, u3⟩ := pairs_rep h4 e2
      have ex := keyD_v h1 e1
      subst ex
      refine ⟨(n, y) :: us, ?_, ?_, ?_⟩
      · show (kV n, y) :: pairV z = _
        rw [u1] <;> rfl
      · unfold RepK
        exact ⟨y, us, rfl, h3, u2⟩
      · simp only [List.length_cons]; omega
    · cases e
theorem RepK.any {F : Hp} {k : Key} : ∀ {ds : List (Key × D)} {vs : List (Key × V)}, RepK ca F ds vs → (vs.any fun kv => decide (kv.1 = k)) = (ds.any fun kv => decide (kv.1 = k))
  | [], vs, h => by unfold RepK at h; subst h; rfl
  | (j, d) :: ds, vs, h => by
    unfold RepK at h
    obtain ⟨v, r, rfl, h2, h3⟩ := h
    rw [List.any_cons, List.any_cons, RepK.any h3]
theorem RepK.upd1 {F : Hp} {k : Key} {d : D} {v : V} (hd : Rep ca F d v) : ∀ {ds : List (Key × D)} {vs : List (Key × V)}, RepK ca F ds vs → RepK ca F (ds.map fun kv => if kv.1 = k then (kv.1, d) else kv) (vs.map fun kv => if kv.1 = k then (kv.1, v) else kv)
  | [], vs, h => by unfold RepK at h; subst h; unfold RepK; rfl
  | (j, d') :: ds, vs, h => by
    unfold RepK at h
    obtain ⟨w, r, rfl, h2, h3⟩ := h
    have ih := RepK.upd1 (k := k) hd h3
    by_cases e : j = k
    · rw [List.map_cons, List.map_cons, if_pos e, if_pos e]
      unfold RepK
      exact ⟨v, _, rfl, hd, ih⟩
    · rw [List.map_cons, List.map_cons, if_neg e, if_neg e]
      unfold RepK
      exact ⟨w, _, rfl, h2, ih⟩
theorem RepK.app1 {F : Hp} {k : Key} {d : D} {v : V} (hd : Rep ca F d v) : ∀ {ds : List (Key × D)} {vs : List (Key × V)}, RepK ca F ds vs → RepK ca F (ds ++ [(k, d)]) (vs ++ [(k, v)])
  | [], vs, h => by
    unfold RepK at h
    subst h
    show RepK ca F [(k, d)] [(k, v)]
    unfold RepK
    exact ⟨v, [], rfl, hd, by unfold RepK; rfl⟩
  | (j, d') :: ds, vs, h => by
    unfold RepK at h
    obtain ⟨w, r, rfl, h2, h3⟩ := h
    show RepK ca F ((j, d') :: (ds ++ [(k, d)])) ((j, w) :: (r ++ [(k, v)]))
    unfold RepK
    exact ⟨w, _, rfl, h2, RepK.app1 hd h3⟩
theorem RepK.put {F : Hp} {k : Key} {d : D} {v : V} (hd : Rep ca F d v) {ds : List (Key × D)} {vs : List (Key × V)} (h : RepK ca F ds vs) : RepK ca F (setK k d ds) (putK vs k v) := by
  unfold setK putK
  rw [h.any]
  split
  · exact h.upd1 hd
  · exact h.app1 hd
theorem RepK.merge {F : Hp} : ∀ {more : List (Key × D)} {mv : List (Key × V)} {ds : List (Key × D)} {vs : List (Key × V)}, RepK ca F more mv → RepK ca F ds vs → RepK ca F (mergeD ds more) (mergeK vs mv)
  | [], mv, ds, vs, h, k => by unfold RepK at h; subst h; exact k
  | (j, d) :: more, mv, ds, vs, h, k => by
    unfold RepK at h
    obtain ⟨v, r, rfl, h2, h3⟩ := h
    show RepK ca F (mergeD (setK j d ds) more) (mergeK (putK vs j v) r)
    exact RepK.merge h3 (k.put h2)
theorem snd_dic {es : T} {xs : List Expr} {keys : List (Option Expr)} {vals : List Expr} {pos : Pos} (hi : inter keys vals = some xs) (h : ArgOk X ca Φ W es xs) (hp : plains xs = true) (hl : keys.length ≤ 15) : PE X (.Dict keys vals pos) (tE ca Φ W (.dic es)) := by
  obtain ⟨ts, pe, i⟩ := h
  obtain ⟨pp, ha, hlen, hx⟩ := pps_of (pos := pos) hi pe
  have e3 : ∀ env, one1 (ev Φ (.dic es) env) = (ev Φ es env).bind fun a => match pairD (a.1.map R.d) with
    | some kvs => .ok (.ow (.dic none (mergeD [] kvs)), a.2)
    | none => .no := fun env => by
    show one1 ((ev Φ es env).bind _) = _
    rw [one1_bind]
    congr 1; funext a
    show one1 (match pairD (a.1.map R.d) with
      | some kvs => M.ok ([R.ow (D.dic none (mergeD [] kvs))], a.2)
      | none => .no) = _
    cases pairD (a.1.map R.d) <;> rfl
  have main : ∀ σ H Q, tE ca Φ W (.dic es) σ H Q → ∀ q, H q = none → seqT ts σ (upd H q (.dK [])) fun vs H2 => H2 q = some (.dK []) ∧ ∃ kvs : List (Key × V), pairV vs = kvs.map (fun kv => (kV kv.1, kv.2)) ∧ kvs.length ≤ 15 ∧ Q (.ref q) (upd H2 q (.dK (mergeK [] kvs))) := by
    intro σ H Q w q hq
    obtain ⟨F, O, env, k, ae, bl, p⟩ := w
    rw [e3] at p
    have n1 := ae.bs.fr hq
    have st0 := ae.bs.nO_stp (l := .t k 0) (o := .dK []) hq k
    have ae0 : AE ca F (newO O q (.t k 0)) env σ (upd H q (.dK [])) := ae.grow (ae.bs.nO hq) (.refl _) (sub_upd hq) (newO_keep n1.2)
    have bl0 : Below (newO O q (.t k 0)) (k + 1) := fun a j c y => by
      by_cases hc : a = q
      · subst hc; rw [newO_same] at y; cases y; exact Nat.lt_succ_self _
      · rw [newO_ne hc] at y; exact Nat.lt_succ_of_lt (bl a j c y)
    refine i _ _ _ ⟨F, newO O q (.t k 0), env, k + 1, ae0, bl0, ((p.at st0).bind.lift (Nat.le_succ k)).imp fun a F1 O1 H1 st1 p1 vs ae1 rvs bl1 z => ?_⟩
    have pk : Pk (k + 1) (newO O q (.t k 0)) q := ⟨fun i c y => (by rw [newO_same] at y; cases y), fun j c y => (by rw [newO_same] at y; cases y; exact Nat.lt_succ_self _)⟩
    have hq1 : H1 q = some (.dK []) := st1.keep q _ upd_same pk
    have oq1 : O1 q = some (.t k 0) := (st1.lab q _ upd_same pk).trans newO_same
    refine ⟨hq1, ?_⟩
    have rz := RepRs.tz ae1.bs rvs
    cases ek : pairD (a.1.map R.d) with
    | none => rw [ek] at p1; exact p1.elim
    | some kvs =>
      rw [ek] at p1
      obtain ⟨us, u1, u2, u3⟩ := pairs_rep rz ek
      refine ⟨us, u1, by have := z.2; omega, ?_⟩
      have b2 := ae1.bs.map (aTz (k + 1))
      have ae2 : AE ca (mF (aTz (k + 1)) O1 F1 H1) (mO (aTz (k + 1)) O1) a.2 σ H1 := ae1.mapS _ fun _ _ => rfl
      have oq2 : mO (aTz (k + 1)) O1 q = some (.t k 0) := mO_some oq1 (if_pos (Nat.lt_succ_self k))
      have fq : mF (aTz (k + 1)) O1 F1 H1 q = none := b2.dis q _ oq2
      have rk : RepK ca (mF (aTz (k + 1)) O1 F1 H1) (mergeD [] kvs) (mergeK [] us) := RepK.merge u2 (by unfold RepK; rfl)
      have b3 : Bs (mF (aTz (k + 1)) O1 F1 H1) (mO (aTz (k + 1)) O1) (upd H1 q (.dK (mergeK [] us))) := by
        refine ⟨fun a' o e => ?_, b2.dis, fun a' l e => ?_⟩
        · have hne : a' ≠ q := fun h => by subst h; rw [fq] at e; cases e
          rw [upd_ne hne]; exact b2.sub a' o e
        · by_cases hne : a' = q
          · subst hne; exact ⟨_, upd_same⟩
          · rw [upd_ne hne]; exact b2.own a' l e
      have s3 : Stp k (mF (aTz (k + 1)) O1 F1 H1) (mO (aTz (k + 1)) O1) H1 (mF (aTz (k + 1)) O1 F1 H1) (mO (aTz (k + 1)) O1) (upd H1 q (.dK (mergeK [] us))) := by
        refine ⟨.refl _, fun a' o e pk9 => ?_, fun _ _ _ _ => rfl, fun _ _ _ _ z => z, fun a' o e => ?_⟩
        · have hne : a' ≠ q := fun h => by rw [h] at pk9; exact absurd (pk9.2 k 0 oq2) (Nat.lt_irrefl _)
          rw [upd_ne hne]; exact e
        · by_cases hne : a' = q
          · subst hne; exact ⟨_, upd_same⟩
          · exact ⟨o, by rw [upd_ne hne]; exact e⟩
      have s2 := (ae1.bs.stp (aTz_low (k + 1))).mono (Nat.le_succ k)
      refine ((p1.at s2).at s3).here (.ref q) (b3.ae fun i' r' e => ?_) ⟨q, _, rfl, upd_same, oq2, .inl rfl, rk⟩ below_tz
      obtain ⟨v', v1, v2⟩ := ae2.slot i' r' e
      refine ⟨v', v1, v2.mono (.refl _) fun c a' o e1 e2 => ⟨?_, e1⟩⟩
      have hne : a' ≠ q := fun h => by subst h; rw [oq2] at e1; cases e1
      rw [upd_ne hne]; exact e2
  cases keys with
  | nil =>
    cases vals with
    | nil =>
      unfold inter at hi
      cases hi
      cases pe
      refine peImp pe_dnewK fun σ H Q w q hq => ?_
      obtain ⟨h1, kvs, h2, h3, h4⟩ := main σ H Q w q hq
      have e0 : kvs = [] := by
        cases kvs with
        | nil => rfl
        | cons _ _ => cases h2
      subst e0
      have e1 : upd (upd H q (.dK [])) q (.dK (mergeK [] [])) = upd H q (.dK []) := by
        funext a'
        by_cases ha : a' = q
        · subst ha; rw [upd_same, upd_same] <;> rfl
        · rw [upd_ne ha]
      rw [e1] at h4
      exact h4
    | cons _ _ => unfold inter at hi; cases hi
  | cons key ks =>
    refine peImp (pe_disp pp ha hlen (List.cons_ne_nil _ _) hl) fun σ H Q w q hq => ?_
    rw [tPairs_eq hi pe]
    exact main σ H Q w q hq
end
end FH
set_option Elab.async false
set_option linter.all false
set_option maxRecDepth 100000
set_option maxHeartbeats 2000000
namespace FH
open PySem PySem.Spec PyProof.Rows L2
/-! ### targets -/
def gNs : List Nat → TGs
  | [] => gNil
  | i :: is => gCons (gName i) (gNs is)
def gTg (K : PySem.W.Frag) : Tg → TG
  | .nm i => gName i
  | .tp is => gTup K is.length (gNs is)
section
variable {ca : Cs} {F H : Hp} {O : Own} {env env' : En} {σ : L2.St} {K : PySem.W.Frag}
theorem AE.set_sh {i : Nat} {d : D} {v : V} (ae : AE ca F O env σ H) (r : Rep ca F d v) (hi : i < σ.length) : AE ca F O (env.set i (some (.sh d))) (σ.set i (some v)) H :=
  ae.bs.ae fun j q e => by
    rcases set_slot e with ⟨rfl, e1⟩ | ⟨ne, e1⟩
    · cases e1
      exact ⟨v, List.getElem?_set_self hi, r⟩
    · obtain ⟨w, w1, w2⟩ := ae.slot j q e1
      exact ⟨w, by rw [List.getElem?_set_ne (Ne.symm ne)]; exact w1, w2⟩
theorem setIs_go : ∀ {is : List Nat} {ds : List D} {env env' : En} {vs : List V} {σ : L2.St} {Q : L2.St → Hp → Prop}, setIs is ds env = .ok env' → AE ca F O env σ H → Reps ca F ds vs → (∀ i, i ∈ is → i < σ.length) →
    (∀ σ', (∀ j, j ∉ is → σ'[j]? = σ[j]?) → σ'.length = σ.length → AE ca F O env' σ' H → Q σ' H) → gNs is vs σ H Q ∧ vs.length = is.length
  | [], [], env, env', vs, σ, Q, e, ae, r, hl, h => by
    unfold setIs at e
    cases e
    unfold Reps at r
    exact ⟨⟨r, h σ (fun _ _ => rfl) rfl ae⟩, by rw [r] <;> rfl⟩
  | i :: is, d :: ds, env, env', vs, σ, Q, e, ae, r, hl, h => by
    unfold setIs at e
    unfold Reps at r
    obtain ⟨v, w, rfl, r1, r2⟩ := r
    have ih := setIs_go (σ := σ.set i (some v)) (Q := Q) e (ae.set_sh r1 (hl i List.mem_cons_self)) r2 (fun j hj => by rw [List.length_set]; exact hl j (List.mem_cons_of_mem _ hj)) fun σ' h1 h2 h3 => h σ' (fun j hj => by
      rw [h1 j fun z => hj (List.mem_cons_of_mem _ z)]
      exact List.getElem?_set_ne fun z => hj (by rw [z]; exact List.mem_cons_self)) (by rw [h2, List.length_set]) h3
    exact ⟨⟨v, w, rfl, ih.1⟩, by rw [List.length_cons, List.length_cons, ih.2]⟩
  | [], _ :: _, env, env', vs, σ, Q, e, ae, r, hl, h => by unfold setIs at e; cases e
  | _ :: _, [], env, env', vs, σ, Q, e, ae, r, hl, h => by unfold setIs at e; cases e
theorem setT_go {tg : Tg} {d : D} {x : V} {Q : L2.St → Hp → Prop} (e : setT tg d env = .ok env') (ae : AE ca F O env σ H) (r : Rep ca F d x) (hl : ∀ i, i ∈ tgSlots tg → i < σ.length)
    (h : ∀ σ', (∀ j, j ∉ tgSlots tg → σ'[j]? = σ[j]?) → σ'.length = σ.length → AE ca F O env' σ' H → Q σ' H) : gTg K tg x σ H Q := by
  cases tg with
  | nm i =>
    unfold setT at e
    cases e
    exact h _ (fun j hj => List.getElem?_set_ne fun z => hj (by rw [z]; exact List.mem_cons_self)) (List.length_set ..) (ae.set_sh r (hl i List.mem_cons_self))
  | tp is =>
    unfold setT at e
    cases d <;> first
      | (cases e; done)
      | skip
    rename_i ds
    unfold Rep at r
    obtain ⟨a, vs, rfl, h1, h2⟩ := r
    obtain ⟨g1, g2⟩ := setIs_go e ae h2 hl h
    exact ⟨a, vs, rfl, SqT.of (ae.sub _ _ h1), g2, g1⟩
end
theorem setT_ex {tg : Tg} {d : D} {env : En} {c : Str} {e : D} : setT tg d env ≠ .ex c e := by
  have key : ∀ (is : List Nat) (ds : List D) (env : En), setIs is ds env ≠ .ex c e := by
    intro is
    induction is with
    | nil => intro ds env h; cases ds <;> (unfold setIs at h; cases h)
    | cons i is ih =>
      intro ds env h
      cases ds with
      | nil => unfold setIs at h; cases h
      | cons d ds => unfold setIs at h; exact ih _ _ h
  intro h
  unfold setT at h
  cases tg with
  | nm i => cases h
  | tp is =>
    cases d <;> first
      | (cases h; done)
      | exact key _ _ _ h
/-! ### wiped slots -/
theorem wipe_get {σ : L2.St} {j : Nat} : ∀ {vs : List Nat}, (wipe σ vs)[j]? = if j ∈ vs then (σ[j]?).map (fun _ => none) else σ[j]?
  | [] => by simp [wipe]
  | v :: vs => by
    unfold wipe
    by_cases hv : v = j
    · subst hv
      rw [if_pos List.mem_cons_self]
      by_cases hl : v < σ.length
      · rw [List.getElem?_set_self (by rw [wipe_length]; exact hl), List.getElem?_eq_getElem hl] <;> rfl
      · rw [List.getElem?_eq_none (by rw [List.length_set, wipe_length]; omega), List.getElem?_eq_none (by omega)] <;> rfl
    · rw [List.getElem?_set_ne hv, wipe_get (vs := vs)]
      have : (j ∈ v :: vs) ↔ j ∈ vs := by
        constructor
        · intro h
          rcases List.mem_cons.mp h with h | h
          · exact absurd h.symm hv
          · exact h
        · exact List.mem_cons_of_mem _
      by_cases hj : j ∈ vs
      · rw [if_pos hj, if_pos (this.mpr hj)]
      · rw [if_neg hj, if_neg fun z => hj (this.mp z)]
theorem wipe_eq {σ σ' : L2.St} {vs : List Nat} (hl : σ'.length = σ.length) (h : ∀ j, j ∉ vs → σ'[j]? = σ[j]?) : wipe σ' vs = wipe σ vs := by
  apply List.ext_getElem?
  intro j
  rw [wipe_get, wipe_get]
  by_cases hj : j ∈ vs
  · rw [if_pos hj, if_pos hj]
    by_cases hlt : j < σ.length
    · rw [List.getElem?_eq_getElem hlt, List.getElem?_eq_getElem (by omega)] <;> rfl
    · rw [List.getElem?_eq_none (by omega), List.getElem?_eq_none (by omega)]
  · rw [if_neg hj, if_neg hj]
    exact h j hj
theorem wipeE_get {env : En} {j : Nat} {r : R} : ∀ {vs : List Nat}, (wipeE env vs)[j]? = some (some r) → j ∉ vs ∧ env[j]? = some (some r)
  | [], h => ⟨fun z => (nomatch z), h⟩
  | v :: vs, h => by
    unfold wipeE at h
    rcases set_slot h with ⟨_, e⟩ | ⟨ne, e⟩
    · cases e
    · obtain ⟨h1, h2⟩ := wipeE_get e
      exact ⟨fun z => by
        rcases List.mem_cons.mp z with z | z
        · exact ne z
        · exact h1 z, h2⟩
theorem restore_get {env0 : En} {j : Nat} {r : R} : ∀ {own : List Nat} {env : En}, (restore own env0 env)[j]? = some (some r) → (∃ d, r = .sh d ∧ env0[j]? = some (some (.sh d))) ∨ (j ∉ own ∧ env[j]? = some (some r))
  | [], env, h => .inr ⟨fun z => (nomatch z), h⟩
  | i :: own, env, h => by
    have h' : (restore own env0 (env.set i (shared (env0[i]?.join))))[j]? = some (some r) := h
    rcases restore_get h' with q | ⟨q1, q2⟩
    · exact .inl q
    · rcases set_slot q2 with ⟨rfl, e⟩ | ⟨ne, e⟩
      · refine .inl ?_
        cases e0 : env0[j]? with
        | none => rw [e0] at e; cases e
        | some o =>
          rw [e0] at e
          cases o with
          | none => cases e
          | some q =>
            cases q with
            | sh d => exact ⟨d, (Option.some.inj e).symm, rfl⟩
            | ow d => cases e
            | tp cs => cases e
      · exact .inr ⟨fun z => by
          rcases List.mem_cons.mp z with z | z
          · exact ne z
          · exact q1 z, e⟩
end FH
set_option Elab.async false
set_option linter.all false
set_option maxRecDepth 100000
set_option maxHeartbeats 2000000
namespace FH
open PySem PySem.Spec PyProof.Rows L2
def W0 : WX := fun _ _ _ _ => False
def ttOf (ca : Cs) (Φ : FT) : T → TT
  | .nil => tYes
  | c => tT ca Φ W0 c
section
variable {ca : Cs} {Φ : FT}
theorem cond_read {c : T} {σ : L2.St} {H : Hp} {Q : Bool → Hp → Prop} {F : Hp} {O : Own} {env : En} {k : Nat} (ae : AE ca F O env σ H) (bl : Below O k) (p : PostG ca W0 σ k F O H (condM c (ev Φ c) env) (CB ca σ k Q)) : ttOf ca Φ c σ H Q := by
  by_cases hc : c = .nil
  · subst hc
    exact p.here ae bl
  · have e : condM c (ev Φ c) env = evB Φ c env := by
      cases c <;> first
        | rfl
        | exact absurd rfl hc
    have e2 : ttOf ca Φ c = tT ca Φ W0 c := by
      cases c <;> first
        | rfl
        | exact absurd rfl hc
    rw [e2]
    rw [e] at p
    exact ⟨F, O, env, k, ae, bl, p⟩
def compB (Φ : FT) (vs : List Nat) (tg : Tg) (elt cond : T) (x : D) (env : En) : M (Option D × En) :=
  (setT tg x env).bind fun env => (condM cond (ev Φ cond) env).bind fun a => if a.1 then (one1 (ev Φ elt a.2)).bind fun b => .ok (some b.1.d, wipeE b.2 vs) else .ok (none, wipeE a.2 vs)
theorem comp_e {own : List (Str × Nat)} {elt src cond : T} {tg : Tg} {env : En} : one1 (ev Φ (.comp own elt tg src cond) env) = (one1 (ev Φ src env)).bind fun a => match a.1 with
    | .sh (.lst _ xs) => if xs.length ≤ LIM then (compL (fun x env => (compB Φ (own.map (·.2)) tg elt cond x env).noex) xs (wipeE a.2 (own.map (·.2)))).bind fun b => .ok (.ow (.lst none b.1), restore (own.map (·.2)) a.2 b.2) else .no
    | _ => .no := by
  have e0 : ev Φ (.comp own elt tg src cond) env = (one1 (ev Φ src env)).bind fun a => match a.1 with
    | .sh (.lst _ xs) => if xs.length ≤ LIM then (compL (fun x env => (compB Φ (own.map (·.2)) tg elt cond x env).noex) xs (wipeE a.2 (own.map (·.2)))).bind fun b => .ok ([.ow (.lst none b.1)], restore (own.map (·.2)) a.2 b.2) else .no
    | _ => .no := rfl
  rw [e0, one1_bind]
  congr 1; funext a
  obtain ⟨r, env1⟩ := a
  cases r with
  | sh d =>
    cases d with
    | lst t xs =>
      show one1 (if xs.length ≤ LIM then _ else _) = if xs.length ≤ LIM then _ else _
      split
      · rw [one1_bind]; rfl
      · rfl
    | _ => rfl
  | _ => rfl
/-- no exception, no stop: an outcome in the block -/
theorem post0 {α : Type} {σ : L2.St} {k : Nat} {F : Hp} {O : Own} {H : Hp} {m : M α} {C : α → Hp → Own → Hp → Prop} {a : α} (e : m = .ok a) (h : ∀ F' O' H', Stp k F O H F' O' H' → C a F' O' H') : PostG ca W0 σ k F O H m C := by
  rw [e]; exact h
theorem noex_ok {α : Type} {m : M α} {a : α} (h : m.noex = .ok a) : m = .ok a := by
  cases m with
  | ok b => exact h
  | ex c d => cases h
  | no => cases h
theorem comp_read {K : PySem.W.Frag} {own : List (Str × Nat)} {elt src cond : T} {tg : Tg} {σ : L2.St} {H : Hp} {Q : VK} {W : WX} (hs : ∀ i, i ∈ own.map (·.2) → i < σ.length) (ht : ∀ i, i ∈ tgSlots tg → i ∈ own.map (·.2))
    (q : tE ca Φ W (.comp own elt tg src cond) σ H Q) : tLc (tI ca Φ W src) (gTg K tg) (ttOf ca Φ cond) (tE ca Φ W0 elt) (own.map (·.2)) σ H Q := by
  obtain ⟨F, O, env, k, ae, bl, p⟩ := q
  rw [comp_e] at p
  refine ⟨F, O, env, k, ae, bl, p.bind.imp fun a F1 O1 H1 st1 p1 ae1 bl1 t xs er J hJ D hD => ?_⟩
  generalize own.map (·.2) = vs at hs ht p1
  rw [er] at p1
  have p2 : PostG ca W σ k F1 O1 H1 (if xs.length ≤ LIM then (compL (fun x env => (compB Φ vs tg elt cond x env).noex) xs (wipeE a.2 vs)).bind fun b => .ok (.ow (.lst none b.1), restore vs a.2 b.2) else .no) (CE ca σ k Q) := p1
  split at p2
  case isFalse => exact p2.elim
  rename_i hlen
  -- the new list
  have n1 := ae1.bs.fr hD
  have st0 := ae1.bs.nO_stp (l := .t k 0) (o := .lst []) hD k
  have ae0 : AE ca F1 (newO O1 D (.t k 0)) a.2 σ (upd H1 D (.lst [])) := ae1.grow (ae1.bs.nO hD) (.refl _) (sub_upd hD) (newO_keep n1.2)
  refine ⟨fun i m H => ∃ F O env acc accD, AE ca F O env (wipe σ vs) H ∧ (∀ j r, env[j]? = some (some r) → j ∉ vs) ∧ Below O (k + 1) ∧ H D = some (.lst acc) ∧ O D = some (.t k 0) ∧ Reps ca F accD acc ∧ i ≤ xs.length ∧ m = xs.length - i ∧ Sub F1 F ∧ acc.length ≤ i ∧
    PostG ca W σ k F O H ((compL (fun x env => (compB Φ vs tg elt cond x env).noex) (xs.drop i) env).bind fun b => .ok (.ow (.lst none (accD ++ b.1)), restore vs a.2 b.2)) (CE ca σ k Q), ⟨xs.length, F1, newO O1 D (.t k 0), wipeE a.2 vs, [], [], ?_, fun j r e => (wipeE_get e).1, ?_, upd_same, newO_same, .nil, Nat.zero_le _, rfl, .refl _, Nat.le_refl _, ?_⟩, ?_⟩
  · refine ae0.bs.ae fun j r e => ?_
    obtain ⟨e1, e2⟩ := wipeE_get e
    obtain ⟨v, v1, v2⟩ := ae0.slot j r e2
    exact ⟨v, by rw [wipe_out e1]; exact v1, v2⟩
  · intro a' j c y
    by_cases hc : a' = D
    · subst hc; rw [newO_same] at y; cases y; exact Nat.lt_succ_self _
    · rw [newO_ne hc] at y; exact Nat.lt_succ_of_lt (bl1 a' j c y)
  · rw [List.drop_zero]
    exact p2.at st0
  rintro i m H2 ⟨F2, O2, env2, acc, accD, ae2, ev2, bl2, hd2, od2, r2, hi, hm, sF, hacc, p3⟩
  by_cases hlt : i < xs.length
  · -- a turn
    refine .inr ?_
    have hx : xs[i]? = some xs[i] := List.getElem?_eq_getElem hlt
    obtain ⟨go, yl⟩ := (hJ i F2 H2 sF ae2.sub).1 _ hx
    refine ⟨go, ?_⟩
    rw [List.drop_eq_getElem_cons hlt] at p3
    have e1 : compL (fun x env => (compB Φ vs tg elt cond x env).noex) (xs[i] :: xs.drop (i + 1)) env2 = ((compB Φ vs tg elt cond xs[i] env2).noex).bind fun a => (compL (fun x env => (compB Φ vs tg elt cond x env).noex) (xs.drop (i + 1)) a.2).bind fun b => .ok (a.1.toList ++ b.1, b.2) := rfl
    rw [e1, M.bind_assoc] at p3
    cases eb : (compB Φ vs tg elt cond xs[i] env2).noex with
    | ex c d =>
      exfalso
      unfold M.noex at eb
      split at eb <;> cases eb
    | no => rw [eb] at p3; exact p3.elim
    | ok oa =>
      rw [eb] at p3
      have p4 : PostG ca W σ k F2 O2 H2 ((compL (fun x env => (compB Φ vs tg elt cond x env).noex) (xs.drop (i + 1)) oa.2).bind fun b => .ok (.ow (.lst none (accD ++ (oa.1.toList ++ b.1))), restore vs a.2 b.2)) (CE ca σ k Q) := by
        have e2 : ((compL (fun x env => (compB Φ vs tg elt cond x env).noex) (xs.drop (i + 1)) oa.2).bind fun b => (M.ok (oa.1.toList ++ b.1, b.2) : M (List FH.D × En))).bind (fun b => (.ok (R.ow (FH.D.lst none (accD ++ b.1)), restore vs a.2 b.2) : M (R × En))) = (compL (fun x env => (compB Φ vs tg elt cond x env).noex) (xs.drop (i + 1)) oa.2).bind fun b => .ok (.ow (.lst none (accD ++ (oa.1.toList ++ b.1))), restore vs a.2 b.2) := by
          rw [M.bind_assoc] <;> rfl
        rw [← e2]
        exact p3
      have ebo := noex_ok eb
      refine ⟨fun H' => ∃ F O env acc accD, AE ca F O env (wipe σ vs) H' ∧ (∀ j r, env[j]? = some (some r) → j ∉ vs) ∧ Below O (k + 1) ∧ H' D = some (.lst acc) ∧ O D = some (.t k 0) ∧ Reps ca F accD acc ∧ Sub F1 F ∧ acc.length ≤ i + 1 ∧
        PostG ca W σ k F O H' ((compL (fun x env => (compB Φ vs tg elt cond x env).noex) (xs.drop (i + 1)) env).bind fun b => .ok (.ow (.lst none (accD ++ b.1)), restore vs a.2 b.2)) (CE ca σ k Q), ?_, ?_⟩
      · rintro H' ⟨F3, O3, env3, acc3, accD3, h1, h2, h3, h4, h5, h6, h7, h8, h9⟩
        exact ⟨xs.length - (i + 1), by omega, F3, O3, env3, acc3, accD3, h1, h2, h3, h4, h5, h6, by omega, rfl, h7, h8, h9⟩
      · intro x H' hy
        obtain ⟨F3, s1, s2, s3, s4, rx⟩ := yl x H' hy
        -- behind the item
        have b3 : Bs F3 O2 H' := by
          refine ⟨s2, fun a' l e => ?_, fun a' l e => ?_⟩
          · cases q : F3 a' with
            | none => rfl
            | some o =>
              rcases s4 a' o q with z | z
              · rw [ae2.dis a' l e] at z; cases z
              · obtain ⟨o', y⟩ := ae2.own a' l e
                rw [z] at y; cases y
          · obtain ⟨o, y⟩ := ae2.own a' l e
            exact ⟨o, s3 _ _ y⟩
        have st3 : ∀ j, Stp j F2 O2 H2 F3 O2 H' := fun j => by
          refine ⟨s1, fun a' o e _ => s3 _ _ e, fun _ _ _ _ => rfl, fun a' o e pk n => ?_, fun a' o e => ⟨o, s3 _ _ e⟩⟩
          cases q : F3 a' with
          | none => rfl
          | some u =>
            rcases s4 a' u q with z | z
            · rw [n] at z; cases z
            · rw [e] at z; cases z
        have ae3 : AE ca F3 O2 env2 (wipe σ vs) H' := ae2.grow b3 s1 s3 fun _ _ z => z
        -- the body's outcome
        unfold compB at ebo
        obtain ⟨env3, e3, ebo⟩ := M.bind_eq ebo
        obtain ⟨ca1, e4, ebo⟩ := M.bind_eq ebo
        refine setT_go e3 ae3 rx (fun j hj => by rw [wipe_length]; exact hs j (ht j hj)) fun σ' u1 u2 ae4 => ?_
        have wq : wipe σ' vs = wipe σ vs := by
          rw [wipe_eq (σ := wipe σ vs) u2 fun j hj => u1 j fun z => hj (ht j z)]
          exact wipe_eq (wipe_length σ vs) fun j hj => wipe_out hj
        refine ⟨wq, ?_⟩
        have back : ∀ {F O env H}, AE ca F O env σ' H → AE ca F O (wipeE env vs) (wipe σ vs) H := fun {F O env H} ae => by
          refine ae.bs.ae fun j r e => ?_
          obtain ⟨e1, e2⟩ := wipeE_get e
          obtain ⟨v, v1, v2⟩ := ae.slot j r e2
          exact ⟨v, by rw [← wq, wipe_out e1]; exact v1, v2⟩
        have keepD : ∀ {F O H}, Stp (k + 1) F3 O2 H' F O H → H D = some (.lst acc) ∧ O D = some (.t k 0) := fun {F O H} st => by
          have hD' : H' D = some (.lst acc) := s3 _ _ hd2
          have pk : Pk (k + 1) O2 D := ⟨fun i c y => (by rw [od2] at y; cases y), fun j c y => (by rw [od2] at y; cases y; exact Nat.lt_succ_self _)⟩
          exact ⟨st.keep D _ hD' pk, (st.lab D _ hD' pk).trans od2⟩
        refine cond_read ae4 bl2 (post0 e4 fun F5 O5 H5 st5 ae5 bl5 => ?_)
        obtain ⟨hd5, od5⟩ := keepD st5
        cases ec : ca1.1 with
        | false =>
          rw [if_neg Bool.false_ne_true]
          rw [ec] at ebo
          have ebo' : (M.ok (none, wipeE ca1.2 vs) : M (Option FH.D × En)) = .ok oa := ebo
          cases ebo'
          refine ⟨F5, O5, wipeE ca1.2 vs, acc, accD, back ae5, fun j r e => (wipeE_get e).1, bl5, hd5, od5, Reps.mono (s1.trans st5.ext) _ _ r2, (sF.trans s1).trans st5.ext, Nat.le_succ_of_le hacc, ?_⟩
          exact (p4.at (st3 k)).at (st5.mono (Nat.le_succ k))
        | true =>
          rw [if_pos rfl]
          rw [ec] at ebo
          have ebo' : ((one1 (ev Φ elt ca1.2)).bind fun b => (M.ok (some b.1.d, wipeE b.2 vs) : M (Option FH.D × En))) = .ok oa := ebo
          obtain ⟨cb, e5, ebo⟩ := M.bind_eq ebo'
          cases ebo
          refine ⟨F5, O5, ca1.2, k + 1, ae5, bl5, post0 e5 fun F6 O6 H6 st6 v ae6 rv bl6 => ?_⟩
          obtain ⟨hd6, od6⟩ := keepD (st5.trans st6)
          refine ⟨acc, hd6, Nat.lt_of_le_of_lt (Nat.le_trans hacc (Nat.le_of_lt hlt)) (Nat.lt_of_le_of_lt hlen lim_lt), ?_⟩
          -- freeze the value, write it
          have b7 := ae6.bs.map (aTz (k + 1))
          have ae7 := ae6.mapS (aTz (k + 1)) fun _ _ => rfl
          have rz : Rep ca (mF (aTz (k + 1)) O6 F6 H6) cb.1.d v := rv.frz (φ := aTz (k + 1)) ae6.bs fun c => if_neg (Nat.lt_irrefl _)
          have s7 := ae6.bs.stp (aTz_low (k + 1))
          have od7 : mO (aTz (k + 1)) O6 D = some (.t k 0) := mO_some od6 (if_pos (Nat.lt_succ_self k))
          generalize hF7 : mF (aTz (k + 1)) O6 F6 H6 = F7 at b7 ae7 rz s7
          generalize hO7 : mO (aTz (k + 1)) O6 = O7 at b7 ae7 s7 od7
          have fD : F7 D = none := b7.dis D _ od7
          have b8 : Bs F7 O7 (upd H6 D (.lst (acc ++ [v]))) := by
            refine ⟨fun a' o e => ?_, b7.dis, fun a' l e => ?_⟩
            · have hne : a' ≠ D := fun h => by rw [h, fD] at e; cases e
              rw [upd_ne hne]; exact b7.sub a' o e
            · by_cases hne : a' = D
              · rw [hne]; exact ⟨_, upd_same⟩
              · rw [upd_ne hne]; exact b7.own a' l e
          have s8 : Stp k F7 O7 H6 F7 O7 (upd H6 D (.lst (acc ++ [v]))) := by
            refine ⟨.refl _, fun a' o e pk9 => ?_, fun _ _ _ _ => rfl, fun _ _ _ _ z => z, fun a' o e => ?_⟩
            · have hne : a' ≠ D := fun h => by rw [h] at pk9; exact absurd (pk9.2 k 0 od7) (Nat.lt_irrefl _)
              rw [upd_ne hne]; exact e
            · by_cases hne : a' = D
              · rw [hne]; exact ⟨_, upd_same⟩
              · exact ⟨o, by rw [upd_ne hne]; exact e⟩
          have ae8 : AE ca F7 O7 cb.2 σ' (upd H6 D (.lst (acc ++ [v]))) := b8.ae fun i' r' e => by
            obtain ⟨v', v1, v2⟩ := ae7.slot i' r' e
            refine ⟨v', v1, v2.mono (.refl _) fun c a' o e1 e2 => ⟨?_, e1⟩⟩
            have hne : a' ≠ D := fun h => by rw [h, od7] at e1; cases e1
            rw [upd_ne hne]; exact e2
          have sF7 : Sub F2 F7 := ((s1.trans st5.ext).trans st6.ext).trans s7.ext
          refine ⟨F7, O7, wipeE cb.2 vs, acc ++ [v], accD ++ [cb.1.d], back ae8, fun j r e => (wipeE_get e).1, ?_, upd_same, od7, (Reps.mono sF7 _ _ r2).append (.cons rz .nil), sF.trans sF7, ?_, ?_⟩
          · rw [← hO7]; exact below_tz
          · rw [List.length_append, List.length_singleton]; omega
          · have p5 := ((((p4.at (st3 k)).at (st5.mono (Nat.le_succ k))).at (st6.mono (Nat.le_succ k))).at (s7.mono (Nat.le_succ k))).at s8
            have e9 : ∀ b : List FH.D, accD ++ ((some cb.1.d).toList ++ b) = (accD ++ [cb.1.d]) ++ b := fun b => by simp
            simp only [e9] at p5
            exact p5
  · -- the end
    refine .inl ⟨(hJ i F2 H2 sF ae2.sub).2 (by omega), ?_⟩
    rw [List.drop_eq_nil_of_le (by omega)] at p3
    have p4 : PostG ca W σ k F2 O2 H2 (.ok (R.ow (FH.D.lst none (accD ++ [])), restore vs a.2 env2)) (CE ca σ k Q) := p3
    rw [List.append_nil] at p4
    refine p4.here (.ref D) (ae2.bs.ae fun j r e => ?_) ⟨D, acc, rfl, hd2, od2, .inl rfl, r2⟩ bl2
    rcases restore_get e with ⟨d, rfl, e1⟩ | ⟨e1, e2⟩
    · obtain ⟨v, v1, v2⟩ := ae1.slot j _ e1
      exact ⟨v, v1, Rep.mono sF _ _ v2⟩
    · obtain ⟨v, v1, v2⟩ := ae2.slot j r e2
      rw [wipe_out e1] at v1
      exact ⟨v, v1, v2⟩
end
end FH
set_option Elab.async false
set_option linter.all false
set_option maxRecDepth 100000
set_option maxHeartbeats 2000000
namespace FH
open PySem PySem.Spec PyProof.Rows L2
/-! ### what a fit tells of the text -/
section
variable {c : MC} {x tx : Expr} {xs : List Expr}
theorem mE_var {i : Nat} (h : mE c (.var i) x = true) : ∃ y p, x = .Name y p ∧ visN c i y = true := by
  cases x <;> first
    | (unfold mE at h; cases h; done)
    | (unfold mE at h; exact ⟨_, _, rfl, h⟩)
theorem mE_mv {i : Nat} (h : mE c (.mv i) x = true) : ∃ y p, x = .Name y p ∧ visN c i y = true := by
  cases x <;> first
    | (unfold mE at h; cases h; done)
    | (unfold mE at h; exact ⟨_, _, rfl, h⟩)
theorem mE_lit {v : V} (h : mE c (.lit v) x = true) : ∃ k n p, x = .Constant k n p ∧ mC v k = true := by
  cases x <;> first
    | (unfold mE at h; cases h; done)
    | (unfold mE at h; exact ⟨_, _, _, rfl, h⟩)
theorem mE_glb {y : Str} {v : V} (h : mE c (.glb y v) x = true) : ∃ p, x = .Name y p ∧ gl c y = true ∧ (y, v) ∈ c.gs ∧ okV v = true := by
  cases x <;> first
    | (unfold mE at h; cases h; done)
    | skip
  unfold mE at h
  simp only [Bool.and_eq_true, decide_eq_true_eq] at h
  obtain ⟨⟨⟨rfl, h2⟩, h3⟩, h4⟩ := h
  exact ⟨_, rfl, h2, h3, h4⟩
theorem mE_nil (h : mE c .nil x = true) : False := by
  cases x <;> (unfold mE at h; cases h)
theorem mE_cons {e es : T} (h : mE c (.cons e es) x = true) : False := by
  cases x <;> (unfold mE at h; cases h)
theorem mE_sval {e : T} (h : mE c (.sval e) x = true) : False := by
  cases x <;> (unfold mE at h; cases h)
theorem mE_srng {e : T} (h : mE c (.srng e) x = true) : False := by
  cases x <;> (unfold mE at h; cases h)
theorem mE_senum {e : T} (h : mE c (.senum e) x = true) : False := by
  cases x <;> (unfold mE at h; cases h)
theorem mE_szip {e : T} (h : mE c (.szip e) x = true) : False := by
  cases x <;> (unfold mE at h; cases h)
theorem mE_prim {p : P} {es : T} (h : mE c (.prim p es) x = true) : ∃ xs, mP c p x = some xs ∧ plain x = true ∧ mA c es xs = true := by
  have h' : (match mP c p x with
    | some xs => plain x && mA c es xs
    | none => false) = true := by
    unfold mE at h
    exact h
  cases e : mP c p x with
  | none => rw [e] at h'; cases h'
  | some xs =>
    rw [e] at h'
    simp only [Bool.and_eq_true] at h'
    exact ⟨xs, rfl, h'.1, h'.2⟩
theorem mE_mth {m : Mt} {e es : T} (h : mE c (.mth m e es) x = true) : ∃ o ap args cp, x = .Call (.Attribute o m.name ap) args [] cp ∧ (ap.endLine == cp.line) = true ∧ args.length < 20 ∧ plain o = true ∧ mE c e o = true ∧ mA c es args = true ∧ args ≠ [] ∧ ∀ i, e ≠ .mv i := by
  cases x <;> first
    | (unfold mE at h; cases h; done)
    | skip
  rename_i f args kws cp
  cases f <;> first
    | (unfold mE at h; cases h; done)
    | skip
  rename_i o y ap
  cases kws with
  | cons _ _ => unfold mE at h; cases h
  | nil =>
    unfold mE at h
    simp only [Bool.and_eq_true, decide_eq_true_eq] at h
    obtain ⟨⟨⟨⟨⟨⟨⟨h1, h2⟩, h3⟩, h4⟩, h5⟩, h6⟩, h7⟩, h8⟩ := h
    subst h1
    exact ⟨o, ap, args, cp, rfl, h2, h3, h4, h5, h6, fun z => (by subst z; cases h7), fun i z => (by subst z; cases h8)⟩
theorem mE_call {f : Str} {es : T} (h : mE c (.call f es) x = true) : ∃ p args cp, x = .Call (.Name f p) args [] cp ∧ gl c f = true ∧ mA c es args = true := by
  cases x <;> first
    | (unfold mE at h; cases h; done)
    | skip
  rename_i g args kws cp
  cases g <;> first
    | (unfold mE at h; cases h; done)
    | skip
  rename_i y p
  cases kws with
  | cons _ _ => unfold mE at h; cases h
  | nil =>
    unfold mE at h
    simp only [Bool.and_eq_true, decide_eq_true_eq] at h
    obtain ⟨⟨⟨h1, h2⟩, _⟩, h3⟩ := h
    subst h1
    exact ⟨p, args, cp, rfl, h2, h3⟩
theorem mE_lst {es : T} (h : mE c (.lst es) x = true) : ∃ xs p, x = .List xs p ∧ xs.length ≤ 1000 ∧ mA c es xs = true := by
  cases x <;> first
    | (unfold mE at h; cases h; done)
    | skip
  unfold mE at h
  simp only [Bool.and_eq_true, decide_eq_true_eq] at h
  exact ⟨_, _, rfl, h.1, h.2⟩
theorem mE_tup {es : T} (h : mE c (.tup es) x = true) : ∃ xs n p, x = .Tuple xs n p ∧ xs.length ≤ 1000 ∧ mA c es xs = true := by
  cases x <;> first
    | (unfold mE at h; cases h; done)
    | skip
  unfold mE at h
  simp only [Bool.and_eq_true, decide_eq_true_eq] at h
  exact ⟨_, _, _, rfl, h.1, h.2⟩
theorem mE_dic {es : T} (h : mE c (.dic es) x = true) : ∃ keys vals p xs, x = .Dict keys vals p ∧ inter keys vals = some xs ∧ keys.length ≤ 15 ∧ mA c es xs = true := by
  cases x <;> first
    | (unfold mE at h; cases h; done)
    | skip
  rename_i keys vals p
  have h' : (match inter keys vals with
      | some xs => decide (keys.length ≤ 15) && mA c es xs
      | none => false) = true := by
    unfold mE at h
    exact h
  cases e : inter keys vals with
  | none => rw [e] at h'; cases h'
  | some xs =>
    rw [e] at h'
    simp only [Bool.and_eq_true, decide_eq_true_eq] at h'
    exact ⟨_, _, _, xs, rfl, e, h'.1, h'.2⟩
theorem mE_one {a : T} (h : mE c (.one a) x = true) : ∃ op y p, x = .BoolOp op [y] p ∧ mE c a y = true := by
  cases x <;> first
    | (unfold mE at h; cases h; done)
    | skip
  rename_i op vs p
  cases vs with
  | nil => unfold mE at h; cases h
  | cons y r =>
    cases r with
    | cons _ _ => unfold mE at h; cases h
    | nil => unfold mE at h; exact ⟨op, y, p, rfl, h⟩
theorem mE_and {a b : T} (h : mE c (.and a b) x = true) : ∃ y z r p, x = .BoolOp .And (y :: z :: r) p ∧ mE c a y = true ∧ mE c b (.BoolOp .And (z :: r) p) = true := by
  cases x <;> first
    | (unfold mE at h; cases h; done)
    | skip
  rename_i op vs p
  cases op with
  | Or => unfold mE at h; cases h
  | And =>
    cases vs with
    | nil => unfold mE at h; cases h
    | cons y r =>
      cases r with
      | nil => unfold mE at h; cases h
      | cons z r =>
        unfold mE at h
        simp only [Bool.and_eq_true] at h
        exact ⟨y, z, r, p, rfl, h.1, h.2⟩
theorem mE_or {a b : T} (h : mE c (.or a b) x = true) : ∃ y z r p, x = .BoolOp .Or (y :: z :: r) p ∧ mE c a y = true ∧ mE c b (.BoolOp .Or (z :: r) p) = true := by
  cases x <;> first
    | (unfold mE at h; cases h; done)
    | skip
  rename_i op vs p
  cases op with
  | And => unfold mE at h; cases h
  | Or =>
    cases vs with
    | nil => unfold mE at h; cases h
    | cons y r =>
      cases r with
      | nil => unfold mE at h; cases h
      | cons z r =>
        unfold mE at h
        simp only [Bool.and_eq_true] at h
        exact ⟨y, z, r, p, rfl, h.1, h.2⟩
theorem mE_not {a : T} (h : mE c (.not a) x = true) : ∃ y p, x = .UnaryOp .Not y p ∧ mE c a y = true := by
  cases x <;> first
    | (unfold mE at h; cases h; done)
    | skip
  rename_i op y p
  cases op <;> first
    | (unfold mE at h; cases h; done)
    | (unfold mE at h; exact ⟨y, p, rfl, h⟩)
theorem mE_ite {t a b : T} (h : mE c (.ite t a b) x = true) : ∃ u y z p, x = .IfExp u y z p ∧ mE c t u = true ∧ mE c a y = true ∧ mE c b z = true := by
  cases x <;> first
    | (unfold mE at h; cases h; done)
    | skip
  unfold mE at h
  simp only [Bool.and_eq_true] at h
  exact ⟨_, _, _, _, rfl, h.1.1, h.1.2, h.2⟩
theorem mE_chain {p q : CmpOp} {a b d : T} (h : mE c (.chain p q a b d) x = true) : ∃ u y z pos, x = .Compare u [p, q] [y, z] pos ∧ mE c a u = true ∧ mE c b y = true ∧ mE c d z = true ∧ plain z = true := by
  cases x <;> first
    | (unfold mE at h; cases h; done)
    | skip
  rename_i u ops cs pos
  match ops, cs, h with
  | [o, o'], [y, z], h =>
    unfold mE at h
    simp only [Bool.and_eq_true, decide_eq_true_eq] at h
    obtain ⟨⟨⟨⟨⟨h1, h2⟩, h3⟩, h4⟩, h5⟩, h6⟩ := h
    subst h1 h2
    exact ⟨u, y, z, pos, rfl, h3, h4, h5, h6⟩
  | [], _, h => unfold mE at h; cases h
  | [_], _, h => unfold mE at h; cases h
  | _ :: _ :: _ :: _, _, h => unfold mE at h; cases h
  | [_, _], [], h => unfold mE at h; cases h
  | [_, _], [_], h => unfold mE at h; cases h
  | [_, _], _ :: _ :: _ :: _, h => unfold mE at h; cases h
theorem mE_comp {own : List (Str × Nat)} {elt src cond : T} {tg : Tg} (h : mE c (.comp own elt tg src cond) x = true) : ∃ e tx it ifs scope p, x = .ListComp e [⟨tx, it, ifs, 0⟩] scope p ∧ mI c src tx it = true ∧ blkC c.N c.sc scope own = true ∧ mTg (blkMC c scope) tg tx = true ∧
    (∀ i, i ∈ tgSlots tg → i ∈ own.map (·.2)) ∧ mE (blkMC c scope) elt e = true ∧ ((cond = .nil ∧ ifs = []) ∨ (cond ≠ .nil ∧ ∃ y, ifs = [y] ∧ mE (blkMC c scope) cond y = true)) := by
  cases x <;> first
    | (unfold mE at h; cases h; done)
    | skip
  rename_i e gens scope p
  match gens, h with
  | [⟨tx, it, ifs, n⟩], h =>
    have h' : (decide (n = 0) && mI c src tx it && blkC c.N c.sc scope own && mTg (blkMC c scope) tg tx && (tgSlots tg).all (fun i => decide (i ∈ own.map (·.2))) &&
        mE (blkMC c scope) elt e && condC cond (mE (blkMC c scope) cond) ifs) = true := by
      unfold mE at h
      exact h
    simp only [Bool.and_eq_true] at h'
    obtain ⟨⟨⟨⟨⟨⟨h0, h1⟩, h2⟩, h3⟩, h4⟩, h5⟩, h6⟩ := h'
    have h0' := of_decide_eq_true h0
    subst h0'
    refine ⟨e, tx, it, ifs, scope, p, rfl, h1, h2, h3, fun i hi => of_decide_eq_true (List.all_eq_true.mp h4 i hi), h5, ?_⟩
    by_cases hc : cond = .nil
    · subst hc
      cases ifs with
      | nil => exact .inl ⟨rfl, rfl⟩
      | cons y r => cases h6
    · refine .inr ⟨hc, ?_⟩
      match ifs, h6 with
      | [], h6 => cases cond <;> first | (cases h6; done) | exact absurd rfl hc
      | [y], h6 => exact ⟨y, rfl, by cases cond <;> first | exact h6 | exact absurd rfl hc⟩
      | _ :: _ :: _, h6 => cases cond <;> first | (cases h6; done) | exact absurd rfl hc
  | [], h => unfold mE at h; exact (Bool.false_ne_true h).elim
  | ⟨_, _, _, _⟩ :: _ :: _, h => unfold mE at h; exact (Bool.false_ne_true h).elim
theorem mA_nil (h : mA c .nil xs = true) : xs = [] := by
  cases xs with
  | nil => rfl
  | cons _ _ => unfold mA at h; cases h
theorem mA_cons {e es : T} (h : mA c (.cons e es) xs = true) : ∃ y r, xs = y :: r ∧ plain y = true ∧ mE c e y = true ∧ mA c es r = true := by
  cases xs with
  | nil => unfold mA at h; cases h
  | cons y r =>
    unfold mA at h
    simp only [Bool.and_eq_true] at h
    exact ⟨y, r, rfl, h.1.1, h.1.2, h.2⟩
end
end FH
set_option Elab.async false
set_option linter.all false
set_option maxRecDepth 100000
set_option maxHeartbeats 2000000
namespace FH
open PySem PySem.Spec PyProof.Rows L2
section
variable {c : MC} {x t : Expr}
theorem mI_sval {e : T} (h : mI c (.sval e) t x = true) : plain x = true ∧ mE c e x = true := by
  unfold mI at h
  simp only [Bool.and_eq_true] at h
  exact h
theorem mI_srng {es : T} (h : mI c (.srng es) t x = true) : ∃ p args pos, x = .Call (.Name "range" p) args [] pos ∧ gl c "range" = true ∧ mA c es args = true ∧ (args.length = 1 ∨ args.length = 2) := by
  cases x <;> first
    | (unfold mI at h; cases h; done)
    | skip
  rename_i g args kws cp
  cases g <;> first
    | (unfold mI at h; cases h; done)
    | skip
  rename_i y p
  cases kws with
  | cons _ _ => unfold mI at h; cases h
  | nil =>
    unfold mI at h
    simp only [Bool.and_eq_true, Bool.or_eq_true, decide_eq_true_eq] at h
    obtain ⟨⟨⟨rfl, h2⟩, h3⟩, h4⟩ := h
    exact ⟨p, args, cp, rfl, h2, h3, h4⟩
theorem mI_senum {e : T} (h : mI c (.senum e) t x = true) : ∃ p a pos, x = .Call (.Name "enumerate" p) [a] [] pos ∧ gl c "enumerate" = true ∧ mE c e a = true ∧ plain a = true ∧ isTup t = true := by
  cases x <;> first
    | (unfold mI at h; cases h; done)
    | skip
  rename_i g args kws cp
  cases g <;> first
    | (unfold mI at h; cases h; done)
    | skip
  rename_i y p
  cases kws with
  | cons _ _ =>
    unfold mI at h
    cases args with
    | nil => cases h
    | cons a r => cases r <;> cases h
  | nil =>
    match args, h with
    | [a], h =>
      unfold mI at h
      simp only [Bool.and_eq_true, decide_eq_true_eq] at h
      obtain ⟨⟨⟨⟨rfl, h2⟩, h3⟩, h4⟩, h5⟩ := h
      exact ⟨p, a, cp, rfl, h2, h3, h4, h5⟩
    | [], h => unfold mI at h; cases h
    | _ :: _ :: _, h => unfold mI at h; cases h
theorem mI_szip {es : T} (h : mI c (.szip es) t x = true) : ∃ p args pos, x = .Call (.Name "zip" p) args [] pos ∧ gl c "zip" = true ∧ mA c es args = true ∧ args.length = 2 ∧ isTup t = true := by
  cases x <;> first
    | (unfold mI at h; cases h; done)
    | skip
  rename_i g args kws cp
  cases g <;> first
    | (unfold mI at h; cases h; done)
    | skip
  rename_i y p
  cases kws with
  | cons _ _ => unfold mI at h; cases h
  | nil =>
    unfold mI at h
    simp only [Bool.and_eq_true, decide_eq_true_eq] at h
    obtain ⟨⟨⟨⟨rfl, h2⟩, h3⟩, h4⟩, h5⟩ := h
    exact ⟨p, args, cp, rfl, h2, h3, h4, h5⟩
/-- a source is not a display of a set -/
theorem mI_fold {e : T} (h : mI c e t x = true) (env : Env) : ∀ v, foldedSetIterable x env v = pure v := by
  intro v
  cases e <;> first
    | (unfold mI at h; cases h; done)
    | skip
  · have hp := (mI_sval h).1
    cases x <;> first
      | rfl
      | (unfold plain at hp; cases hp; done)
  · obtain ⟨_, _, _, rfl, _⟩ := mI_srng h; rfl
  · obtain ⟨_, _, _, rfl, _⟩ := mI_senum h; rfl
  · obtain ⟨_, _, _, rfl, _⟩ := mI_szip h; rfl
/-- operations but comparisons are plain tests -/
theorem mP_true {p : P} {xs : List Expr} (h : mP c p x = some xs) (n : ∀ op, p ≠ .cmp op) (env : Env) : ∀ whole, PySem.isTrue x env whole = (do let v ← whole; standAt x.pos; holding [v] (truthy v)) := by
  intro whole
  unfold mP at h
  split at h <;> first
    | rfl
    | exact absurd rfl (n _)
    | (cases h; done)
theorem mP_cmp {op : CmpOp} {xs : List Expr} (h : mP c (.cmp op) x = some xs) : ∃ a b pos, x = .Compare a [op] [b] pos ∧ xs = [a, b] := by
  unfold mP at h
  split at h <;> first
    | contradiction
    | (cases h; done)
    | skip
  rename_i h0
  split at h
  · rename_i h1
    injection h0 with h2
    subst h2
    subst h1
    cases h
    exact ⟨_, _, _, rfl, rfl⟩
  · cases h
end
section
variable {X : Cx} {ca : Cs} {Φ : FT} {gs : List (Str × V)} {W : WX}
theorem Good.blk (G : Good X ca Φ gs W) (s : Shared) (H : Hp) (scope : Scope) (C : Addr) (cl : List (Str × Addr)) (fp : List Addr) : Good (X.blk s H scope (compEnvC scope cl C X.env) fp) ca Φ gs W0 where
  calm := G.calm
  nd := G.nd
  room := G.room
  tk := takes0
  un := G.un
  gv := G.gv
  fn := G.fn
theorem cOf_blk (s : Shared) (H : Hp) (scope : Scope) (C : Addr) (cl : List (Str × Addr)) (fp : List Addr) : cOf (X.blk s H scope (compEnvC scope cl C X.env) fp) gs = blkMC (cOf X gs) scope := rfl
theorem pgs_names (hN : X.N.Nodup) : ∀ {is : List Nat} {es : List Expr}, mNames (cOf X gs) is es = true → PGs X es (gNs is) ∧ (assignEach es X.env).length = is.length ∧ (assignEach es X.env).findIdx? (·.1) = none
  | [], [], _ => ⟨pgs_nil, rfl, rfl⟩
  | i :: is, e :: es, h => by
    cases e <;> first
      | (unfold mNames at h; cases h; done)
      | skip
    rename_i y p
    unfold mNames at h
    simp only [Bool.and_eq_true] at h
    obtain ⟨n1, n2, n3⟩ := locN_ok h.1
    obtain ⟨g1, g2, g3⟩ := pgs_names hN h.2
    refine ⟨pgs_cons (pg_name hN n1 n2 n3) g1, ?_, ?_⟩
    · show (assignEach es X.env).length + 1 = _
      rw [g2, List.length_cons]
    · show List.findIdx? _ ((false, _) :: assignEach es X.env) = none
      rw [List.findIdx?_cons, g3] <;> rfl
  | [], e :: es, h => by cases e <;> (unfold mNames at h; cases h)
  | i :: is, [], h => by unfold mNames at h; cases h
theorem pg_tg (G : Good X ca Φ gs W) {tg : Tg} {tx : Expr} (h : mTg (cOf X gs) tg tx = true) : PG X tx (gTg X.K tg) := by
  cases tg with
  | nm i =>
    cases tx <;> first
      | (unfold mTg at h; cases h; done)
      | skip
    unfold mTg at h
    obtain ⟨n1, n2, n3⟩ := locN_ok h
    exact pg_name G.nd n1 n2 n3
  | tp is =>
    cases tx <;> first
      | (unfold mTg at h; cases h; done)
      | skip
    unfold mTg at h
    obtain ⟨g1, g2, g3⟩ := pgs_names G.nd h
    exact pg_tup G.calm g1 g2 g3
theorem peLen {x : Expr} {t t' : TE} (h : PE X x t) (i : ∀ σ H Q, σ.length = X.N.length → t' σ H Q → t σ H Q) : PE X x t' := ⟨fun pins s σ H Q I q => h.run pins s σ H Q I (i σ H Q I.len q)⟩
theorem own_lt {N : List Str} {sc scope : Scope} {own : List (Str × Nat)} (h : blkC N sc scope own = true) : ∀ i, i ∈ own.map (·.2) → i < N.length := by
  intro i hi
  unfold blkC at h
  simp only [Bool.and_eq_true, List.all_eq_true, decide_eq_true_eq] at h
  obtain ⟨p, hp, rfl⟩ := List.mem_map.mp hi
  exact (List.getElem?_eq_some_iff.mp (h.1.2 p hp)).1
theorem snd_comp (G : Good X ca Φ gs W) {own : List (Str × Nat)} {elt src cond : T} {tg : Tg} {e tx it : Expr} {ifs : List Expr} {scope : Scope} {p : Pos} (hi : PI X tx it (tI ca Φ W src)) (ok : blkC X.N X.env.scope scope own = true)
    (hg : ∀ (s : Shared) (H : Hp) (C : Addr) (cl : List (Str × Addr)) (fp : List Addr), PG (X.blk s H scope (compEnvC scope cl C X.env) fp) tx (gTg X.K tg)) (ht : ∀ (s : Shared) (H : Hp) (C : Addr) (cl : List (Str × Addr)) (fp : List Addr), PTs (X.blk s H scope (compEnvC scope cl C X.env) fp) ifs (ttOf ca Φ cond))
    (he : ∀ (s : Shared) (H : Hp) (C : Addr) (cl : List (Str × Addr)) (fp : List Addr), PE (X.blk s H scope (compEnvC scope cl C X.env) fp) e (tE ca Φ W0 elt)) (hs : ∀ v, foldedSetIterable it X.env v = pure v) (htg : ∀ i, i ∈ tgSlots tg → i ∈ own.map (·.2)) :
    PE X (.ListComp e [⟨tx, it, ifs, 0⟩] scope p) (tE ca Φ W (.comp own elt tg src cond)) :=
  peLen (pe_lc G.calm G.nd hi (blkOk_by ok) hg ht he hs) fun σ H Q hl q => comp_read (fun i hi => by rw [hl]; exact own_lt ok i hi) htg q
end
/-! ### all terms -/
def SE (ca : Cs) (Φ : FT) (e : T) : Prop := ∀ (X : Cx) (gs : List (Str × V)) (W : WX), ca.K = X.K → Good X ca Φ gs W → ∀ x, mE (cOf X gs) e x = true → PE X x (tE ca Φ W e) ∧ PT X x (tT ca Φ W e) ∧ ∀ op xs p, x = .BoolOp op xs p → PW X x (tT ca Φ W e)
def SA (ca : Cs) (Φ : FT) (e : T) : Prop := ∀ (X : Cx) (gs : List (Str × V)) (W : WX), ca.K = X.K → Good X ca Φ gs W → ∀ xs, mA (cOf X gs) e xs = true → ArgOk X ca Φ W e xs
def SI (ca : Cs) (Φ : FT) (e : T) : Prop := ∀ (X : Cx) (gs : List (Str × V)) (W : WX), ca.K = X.K → Good X ca Φ gs W → ∀ t x, mI (cOf X gs) e t x = true → PI X t x (tI ca Φ W e)
theorem no_si {ca : Cs} {Φ : FT} {e : T} (h : ∀ c t x, mI c e t x = true → False) : SI ca Φ e := fun X gs W hK G t x m => (h _ _ _ m).elim
theorem no_sa {ca : Cs} {Φ : FT} {e : T} (h : ∀ c xs, mA c e xs = true → False) : SA ca Φ e := fun X gs W hK G xs m => (h _ _ m).elim
theorem no_se {ca : Cs} {Φ : FT} {e : T} (h : ∀ c x, mE c e x = true → False) : SE ca Φ e := fun X gs W hK G x m => (h _ _ m).elim
theorem se_plain {X : Cx} {ca : Cs} {Φ : FT} {W : WX} {e : T} {x : Expr} (h : PE X x (tE ca Φ W e)) (he : ∀ whole, PySem.isTrue x X.env whole = (do let v ← whole; standAt x.pos; holding [v] (truthy v))) (nb : ∀ op xs p, x ≠ .BoolOp op xs p) :
    PE X x (tE ca Φ W e) ∧ PT X x (tT ca Φ W e) ∧ ∀ op xs p, x = .BoolOp op xs p → PW X x (tT ca Φ W e) := ⟨h, pt_of h he, fun op xs p z => absurd z (nb op xs p)⟩
theorem snd_all (ca : Cs) (Φ : FT) (e : T) : SE ca Φ e ∧ SA ca Φ e ∧ SI ca Φ e := by
  induction e with
  | var i =>
    refine ⟨fun X gs W hK G x m => ?_, no_sa fun c xs m => by cases xs <;> (unfold mA at m; cases m), no_si fun c t x m => by unfold mI at m; cases m⟩
    obtain ⟨y, p, rfl, h⟩ := mE_var m
    exact se_plain (snd_var G h) (fun _ => rfl) fun _ _ _ z => nomatch z
  | mv i =>
    refine ⟨fun X gs W hK G x m => ?_, no_sa fun c xs m => by cases xs <;> (unfold mA at m; cases m), no_si fun c t x m => by unfold mI at m; cases m⟩
    obtain ⟨y, p, rfl, h⟩ := mE_mv m
    have h1 : PE X (.Name y p) (tE ca Φ W (.mv i)) := peImp (snd_mv G h) fun σ H Q q => by
      obtain ⟨F, O, env, k, ae, bl, p⟩ := q
      exact ⟨F, O, env, k, ae, bl, p.imp fun a F1 O1 H1 _ h v h1 h2 h3 _ => h v h1 h2 h3⟩
    exact se_plain h1 (fun _ => rfl) fun _ _ _ z => nomatch z
  | lit v =>
    refine ⟨fun X gs W hK G x m => ?_, no_sa fun c xs m => by cases xs <;> (unfold mA at m; cases m), no_si fun c t x m => by unfold mI at m; cases m⟩
    obtain ⟨k, n, p, rfl, h⟩ := mE_lit m
    exact se_plain (snd_lit h) (fun _ => rfl) fun _ _ _ z => nomatch z
  | glb y v =>
    refine ⟨fun X gs W hK G x m => ?_, no_sa fun c xs m => by cases xs <;> (unfold mA at m; cases m), no_si fun c t x m => by unfold mI at m; cases m⟩
    obtain ⟨p, rfl, h1, h2, h3⟩ := mE_glb m
    exact se_plain (snd_glb G h1 h2 h3) (fun _ => rfl) fun _ _ _ z => nomatch z
  | nil =>
    refine ⟨no_se fun c x m => mE_nil m, fun X gs W hK G xs m => ?_, no_si fun c t x m => by unfold mI at m; cases m⟩
    have := mA_nil m
    subst this
    exact args_nil
  | cons e es ih1 ih2 =>
    refine ⟨no_se fun c x m => mE_cons m, fun X gs W hK G xs m => ?_, no_si fun c t x m => by unfold mI at m; cases m⟩
    obtain ⟨y, r, rfl, h1, h2, h3⟩ := mA_cons m
    exact args_cons G (ih1.1 X gs W hK G y h2).1 (ih2.2.1 X gs W hK G r h3) h2
  | prim p es ih =>
    refine ⟨fun X gs W hK G x m => ?_, no_sa fun c xs m => by cases xs <;> (unfold mA at m; cases m), no_si fun c t x m => by unfold mI at m; cases m⟩
    obtain ⟨xs, h1, h2, h3⟩ := mE_prim m
    have ar := ih.2.1 X gs W hK G xs h3
    have hp := plains_of h3
    have h4 : PE X x (tE ca Φ W (.prim p es)) := snd_prim ar fun ts pe => prim_all hK G h1 hp pe
    have nb : ∀ op xs p, x ≠ .BoolOp op xs p := fun op xs' p' z => by
      subst z
      unfold mP at h1
      split at h1 <;> contradiction
    by_cases hc : ∃ op, p = .cmp op
    · obtain ⟨op, rfl⟩ := hc
      obtain ⟨a, b, pos, rfl, rfl⟩ := mP_cmp h1
      exact ⟨h4, snd_primT ar fun ts pe => prim_cmpT G.room.room.units (plains_1 (plains_1 hp).2).1 pe, fun op xs p z => absurd z (nb op xs p)⟩
    · exact se_plain h4 (mP_true h1 (fun op z => hc ⟨op, z⟩) X.env) nb
  | mth mt e es ih1 ih2 =>
    refine ⟨fun X gs W hK G x m => ?_, no_sa fun c xs m => by cases xs <;> (unfold mA at m; cases m), no_si fun c t x m => by unfold mI at m; cases m⟩
    obtain ⟨o, ap, args, cp, rfl, h1, h2, h3, h4, h5, h6, h7⟩ := mE_mth m
    exact se_plain (snd_mth (ih1.1 X gs W hK G o h4).1 h7 (ih2.2.1 X gs W hK G args h5) (plains_of h5) h3 h2 h6 h1) (fun _ => rfl) fun _ _ _ z => nomatch z
  | call f es ih =>
    refine ⟨fun X gs W hK G x m => ?_, no_sa fun c xs m => by cases xs <;> (unfold mA at m; cases m), no_si fun c t x m => by unfold mI at m; cases m⟩
    obtain ⟨p, args, cp, rfl, h1, h2⟩ := mE_call m
    exact se_plain (snd_call G (ih.2.1 X gs W hK G args h2) (plains_of h2) h1) (fun _ => rfl) fun _ _ _ z => nomatch z
  | lst es ih =>
    refine ⟨fun X gs W hK G x m => ?_, no_sa fun c xs m => by cases xs <;> (unfold mA at m; cases m), no_si fun c t x m => by unfold mI at m; cases m⟩
    obtain ⟨xs, p, rfl, h1, h2⟩ := mE_lst m
    exact se_plain (snd_lst (ih.2.1 X gs W hK G xs h2) (plains_of h2) h1) (fun _ => rfl) fun _ _ _ z => nomatch z
  | tup es ih =>
    refine ⟨fun X gs W hK G x m => ?_, no_sa fun c xs m => by cases xs <;> (unfold mA at m; cases m), no_si fun c t x m => by unfold mI at m; cases m⟩
    obtain ⟨xs, n, p, rfl, h1, h2⟩ := mE_tup m
    exact se_plain (snd_tup (ih.2.1 X gs W hK G xs h2) (plains_of h2) h1) (fun _ => rfl) fun _ _ _ z => nomatch z
  | dic es ih =>
    refine ⟨fun X gs W hK G x m => ?_, no_sa fun c xs m => by cases xs <;> (unfold mA at m; cases m), no_si fun c t x m => by unfold mI at m; cases m⟩
    obtain ⟨keys, vals, p, xs, rfl, h1, h2, h3⟩ := mE_dic m
    exact se_plain (snd_dic h1 (ih.2.1 X gs W hK G xs h3) (plains_of h3) h2) (fun _ => rfl) fun _ _ _ z => nomatch z
  | and a b ih1 ih2 =>
    refine ⟨fun X gs W hK G x m => ?_, no_sa fun c xs m => by cases xs <;> (unfold mA at m; cases m), no_si fun c t x m => by unfold mI at m; cases m⟩
    obtain ⟨y, z, r, p, rfl, h1, h2⟩ := mE_and m
    obtain ⟨a1, a2, _⟩ := ih1.1 X gs W hK G _ h1
    obtain ⟨b1, _, b3⟩ := ih2.1 X gs W hK G _ h2
    have w := pw_and' a2 (b3 _ _ _ rfl)
    exact ⟨snd_and a1 b1, w.pt, fun _ _ _ _ => w⟩
  | or a b ih1 ih2 =>
    refine ⟨fun X gs W hK G x m => ?_, no_sa fun c xs m => by cases xs <;> (unfold mA at m; cases m), no_si fun c t x m => by unfold mI at m; cases m⟩
    obtain ⟨y, z, r, p, rfl, h1, h2⟩ := mE_or m
    obtain ⟨a1, a2, _⟩ := ih1.1 X gs W hK G _ h1
    obtain ⟨b1, _, b3⟩ := ih2.1 X gs W hK G _ h2
    have w := pw_or' a2 (b3 _ _ _ rfl)
    exact ⟨snd_or a1 b1, w.pt, fun _ _ _ _ => w⟩
  | one a ih =>
    refine ⟨fun X gs W hK G x m => ?_, no_sa fun c xs m => by cases xs <;> (unfold mA at m; cases m), no_si fun c t x m => by unfold mI at m; cases m⟩
    obtain ⟨op, y, p, rfl, h1⟩ := mE_one m
    obtain ⟨a1, a2, _⟩ := ih.1 X gs W hK G _ h1
    have w := pw_one (op := op) (pos := p) a2
    exact ⟨snd_one a1, w.pt, fun _ _ _ _ => w⟩
  | not a ih =>
    refine ⟨fun X gs W hK G x m => ?_, no_sa fun c xs m => by cases xs <;> (unfold mA at m; cases m), no_si fun c t x m => by unfold mI at m; cases m⟩
    obtain ⟨y, p, rfl, h1⟩ := mE_not m
    obtain ⟨a1, a2, _⟩ := ih.1 X gs W hK G _ h1
    exact ⟨snd_not a1, snd_notT a2, fun _ _ _ z => nomatch z⟩
  | ite t a b ih1 ih2 ih3 =>
    refine ⟨fun X gs W hK G x m => ?_, no_sa fun c xs m => by cases xs <;> (unfold mA at m; cases m), no_si fun c t x m => by unfold mI at m; cases m⟩
    obtain ⟨u, y, z, p, rfl, h1, h2, h3⟩ := mE_ite m
    obtain ⟨_, a2, _⟩ := ih1.1 X gs W hK G _ h1
    obtain ⟨b1, b2, _⟩ := ih2.1 X gs W hK G _ h2
    obtain ⟨c1, c2, _⟩ := ih3.1 X gs W hK G _ h3
    exact ⟨snd_ite a2 b1 c1, snd_iteTT a2 b2 c2, fun _ _ _ z => nomatch z⟩
  | chain p q a b c ih1 ih2 ih3 =>
    refine ⟨fun X gs W hK G x m => ?_, no_sa fun c xs m => by cases xs <;> (unfold mA at m; cases m), no_si fun c t x m => by unfold mI at m; cases m⟩
    obtain ⟨u, y, z, pos, rfl, h1, h2, h3, h4⟩ := mE_chain m
    have a1 := (ih1.1 X gs W hK G _ h1).1
    have b1 := (ih2.1 X gs W hK G _ h2).1
    have c1 := (ih3.1 X gs W hK G _ h3).1
    exact ⟨snd_chain G.room.room.units a1 b1 c1 h4, snd_chainT G.room.room.units a1 b1 c1 h4, fun _ _ _ z => nomatch z⟩
  | comp own elt tg src cond ih1 ih2 ih3 =>
    refine ⟨fun X gs W hK G x m => ?_, no_sa fun c xs m => by cases xs <;> (unfold mA at m; cases m), no_si fun c t x m => by unfold mI at m; cases m⟩
    obtain ⟨e, tx, it, ifs, scope, p, rfl, h1, h2, h3, h4, h5, h6⟩ := mE_comp m
    have go : PE X (.ListComp e [⟨tx, it, ifs, 0⟩] scope p) (tE ca Φ W (.comp own elt tg src cond)) := by
      refine snd_comp G (ih2.2.2 X gs W hK G tx it h1) h2 (fun s H C cl fp => pg_tg (G.blk s H scope C cl fp) h3) (fun s H C cl fp => ?_) (fun s H C cl fp => (ih1.1 (X.blk s H scope (compEnvC scope cl C X.env) fp) gs W0 hK (G.blk s H scope C cl fp) e h5).1) (mI_fold h1 X.env) h4
      rcases h6 with ⟨rfl, rfl⟩ | ⟨hc, y, rfl, h6⟩
      · exact pts_nil
      · have e2 : ttOf ca Φ cond = tT ca Φ W0 cond := by
          cases cond <;> first
            | rfl
            | exact absurd rfl hc
        rw [e2]
        exact pts_one (ih3.1 (X.blk s H scope (compEnvC scope cl C X.env) fp) gs W0 hK (G.blk s H scope C cl fp) y h6).2.1
    exact se_plain go (fun _ => rfl) fun _ _ _ z => nomatch z
  | sval e ih =>
    refine ⟨no_se fun c x m => mE_sval m, no_sa fun c xs m => by cases xs <;> (unfold mA at m; cases m), fun X gs W hK G t x m => ?_⟩
    exact snd_sval (ih.1 X gs W hK G x (mI_sval m).2).1
  | srng es ih =>
    refine ⟨no_se fun c x m => mE_srng m, no_sa fun c xs m => by cases xs <;> (unfold mA at m; cases m), fun X gs W hK G t x m => ?_⟩
    obtain ⟨p, args, pos, rfl, h1, h2, h3⟩ := mI_srng m
    have ar := ih.2.1 X gs W hK G args h2
    have hp := plains_of h2
    rcases h3 with h3 | h3
    · match args, h3 with
      | [a], _ => exact snd_rng1 G ar (plains_1 hp).1 h1
    · match args, h3 with
      | [a, b], _ => exact snd_rng2 G ar (plains_1 hp).1 (plains_1 (plains_1 hp).2).1 h1
  | senum e ih =>
    refine ⟨no_se fun c x m => mE_senum m, no_sa fun c xs m => by cases xs <;> (unfold mA at m; cases m), fun X gs W hK G t x m => ?_⟩
    obtain ⟨p, a, pos, rfl, h1, h2, h3, h4⟩ := mI_senum m
    cases t <;> first
      | (unfold isTup at h4; cases h4; done)
      | skip
    exact snd_enum G (ih.1 X gs W hK G a h2).1 h3 h1
  | szip es ih =>
    refine ⟨no_se fun c x m => mE_szip m, no_sa fun c xs m => by cases xs <;> (unfold mA at m; cases m), fun X gs W hK G t x m => ?_⟩
    obtain ⟨p, args, pos, rfl, h1, h2, h3, h4⟩ := mI_szip m
    cases t <;> first
      | (unfold isTup at h4; cases h4; done)
      | skip
    have ar := ih.2.1 X gs W hK G args h2
    have hp := plains_of h2
    match args, h3 with
    | [a, b], _ => exact snd_zip G ar (plains_1 hp).1 (plains_1 (plains_1 hp).2).1 h1
end FH
set_option Elab.async false
set_option linter.all false
set_option maxRecDepth 100000
set_option maxHeartbeats 2000000
namespace FH
open PySem PySem.Spec PyProof.Rows L2
/-- the slots io stand -/
def Fx (io : List Nat) (σ σ' : L2.St) : Prop := σ'.length = σ.length ∧ ∀ i, i ∈ io → σ'[i]? = σ[i]?
theorem Fx.refl (io : List Nat) (σ : L2.St) : Fx io σ σ := ⟨rfl, fun _ _ => rfl⟩
theorem Fx.trans {io : List Nat} {a b c : L2.St} (h : Fx io a b) (k : Fx io b c) : Fx io a c := ⟨k.1.trans h.1, fun i hi => (k.2 i hi).trans (h.2 i hi)⟩
theorem Fx.set {io : List Nat} {σ : L2.St} {i : Nat} {v : Option V} (h : i ∉ io) : Fx io σ (σ.set i v) := ⟨List.length_set .., fun j hj => List.getElem?_set_ne fun z => h (by rw [z]; exact hj)⟩
def PostS (ca : Cs) (W : WX) (io : List Nat) (σ : L2.St) (F : Hp) (O : Own) (H : Hp) {α : Type} (m : M α) (C : α → L2.St → Hp → Own → Hp → Prop) : Prop := match m with
  | .ok a => ∀ σ' F' O' H', Fx io σ σ' → Stp 0 F O H F' O' H' → C a σ' F' O' H'
  | .ex c d => ∀ dx v n σ' F' O' H', Fx io σ σ' → Stp 0 F O H F' O' H' → Bs F' O' H' → H' dx = some (.xd [(n, v)]) → Rep ca F' d v → W (.ref (ca.ad c)) (some dx) σ' H'
  | .no => False
section
variable {ca : Cs} {W : WX} {io : List Nat} {σ : L2.St} {F : Hp} {O : Own} {H : Hp} {α β : Type} {m : M α} {f : α → M β}
theorem PostS.bind {C : β → L2.St → Hp → Own → Hp → Prop} (h : PostS ca W io σ F O H (m.bind f) C) : PostS ca W io σ F O H m fun a σ1 F1 O1 H1 => PostS ca W io σ1 F1 O1 H1 (f a) C := by
  cases m with
  | ok a =>
    intro σ1 F1 O1 H1 fx st
    have h2 : PostS ca W io σ F O H (f a) C := h
    cases e : f a with
    | ok b =>
      rw [e] at h2
      exact fun σ2 F2 O2 H2 fx2 st2 => h2 σ2 F2 O2 H2 (fx.trans fx2) (st.trans st2)
    | ex c d =>
      rw [e] at h2
      exact fun dx v n σ2 F2 O2 H2 fx2 st2 => h2 dx v n σ2 F2 O2 H2 (fx.trans fx2) (st.trans st2)
    | no =>
      rw [e] at h2
      exact h2
  | ex c d => exact h
  | no => exact h
theorem PostS.imp {C C' : α → L2.St → Hp → Own → Hp → Prop} (h : PostS ca W io σ F O H m C) (i : ∀ a σ' F' O' H', Fx io σ σ' → Stp 0 F O H F' O' H' → C a σ' F' O' H' → C' a σ' F' O' H') : PostS ca W io σ F O H m C' := by
  cases m with
  | ok a => exact fun σ1 F1 O1 H1 fx st => i a σ1 F1 O1 H1 fx st (h σ1 F1 O1 H1 fx st)
  | ex c d => exact h
  | no => exact h
theorem PostS.here {C : α → L2.St → Hp → Own → Hp → Prop} {a : α} (h : PostS ca W io σ F O H (.ok a) C) : C a σ F O H := h σ F O H (.refl _ _) (.refl _ _ _ _)
theorem PostS.at {C : α → L2.St → Hp → Own → Hp → Prop} {σ' : L2.St} {F' H' : Hp} {O' : Own} (h : PostS ca W io σ F O H m C) (fx : Fx io σ σ') (st : Stp 0 F O H F' O' H') : PostS ca W io σ' F' O' H' m C :=
  (PostS.bind (m := .ok ()) (f := fun _ => m) h) _ _ _ _ fx st
/-- an expression's outcome, then a statement's -/
theorem PostS.g {C : α → L2.St → Hp → Own → Hp → Prop} (h : PostS ca W io σ F O H m C) : PostG ca W σ 0 F O H m fun a F' O' H' => C a σ F' O' H' := by
  cases m with
  | ok a => exact fun F1 O1 H1 st => h σ F1 O1 H1 (.refl _ _) st
  | ex c d => exact fun dx v n F1 O1 H1 st => h dx v n σ F1 O1 H1 (.refl _ _) st
  | no => exact h
end
def Dn (ca : Cs) (D : Ends) : Out → L2.St → Hp → Own → Hp → Prop := fun o σ F O H => match o with
  | .nx e => AE ca F O e σ H → Below O 0 → D.nx σ H
  | .bk e => AE ca F O e σ H → Below O 0 → D.bk σ H
  | .ct e => AE ca F O e σ H → Below O 0 → D.ct σ H
  | .rt r e => ∀ v, AE ca F O e σ H → RepR ca F H O (.t 0) r v → Below O 1 → D.rt v H
/-- a statement's reading -/
def tS (ca : Cs) (Φ : FT) (W : WX) (io : List Nat) (s : S) : TS := fun D σ H => ∃ F O env, AE ca F O env σ H ∧ Below O 0 ∧ PostS ca W io σ F O H (ex Φ s env) (Dn ca D)
section
variable {X : Cx} {ca : Cs} {Φ : FT} {gs : List (Str × V)} {W : WX} {io : List Nat} {st : Stmt} {sts : List Stmt}
theorem psImp {t t' : TS} (h : PS X st t) (i : ∀ D σ H, σ.length = X.N.length → t' D σ H → t D σ H) : PS X st t' := ⟨fun pins s σ H D I q => h.run pins s σ H D I (i D σ H I.len q)⟩
theorem pssImp {t t' : TS} (h : PSs X sts t) (i : ∀ D σ H, σ.length = X.N.length → t' D σ H → t D σ H) : PSs X sts t' := ⟨fun pins s σ H D I q => h.run pins s σ H D I (i D σ H I.len q)⟩
theorem st_nil : PSs X [] (tS ca Φ W io .nil) := pssImp pss_nil fun D σ H _ q => by
  obtain ⟨F, O, env, ae, bl, p⟩ := q
  exact PostS.here (a := Out.nx env) p ae bl
theorem st_seq {s r : S} (h1 : PS X st (tS ca Φ W io s)) (h2 : PSs X sts (tS ca Φ W io r)) : PSs X (st :: sts) (tS ca Φ W io (.seq s r)) := pssImp (pss_cons h1 h2) fun D σ H _ q => by
  obtain ⟨F, O, env, ae, bl, p⟩ := q
  refine ⟨F, O, env, ae, bl, ?_⟩
  have p' : PostS ca W io σ F O H ((ex Φ s env).bind fun
    | .nx e => ex Φ r e
    | o => .ok o) (Dn ca D) := p
  refine p'.bind.imp fun o σ1 F1 O1 H1 fx st p1 => ?_
  cases o with
  | nx e => exact fun ae1 bl1 => ⟨F1, O1, e, ae1, bl1, p1⟩
  | bk e => exact (show PostS ca W io σ1 F1 O1 H1 (.ok (Out.bk e)) (Dn ca D) from p1).here
  | ct e => exact (show PostS ca W io σ1 F1 O1 H1 (.ok (Out.ct e)) (Dn ca D) from p1).here
  | rt v e => exact (show PostS ca W io σ1 F1 O1 H1 (.ok (Out.rt v e)) (Dn ca D) from p1).here
theorem st_dead : PSs X sts (tS ca Φ W io .dead) := pssImp pss_never fun D σ H _ q => by
  obtain ⟨F, O, env, ae, bl, p⟩ := q
  exact p
theorem st_dead1 : PS X st (tS ca Φ W io .dead) := psImp ps_never fun D σ H _ q => by
  obtain ⟨F, O, env, ae, bl, p⟩ := q
  exact p
theorem st_brk {pos : Pos} : PS X (.Break pos) (tS ca Φ W io .brk) := psImp ps_break fun D σ H _ q => by
  obtain ⟨F, O, env, ae, bl, p⟩ := q
  exact PostS.here (a := Out.bk env) p ae bl
theorem st_cont {pos : Pos} : PS X (.Continue pos) (tS ca Φ W io .cont) := psImp ps_continue fun D σ H _ q => by
  obtain ⟨F, O, env, ae, bl, p⟩ := q
  exact PostS.here (a := Out.ct env) p ae bl
theorem st_ret0 {pos : Pos} : PS X (.Return none pos) (tS ca Φ W io .ret0) := psImp ps_retN fun D σ H _ q => by
  obtain ⟨F, O, env, ae, bl, p⟩ := q
  exact PostS.here (a := Out.rt (.sh .non) env) p .non ae (by show Rep ca F .non .non; unfold Rep; rfl) (below_bl bl)
/-- frozen temporaries -/
theorem AE.tz0 {F : Hp} {O : Own} {H : Hp} {env : En} {σ : L2.St} {k : Nat} (ae : AE ca F O env σ H) : AE ca (mF (aTz 0) O F H) (mO (aTz 0) O) env σ H ∧ Below (mO (aTz 0) O) 0 ∧ Stp 0 F O H (mF (aTz 0) O F H) (mO (aTz 0) O) H :=
  ⟨ae.mapS _ fun _ _ => rfl, below_tz, ae.bs.stp (aTz_low 0)⟩
/-- swapsWith: nothing for what is no comprehension -/
theorem swaps_no {e : Expr} {t : Option Expr} {n : Nat} {env : Env} (hp : plain e = true) (hl : ∀ a b c d, e ≠ .ListComp a b c d) : swapsWith e t n env = pure false := by
  cases e <;> first
    | rfl
    | exact absurd rfl (hl _ _ _ _)
    | (unfold plain at hp; cases hp; done)
theorem st_expr {e : T} {x : Expr} {pos : Pos} (h : PE X x (tE ca Φ W e)) (hp : plain x = true) (hl : ∀ a b c d, x ≠ .ListComp a b c d) : PS X (.Expr x pos) (tS ca Φ W io (.expr e)) := psImp (ps_expr h (swaps_no hp hl)) fun D σ H _ q => by
  obtain ⟨F, O, env, ae, bl, p⟩ := q
  have p' : PostS ca W io σ F O H ((one1 (ev Φ e env)).bind fun a => .ok (Out.nx a.2)) (Dn ca D) := p
  refine ⟨F, O, env, 0, ae, bl, p'.bind.g.imp fun a F1 O1 H1 st p1 v ae1 rv bl1 => ?_⟩
  obtain ⟨a1, a2, a3⟩ := AE.tz0 (k := 0) ae1
  exact (p1.at (.refl _ _) a3).here a1 a2
theorem st_ret {e : T} {x : Expr} {pos : Pos} (h : PE X x (tE ca Φ W e)) : PS X (.Return (some x) pos) (tS ca Φ W io (.ret e)) := psImp (ps_ret h) fun D σ H _ q => by
  obtain ⟨F, O, env, ae, bl, p⟩ := q
  have p' : PostS ca W io σ F O H ((one1 (ev Φ e env)).bind fun a => .ok (Out.rt a.1 a.2)) (Dn ca D) := p
  exact ⟨F, O, env, 0, ae, bl, p'.bind.g.imp fun a F1 O1 H1 st p1 v ae1 rv bl1 => p1.here v ae1 rv bl1⟩
theorem st_if {c : T} {a b : S} {x : Expr} {ys zs : List Stmt} {pos : Pos} (h : PT X x (tT ca Φ W c)) (h1 : PSs X ys (tS ca Φ W io a)) (h2 : PSs X zs (tS ca Φ W io b)) : PS X (.If x ys zs pos) (tS ca Φ W io (.ifs c a b)) := psImp (ps_if h h1 h2) fun D σ H _ q => by
  obtain ⟨F, O, env, ae, bl, p⟩ := q
  have p' : PostS ca W io σ F O H ((evB Φ c env).bind fun t => if t.1 then ex Φ a t.2 else ex Φ b t.2) (Dn ca D) := by
    have e2 : (one1 (ev Φ c env)).bind (fun r => (asB r.1).bind fun t => if t then ex Φ a r.2 else ex Φ b r.2) = (evB Φ c env).bind fun t => if t.1 then ex Φ a t.2 else ex Φ b t.2 := by
      unfold evB
      rw [M.bind_assoc]
      congr 1; funext r
      rw [M.bind_assoc] <;> rfl
    rw [← e2]
    exact p
  refine ⟨F, O, env, 0, ae, bl, p'.bind.g.imp fun t F1 O1 H1 st p1 ae1 bl1 => ?_⟩
  obtain ⟨t, env1⟩ := t
  cases t with
  | true => exact ⟨F1, O1, env1, ae1, bl1, p1⟩
  | false => exact ⟨F1, O1, env1, ae1, bl1, p1⟩
/-- the slot i takes the temporary k -/
def aSt (i k : Nat) : Act := fun l => match l with
  | .s j c => if j = i then some none else some (some (.s j c))
  | .t j c => if j = k then some (some (.s i c)) else some (some (.t j c))
theorem aSt_ne (i k : Nat) (l : Lab) : aSt i k l ≠ none := by
  cases l with
  | s j c => unfold aSt; simp only; split <;> exact fun h => nomatch h
  | t j c => unfold aSt; simp only; split <;> exact fun h => nomatch h
theorem aSt_low (i k : Nat) : Low k (aSt i k) := fun j c h => if_neg (by omega)
theorem AE.take {F : Hp} {O : Own} {H : Hp} {env : En} {σ : L2.St} {i k : Nat} {r : R} {v : V} (ae : AE ca F O env σ H) (rv : RepR ca F H O (.t k) r v) (hi : i < σ.length) (bl : Below O (k + 1)) :
    AE ca F (mO (aSt i k) O) (env.set i (some r)) (σ.set i (some v)) H ∧ Stp k F O H F (mO (aSt i k) O) H ∧ Below (mO (aSt i k) O) k := by
  have e : mF (aSt i k) O F H = F := mF_same (aSt_ne i k)
  have b := ae.bs.map (aSt i k)
  have s := ae.bs.stp (aSt_low i k)
  rw [e] at b s
  refine ⟨b.ae fun j q h => ?_, s, fun a j c z => ?_⟩
  · rcases set_slot h with ⟨rfl, h1⟩ | ⟨ne, h1⟩
    · cases h1
      have := rv.map (φ := aSt j k) (L' := Lab.s j) ae.bs fun c => if_pos rfl
      rw [e] at this
      exact ⟨v, List.getElem?_set_self hi, this⟩
    · obtain ⟨w, w1, w2⟩ := ae.slot j q h1
      have := w2.map (φ := aSt i k) (L' := Lab.s j) ae.bs fun c => if_neg ne
      rw [e] at this
      exact ⟨w, by rw [List.getElem?_set_ne (Ne.symm ne)]; exact w1, this⟩
  · obtain ⟨l, l1, l2⟩ := mO_inv z
    cases l with
    | s j' c' =>
      unfold aSt at l2
      simp only at l2
      split at l2 <;> cases l2
    | t j' c' =>
      unfold aSt at l2
      simp only at l2
      split at l2
      · cases l2
      · cases l2
        have := bl a j c l1
        omega
theorem st_asgR {e : T} {i : Nat} {D : Ends} {σ : L2.St} {H : Hp} (hi : i < σ.length) (hio : i ∉ io) (q : tS ca Φ W io (.asg i e) D σ H) : tAsg (tE ca Φ W e) (gName i) D σ H := by
  obtain ⟨F, O, env, ae, bl, p⟩ := q
  have p' : PostS ca W io σ F O H ((one1 (ev Φ e env)).bind fun a => .ok (Out.nx (a.2.set i (some a.1)))) (Dn ca D) := p
  refine ⟨F, O, env, 0, ae, bl, p'.bind.g.imp fun a F1 O1 H1 st p1 v ae1 rv bl1 => ?_⟩
  obtain ⟨a1, a2, a3⟩ := ae1.take rv hi bl1
  exact (p1.at (Fx.set hio) a2).here a1 a3
theorem st_asg (G : Good X ca Φ gs W) {e : T} {i : Nat} {y : Str} {x : Expr} {p pos : Pos} (hn : locN (cOf X gs) i y = true) (hio : i ∉ io) (h : PE X x (tE ca Φ W e)) (hp : plain x = true) (hl : ∀ a b c d, x ≠ .ListComp a b c d) : PS X (.Assign [.Name y p] x pos) (tS ca Φ W io (.asg i e)) := by
  obtain ⟨n1, n2, n3⟩ := locN_ok hn
  exact psImp (ps_set G.nd n1 n2 h (swaps_no hp hl) n3) fun D σ H hσ q => st_asgR (by rw [hσ]; exact (List.getElem?_eq_some_iff.mp n1).1) hio q
end
end FH
set_option Elab.async false
set_option linter.all false
set_option maxRecDepth 100000
set_option maxHeartbeats 2000000
namespace FH
open PySem PySem.Spec PyProof.Rows L2
section
variable {X : Cx} {ca : Cs} {Φ : FT} {gs : List (Str × V)} {W : WX} {io : List Nat} {st : Stmt} {sts : List Stmt}
/-- the heap behind an item -/
theorem item_at {F F2 H H' : Hp} {O : Own} {env : En} {σ : L2.St} (ae : AE ca F O env σ H) (s1 : Sub F F2) (s2 : Sub F2 H') (s3 : Sub H H') (s4 : ∀ a o, F2 a = some o → F a = some o ∨ H a = none) : AE ca F2 O env σ H' ∧ ∀ j, Stp j F O H F2 O H' := by
  have b3 : Bs F2 O H' := by
    refine ⟨s2, fun a' l e => ?_, fun a' l e => ?_⟩
    · cases q : F2 a' with
      | none => rfl
      | some o =>
        rcases s4 a' o q with z | z
        · rw [ae.dis a' l e] at z; cases z
        · obtain ⟨o', y⟩ := ae.own a' l e
          rw [z] at y; cases y
    · obtain ⟨o, y⟩ := ae.own a' l e
      exact ⟨o, s3 _ _ y⟩
  refine ⟨ae.grow b3 s1 s3 fun _ _ z => z, fun j => ⟨s1, fun a' o e _ => s3 _ _ e, fun _ _ _ _ => rfl, fun a' o e pk n => ?_, fun a' o e => ⟨o, s3 _ _ e⟩⟩⟩
  cases q : F2 a' with
  | none => rfl
  | some u =>
    rcases s4 a' u q with z | z
    · rw [n] at z; cases z
    · rw [e] at z; cases z
theorem for_read {K : PySem.W.Frag} {tg : Tg} {src : T} {body : S} {D : Ends} {σ : L2.St} {H : Hp} (hs : ∀ i, i ∈ tgSlots tg → i < σ.length ∧ i ∉ io) (q : tS ca Φ W io (.for tg src body) D σ H) : tFor (tI ca Φ W src) (gTg K tg) (tS ca Φ W io body) D σ H := by
  obtain ⟨F, O, env, ae, bl, p⟩ := q
  have p' : PostS ca W io σ F O H ((one1 (ev Φ src env)).bind fun a => match a.1 with
    | .sh (.lst _ xs) => exL (fun x env => (setT tg x env).bind fun env => ex Φ body env) xs a.2
    | _ => .no) (Dn ca D) := p
  refine ⟨F, O, env, 0, ae, bl, p'.bind.g.imp fun a F1 O1 H1 st1 p1 ae1 bl1 t xs er J hJ => ?_⟩
  rw [er] at p1
  have p2 : PostS ca W io σ F1 O1 H1 (exL (fun x env => (setT tg x env).bind fun env => ex Φ body env) xs a.2) (Dn ca D) := p1
  refine ⟨fun i m σ' H' => ∃ F O env, AE ca F O env σ' H' ∧ Below O 0 ∧ i ≤ xs.length ∧ m = xs.length - i ∧ Sub F1 F ∧ σ'.length = σ.length ∧ PostS ca W io σ' F O H' (exL (fun x env => (setT tg x env).bind fun env => ex Φ body env) (xs.drop i) env) (Dn ca D),
    ⟨xs.length, F1, O1, a.2, ae1, bl1, Nat.zero_le _, rfl, .refl _, rfl, by rw [List.drop_zero]; exact p2⟩, ?_⟩
  rintro i m σ2 H2 ⟨F2, O2, env2, ae2, bl2, hi, hm, sF, hσ, p3⟩
  by_cases hlt : i < xs.length
  · refine .inr ?_
    have hx : xs[i]? = some xs[i] := List.getElem?_eq_getElem hlt
    obtain ⟨go, yl⟩ := (hJ i F2 H2 sF ae2.sub).1 _ hx
    refine ⟨go, fun σ' H' => ∃ F O env, AE ca F O env σ' H' ∧ Below O 0 ∧ Sub F1 F ∧ σ'.length = σ.length ∧ PostS ca W io σ' F O H' (exL (fun x env => (setT tg x env).bind fun env => ex Φ body env) (xs.drop (i + 1)) env) (Dn ca D), ?_, ?_⟩
    · rintro σ' H' ⟨F3, O3, env3, h1, h2, h3, h4, h5⟩
      exact ⟨xs.length - (i + 1), by omega, F3, O3, env3, h1, h2, by omega, rfl, h3, h4, h5⟩
    · intro x H' hy
      obtain ⟨F3, s1, s2, s3, s4, rx⟩ := yl x H' hy
      obtain ⟨ae3, st3⟩ := item_at ae2 s1 s2 s3 s4
      rw [List.drop_eq_getElem_cons hlt] at p3
      have p4 : PostS ca W io σ2 F2 O2 H2 (((setT tg xs[i] env2).bind fun env => ex Φ body env).bind fun
        | .nx e => exL (fun x env => (setT tg x env).bind fun env => ex Φ body env) (xs.drop (i + 1)) e
        | .ct e => exL (fun x env => (setT tg x env).bind fun env => ex Φ body env) (xs.drop (i + 1)) e
        | .bk e => .ok (.nx e)
        | .rt r e => .ok (.rt r e)) (Dn ca D) := p3
      rw [M.bind_assoc] at p4
      cases es : setT tg xs[i] env2 with
      | no => rw [es] at p4; exact p4.elim
      | ex c d => exact absurd es setT_ex
      | ok env3 =>
        rw [es] at p4
        refine setT_go es ae3 rx (fun j hj => by rw [hσ]; exact (hs j hj).1) fun σ' u1 u2 ae4 => ?_
        have fx : Fx io σ2 σ' := ⟨u2, fun j hj => u1 j fun z => (hs j z).2 hj⟩
        refine ⟨F3, O2, env3, ae4, bl2, ?_⟩
        have p5 : PostS ca W io σ2 F2 O2 H2 ((ex Φ body env3).bind fun
          | .nx e => exL (fun x env => (setT tg x env).bind fun env => ex Φ body env) (xs.drop (i + 1)) e
          | .ct e => exL (fun x env => (setT tg x env).bind fun env => ex Φ body env) (xs.drop (i + 1)) e
          | .bk e => .ok (.nx e)
          | .rt r e => .ok (.rt r e)) (Dn ca D) := p4
        refine (p5.at fx (st3 0)).bind.imp fun o σ5 F5 O5 H5 fx5 st5 p6 => ?_
        have l5 : σ5.length = σ.length := (fx5.1.trans u2).trans hσ
        have s5 : Sub F1 F5 := (sF.trans s1).trans st5.ext
        cases o with
        | nx e => exact fun ae5 bl5 => ⟨F5, O5, e, ae5, bl5, s5, l5, p6⟩
        | ct e => exact fun ae5 bl5 => ⟨F5, O5, e, ae5, bl5, s5, l5, p6⟩
        | bk e => exact (show PostS ca W io σ5 F5 O5 H5 (.ok (Out.nx e)) (Dn ca D) from p6).here
        | rt r e => exact (show PostS ca W io σ5 F5 O5 H5 (.ok (Out.rt r e)) (Dn ca D) from p6).here
  · refine .inl ⟨(hJ i F2 H2 sF ae2.sub).2 (by omega), ?_⟩
    rw [List.drop_eq_nil_of_le (by omega)] at p3
    exact (show PostS ca W io σ2 F2 O2 H2 (.ok (Out.nx env2)) (Dn ca D) from p3).here ae2 bl2
theorem while_read {n : Nat} {c : T} {body : S} {D : Ends} {σ : L2.St} {H : Hp} (q : tS ca Φ W io (.while n c body) D σ H) : tWhile (tT ca Φ W c) (tS ca Φ W io body) D σ H := by
  obtain ⟨F, O, env, ae, bl, p⟩ := q
  have p' : PostS ca W io σ F O H (exW (evB Φ c) (ex Φ body) n env) (Dn ca D) := p
  refine ⟨fun m σ H => ∃ F O env, AE ca F O env σ H ∧ Below O 0 ∧ PostS ca W io σ F O H (exW (evB Φ c) (ex Φ body) m env) (Dn ca D), ⟨n, F, O, env, ae, bl, p'⟩, ?_⟩
  rintro m σ H ⟨F, O, env, ae, bl, p⟩
  cases m with
  | zero => exact p.elim
  | succ m =>
    have p1 : PostS ca W io σ F O H ((evB Φ c env).bind fun t => if t.1 then (ex Φ body t.2).bind fun
      | .nx e => exW (evB Φ c) (ex Φ body) m e
      | .ct e => exW (evB Φ c) (ex Φ body) m e
      | .bk e => .ok (.nx e)
      | .rt r e => .ok (.rt r e)
      else .ok (.nx t.2)) (Dn ca D) := p
    refine ⟨F, O, env, 0, ae, bl, p1.bind.g.imp fun t F1 O1 H1 st1 p2 ae1 bl1 => ?_⟩
    obtain ⟨t, env1⟩ := t
    cases t with
    | false =>
      rw [if_neg Bool.false_ne_true]
      exact (show PostS ca W io σ F1 O1 H1 (.ok (Out.nx env1)) (Dn ca D) from p2).here ae1 bl1
    | true =>
      rw [if_pos rfl]
      have p3 : PostS ca W io σ F1 O1 H1 ((ex Φ body env1).bind fun
        | .nx e => exW (evB Φ c) (ex Φ body) m e
        | .ct e => exW (evB Φ c) (ex Φ body) m e
        | .bk e => .ok (.nx e)
        | .rt r e => .ok (.rt r e)) (Dn ca D) := p2
      refine ⟨fun σ' H' => ∃ F O env, AE ca F O env σ' H' ∧ Below O 0 ∧ PostS ca W io σ' F O H' (exW (evB Φ c) (ex Φ body) m env) (Dn ca D), fun σ' H' w => ⟨m, Nat.lt_succ_self m, w⟩, F1, O1, env1, ae1, bl1, ?_⟩
      refine p3.bind.imp fun o σ5 F5 O5 H5 fx5 st5 p6 => ?_
      cases o with
      | nx e => exact fun ae5 bl5 => ⟨F5, O5, e, ae5, bl5, p6⟩
      | ct e => exact fun ae5 bl5 => ⟨F5, O5, e, ae5, bl5, p6⟩
      | bk e => exact (show PostS ca W io σ5 F5 O5 H5 (.ok (Out.nx e)) (Dn ca D) from p6).here
      | rt r e => exact (show PostS ca W io σ5 F5 O5 H5 (.ok (Out.rt r e)) (Dn ca D) from p6).here
/-! ### stores of pairs -/
def aCp (i c : Nat) : Act := fun l => match l with
  | .s j e => if j = i then some none else some (some (.s j e))
  | .t j e => if e = c then some (some (.s i 0)) else some (some (.t j e))
theorem aCp_ne (i c : Nat) (l : Lab) : aCp i c l ≠ none := by
  cases l with
  | s j e => unfold aCp; simp only; split <;> exact fun h => nomatch h
  | t j e => unfold aCp; simp only; split <;> exact fun h => nomatch h
theorem repC_map {φ : Act} {F H : Hp} {O : Own} {L L' : Nat → Lab} (b : Bs F O H) : ∀ {cs : List (Bool × FH.D)} {c : Nat} {vs : List V}, (∀ j, c ≤ j → φ (L j) = some (some (L' j))) → RepC ca F H O L c cs vs → RepC ca (mF φ O F H) H (mO φ O) L' c cs vs
  | [], c, vs, e, h => by unfold RepC at h ⊢; exact h
  | (true, d) :: r, c, vs, e, h => by
    unfold RepC at h ⊢
    obtain ⟨v, w, h1, h2, h3⟩ := h
    exact ⟨v, w, h1, h2.map b (e c (Nat.le_refl _)), repC_map b (fun j hj => e j (by omega)) h3⟩
  | (false, d) :: r, c, vs, e, h => by
    unfold RepC at h ⊢
    obtain ⟨v, w, h1, h2, h3⟩ := h
    exact ⟨v, w, h1, Rep.mono (b.mapSub φ) _ _ h2, repC_map b (fun j hj => e j (by omega)) h3⟩
def toR (p : Bool × FH.D) : R := if p.1 then .ow p.2 else .sh p.2
theorem setC_go {F H : Hp} : ∀ {is : List Nat} {cs : List (Bool × FH.D)} {env env' : En} {vs : List V} {σ : L2.St} {O : Own} {c : Nat} {Q : L2.St → Hp → Prop}, setRs is (cs.map toR) env = .ok env' → AE ca F O env σ H → RepC ca F H O (.t 0) c cs vs → Below O 1 → (∀ i, i ∈ is → i < σ.length) →
    (∀ σ' O', (∀ j, j ∉ is → σ'[j]? = σ[j]?) → σ'.length = σ.length → AE ca F O' env' σ' H → Stp 0 F O H F O' H → Below O' 1 → Q σ' H) → gNs is vs σ H Q ∧ vs.length = is.length
  | [], [], env, env', vs, σ, O, c, Q, e, ae, r, bl, hl, h => by
    have e' : (M.ok env : M En) = .ok env' := e
    cases e'
    unfold RepC at r
    exact ⟨⟨r, h σ O (fun _ _ => rfl) rfl ae (.refl _ _ _ _) bl⟩, by rw [r] <;> rfl⟩
  | i :: is, (b, d) :: cs, env, env', vs, σ, O, c, Q, e, ae, r, bl, hl, h => by
    have e' : setRs is (cs.map toR) (env.set i (some (toR (b, d)))) = .ok env' := e
    have key : ∃ v w, vs = v :: w ∧ RepR ca F H (mO (aCp i c) O) (.s i) (toR (b, d)) v ∧ RepC ca F H O (.t 0) (c + 1) cs w := by
      have eF : mF (aCp i c) O F H = F := mF_same (aCp_ne i c)
      cases b with
      | true =>
        unfold RepC at r
        obtain ⟨v, w, r1, r2, r3⟩ := r
        have := r2.map (φ := aCp i c) (l' := .s i 0) ae.bs (if_pos rfl)
        rw [eF] at this
        exact ⟨v, w, r1, this, r3⟩
      | false =>
        unfold RepC at r
        obtain ⟨v, w, r1, r2, r3⟩ := r
        exact ⟨v, w, r1, r2, r3⟩
    obtain ⟨v, w, rfl, r1, r2⟩ := key
    have eF : mF (aCp i c) O F H = F := mF_same (aCp_ne i c)
    have b1 := ae.bs.map (aCp i c)
    rw [eF] at b1
    have r3 := repC_map (φ := aCp i c) (L' := .t 0) ae.bs (fun j hj => by
      show (if j = c then _ else some (some (Lab.t 0 j))) = _
      rw [if_neg (by omega)]) r2
    rw [eF] at r3
    have s1 : Stp 0 F O H F (mO (aCp i c) O) H := by
      refine ⟨.refl _, fun _ _ e _ => e, fun a o e pk => ?_, fun _ _ _ _ n => n, fun a o e => ⟨o, e⟩⟩
      cases q : O a with
      | none => exact mO_none q
      | some l =>
        cases l with
        | s j x => exact absurd q (pk.1 j x)
        | t j x => exact absurd (pk.2 j x q) (Nat.not_lt_zero _)
    have ae1 : AE ca F (mO (aCp i c) O) (env.set i (some (toR (b, d)))) (σ.set i (some v)) H := b1.ae fun j q hq => by
      rcases set_slot hq with ⟨rfl, h1⟩ | ⟨ne, h1⟩
      · cases h1
        exact ⟨v, List.getElem?_set_self (hl j List.mem_cons_self), r1⟩
      · obtain ⟨u, w1, w2⟩ := ae.slot j q h1
        have := w2.map (φ := aCp i c) (L' := Lab.s j) ae.bs fun c => if_neg ne
        rw [eF] at this
        exact ⟨u, by rw [List.getElem?_set_ne (Ne.symm ne)]; exact w1, this⟩
    have bl1 : Below (mO (aCp i c) O) 1 := fun a j x z => by
      obtain ⟨l, l1, l2⟩ := mO_inv z
      cases l with
      | s j' c' =>
        unfold aCp at l2
        simp only at l2
        split at l2 <;> cases l2
      | t j' c' =>
        unfold aCp at l2
        simp only at l2
        split at l2
        · cases l2
        · cases l2; exact bl a j x l1
    have ih := setC_go (σ := σ.set i (some v)) (Q := Q) e' ae1 r3 bl1 (fun j hj => by rw [List.length_set]; exact hl j (List.mem_cons_of_mem _ hj)) fun σ' O' h1 h2 h3 h4 h5 => h σ' O' (fun j hj => by
      rw [h1 j fun z => hj (List.mem_cons_of_mem _ z)]
      exact List.getElem?_set_ne fun z => hj (by rw [z]; exact List.mem_cons_self)) (by rw [h2, List.length_set]) h3 (s1.trans h4) h5
    exact ⟨⟨v, w, rfl, ih.1⟩, by rw [List.length_cons, List.length_cons, ih.2]⟩
  | [], _ :: _, env, env', vs, σ, O, c, Q, e, ae, r, bl, hl, h => by
    have e' : (M.no : M En) = .ok env' := e
    cases e'
  | _ :: _, [], env, env', vs, σ, O, c, Q, e, ae, r, bl, hl, h => by
    have e' : (M.no : M En) = .ok env' := e
    cases e'
theorem repC_sh {F H : Hp} {O : Own} {L : Nat → Lab} : ∀ {ds : List FH.D} {vs : List V} {c : Nat}, Reps ca F ds vs → RepC ca F H O L c (ds.map fun d => (false, d)) vs
  | [], vs, c, h => by unfold Reps at h; unfold RepC; exact h
  | d :: ds, vs, c, h => by
    unfold Reps at h
    obtain ⟨v, w, rfl, h1, h2⟩ := h
    exact ⟨v, w, rfl, h1, repC_sh h2⟩
theorem unR_ok {r : R} {rs : List R} {F H : Hp} {O : Own} {v : V} (h : unR r = some rs) (rv : RepR ca F H O (.t 0) r v) : ∃ a cs vs, v = .ref a ∧ F a = some (.tup vs) ∧ rs = cs.map toR ∧ RepC ca F H O (.t 0) 1 cs vs := by
  unfold unR at h
  split at h
  · rename_i ds
    cases h
    have rv' : Rep ca F (.tup ds) v := rv
    unfold Rep at rv'
    obtain ⟨a, vs, h1, h2, h3⟩ := rv'
    refine ⟨a, ds.map fun d => (false, d), vs, h1, h2, ?_, repC_sh h3⟩
    rw [List.map_map] <;> rfl
  · rename_i cs
    cases h
    obtain ⟨a, vs, h1, h2, h3⟩ := rv
    exact ⟨a, cs, vs, h1, h2, rfl, h3⟩
  · cases h
theorem setRs_ex {is : List Nat} {rs : List R} {env : En} {c : Str} {d : FH.D} : setRs is rs env ≠ .ex c d := by
  induction is generalizing rs env with
  | nil => cases rs <;> exact fun h => nomatch h
  | cons i is ih =>
    cases rs with
    | nil => exact fun h => nomatch h
    | cons r rs => exact ih
theorem unp_read {K : PySem.W.Frag} {is : List Nat} {e : T} {D : Ends} {σ : L2.St} {H : Hp} (hs : ∀ i, i ∈ is → i < σ.length ∧ i ∉ io) (q : tS ca Φ W io (.unp is e) D σ H) : tAsg (tE ca Φ W e) (gTg K (.tp is)) D σ H := by
  obtain ⟨F, O, env, ae, bl, p⟩ := q
  have p' : PostS ca W io σ F O H ((one1 (ev Φ e env)).bind fun a => match unR a.1 with
    | some rs => (setRs is rs a.2).bind fun env2 => .ok (Out.nx env2)
    | none => .no) (Dn ca D) := p
  refine ⟨F, O, env, 0, ae, bl, p'.bind.g.imp fun a F1 O1 H1 st1 p1 v ae1 rv bl1 => ?_⟩
  cases eu : unR a.1 with
  | none => rw [eu] at p1; exact p1.elim
  | some rs =>
    rw [eu] at p1
    obtain ⟨b, cs, vs, rfl, h1, rfl, h2⟩ := unR_ok eu rv
    have p2 : PostS ca W io σ F1 O1 H1 ((setRs is (cs.map toR) a.2).bind fun env2 => .ok (Out.nx env2)) (Dn ca D) := p1
    cases es : setRs is (cs.map toR) a.2 with
    | no => rw [es] at p2; exact p2.elim
    | ex c d => exact absurd es setRs_ex
    | ok env2 =>
      rw [es] at p2
      have go := setC_go (Q := D.nx) es ae1 h2 bl1 (fun i hi => (hs i hi).1) fun σ' O' u1 u2 u3 u4 u5 => by
        obtain ⟨a1, a2, a3⟩ := AE.tz0 (k := 0) u3
        exact ((show PostS ca W io σ F1 O1 H1 (.ok (Out.nx env2)) (Dn ca D) from p2).at ⟨u2, fun j hj => u1 j fun z => (hs j z).2 hj⟩ (u4.trans a3)).here a1 a2
      exact ⟨b, vs, rfl, SqT.of (ae1.sub _ _ h1), go.2, go.1⟩
theorem par_read {ts : List TE} {xs : List Expr} {es : T} {i j : Nat} {D : Ends} {σ : L2.St} {H : Hp} (ar : ∀ σ H Q, (tA ca Φ W es σ H fun vs H' => Lnk (bkOf es) σ vs ∧ vs.length = xs.length → Q vs H') → seqT ts σ H Q) (hi : i < σ.length) (hj : j < σ.length) (h1 : i ∉ io) (h2 : j ∉ io) (hij : i ≠ j) (q : tS ca Φ W io (.par i j es) D σ H) :
    tPar i j (seqT ts) D σ H := by
  obtain ⟨F, O, env, ae, bl, p⟩ := q
  have p' : PostS ca W io σ F O H ((ev Φ es env).bind fun a => match a.1 with
    | [r, q] => .ok (Out.nx ((a.2.set i (some r)).set j (some q)))
    | _ => .no) (Dn ca D) := p
  refine ar _ _ _ ⟨F, O, env, 0, ae, bl, p'.bind.g.imp fun a F1 O1 H1 st1 p1 vs ae1 rvs bl1 z => ?_⟩
  obtain ⟨rs, env1⟩ := a
  match rs, rvs, p1, bl1 with
  | [r, q], rvs, p1, bl1 =>
    unfold RepRs at rvs
    obtain ⟨v, w1, rfl, r1, rvs⟩ := rvs
    unfold RepRs at rvs
    obtain ⟨w, w2, rfl, r2, rvs⟩ := rvs
    unfold RepRs at rvs
    subst rvs
    refine ⟨v, w, rfl, ?_⟩
    -- the first to its slot
    have eF : mF (aSt i 0) O1 F1 H1 = F1 := mF_same (aSt_ne i 0)
    have r2' : RepR ca F1 H1 (mO (aSt i 0) O1) (.t 1) q w := by
      have := r2.map (φ := aSt i 0) (L' := Lab.t 1) ae1.bs fun c => (show (if (0 + 1) = 0 then some (some (Lab.s i c)) else some (some (Lab.t (0 + 1) c))) = some (some (Lab.t 1 c)) from if_neg (by decide))
      rw [eF] at this
      exact this
    have b1 := ae1.bs.map (aSt i 0)
    have s1 := ae1.bs.stp (aSt_low i 0)
    rw [eF] at b1 s1
    have ae2 : AE ca F1 (mO (aSt i 0) O1) (env1.set i (some r)) (σ.set i (some v)) H1 := b1.ae fun n q' hq => by
      rcases set_slot hq with ⟨rfl, g1⟩ | ⟨ne, g1⟩
      · cases g1
        have := r1.map (φ := aSt n 0) (L' := Lab.s n) ae1.bs fun c => (show (if 0 = 0 then some (some (Lab.s n c)) else some (some (Lab.t 0 c))) = some (some (Lab.s n c)) from if_pos rfl)
        rw [eF] at this
        exact ⟨v, List.getElem?_set_self hi, this⟩
      · obtain ⟨u, w1, w2⟩ := ae1.slot n q' g1
        have := w2.map (φ := aSt i 0) (L' := Lab.s n) ae1.bs fun c => if_neg ne
        rw [eF] at this
        exact ⟨u, by rw [List.getElem?_set_ne (Ne.symm ne)]; exact w1, this⟩
    have bl2 : Below (mO (aSt i 0) O1) 2 := fun a n x z => by
      obtain ⟨l, l1, l2⟩ := mO_inv z
      cases l with
      | s j' c' =>
        unfold aSt at l2
        simp only at l2
        split at l2 <;> cases l2
      | t j' c' =>
        unfold aSt at l2
        simp only at l2
        split at l2
        · cases l2
        · cases l2; exact bl1 a n x l1
    obtain ⟨ae3, s3, bl3⟩ := ae2.take r2' (by rw [List.length_set]; exact hj) bl2
    obtain ⟨a1, a2, a3⟩ := AE.tz0 (k := 0) ae3
    have fx : Fx io σ ((σ.set i (some v)).set j (some w)) := (Fx.set h1).trans (Fx.set h2)
    exact ((show PostS ca W io σ F1 O1 H1 (.ok (Out.nx ((env1.set i (some r)).set j (some q)))) (Dn ca D) from p1).at fx ((s1.trans (s3.mono (Nat.zero_le _))).trans a3)).here a1 a2
  | [], _, p1, _ => exact p1.elim
  | [_], _, p1, _ => exact p1.elim
  | _ :: _ :: _ :: _, _, p1, _ => exact p1.elim
end
end FH
set_option Elab.async false
set_option linter.all false
set_option maxRecDepth 100000
set_option maxHeartbeats 2000000
namespace FH
open PySem PySem.Spec PyProof.Rows L2
section
variable {X : Cx} {ca : Cs} {Φ : FT} {gs : List (Str × V)} {W : WX} {io : List Nat} {st : Stmt} {sts : List Stmt}
/-- the temporary k back to its slot, the others frozen -/
def aSx (i k : Nat) : Act := fun l => match l with
  | .s j c => if j = i then some none else some (some (.s j c))
  | .t j c => if j = k then some (some (.s i c)) else none
theorem aSx_low (i k : Nat) : Low 0 (aSx i k) := fun j c h => absurd h (Nat.not_lt_zero _)
theorem below_sx {O : Own} {i k : Nat} : Below (mO (aSx i k) O) 0 := fun a j c z => by
  obtain ⟨l, l1, l2⟩ := mO_inv z
  cases l with
  | s j' c' =>
    unfold aSx at l2
    simp only at l2
    split at l2 <;> cases l2
  | t j' c' =>
    unfold aSx at l2
    simp only at l2
    split at l2 <;> cases l2
theorem aSx_tk {i k c : Nat} : aSx i k (.t k c) = some (some (.s i c)) := if_pos rfl
theorem aSx_ne {i k j c : Nat} (h : j ≠ k) : aSx i k (.t j c) = none := if_neg h
theorem aSx_s {i k j c : Nat} (h : j ≠ i) : aSx i k (.s j c) = some (some (.s j c)) := if_neg h
/-- the slots but i, behind aSx -/
theorem AE.sx {F : Hp} {O : Own} {H : Hp} {env : En} {σ : L2.St} {i k : Nat} (ae : AE ca F O env σ H) (n : ∀ r, env[i]? ≠ some (some r)) : AE ca (mF (aSx i k) O F H) (mO (aSx i k) O) env σ H :=
  ae.map _ fun j r c e => aSx_s fun z => n r (by rw [← z]; exact e)
/-- a slot's root written -/
theorem AE.write {F : Hp} {O : Own} {H : Hp} {env : En} {σ : L2.St} {i : Nat} {p : Addr} {ho : HO} {r : R} (ae : AE ca F O env σ H) (n : ∀ r, env[i]? ≠ some (some r)) (hp : O p = some (.s i 0)) (hσ : σ[i]? = some (some (.ref p))) (hr : RepR ca F (upd H p ho) O (.s i) r (.ref p)) :
    AE ca F O (env.set i (some r)) σ (upd H p ho) ∧ Stp 0 F O H F O (upd H p ho) := by
  have fp : F p = none := ae.dis p _ hp
  refine ⟨⟨fun a o e => ?_, ae.dis, fun a l e => ?_, fun j q hq => ?_⟩, ⟨.refl _, fun a o e pk => ?_, fun _ _ _ _ => rfl, fun _ _ _ _ z => z, fun a o e => ?_⟩⟩
  · have hne : a ≠ p := fun h => by rw [h, fp] at e; cases e
    rw [upd_ne hne]; exact ae.sub a o e
  · by_cases h : a = p
    · rw [h]; exact ⟨_, upd_same⟩
    · rw [upd_ne h]; exact ae.own a l e
  · rcases set_slot hq with ⟨rfl, g⟩ | ⟨ne, g⟩
    · cases g
      exact ⟨_, hσ, hr⟩
    · obtain ⟨v, v1, v2⟩ := ae.slot j q g
      refine ⟨v, v1, v2.mono (.refl _) fun c a o e1 e2 => ⟨?_, e1⟩⟩
      have hne : a ≠ p := fun h => by rw [h, hp] at e1; cases e1; exact ne rfl
      rw [upd_ne hne]; exact e2
  · have hne : a ≠ p := fun h => by rw [h] at pk; exact pk.1 i 0 hp
    rw [upd_ne hne]; exact e
  · by_cases h : a = p
    · rw [h]; exact ⟨_, upd_same⟩
    · exact ⟨o, by rw [upd_ne h]; exact e⟩
theorem env_none {env : En} {i : Nat} {r : R} : (env.set i none)[i]? ≠ some (some r) := fun h => by
  rcases set_slot h with ⟨_, g⟩ | ⟨ne, _⟩
  · cases g
  · exact ne rfl
/-- the env keeps the slot empty: a set of a free slot -/
theorem set_none {env : En} {i : Nat} {r : R} (n : ∀ r, env[i]? ≠ some (some r)) : True := trivial
def tMv (ca : Cs) (Φ : FT) (W : WX) (i : Nat) : TE := fun σ H Q => tE ca Φ W (.mv i) σ H fun v H' => σ[i]? = some (some v) → Q v H'
theorem mv_e {i : Nat} {env : En} : one1 (ev Φ (.mv i) env) = (getS env i).bind fun r => .ok (r, env.set i none) := by
  have e0 : ev Φ (.mv i) env = (getS env i).bind fun r => .ok ([r], env.set i none) := rfl
  rw [e0, one1_bind] <;> rfl
/-- the slot's holder lent to a temporary -/
theorem mv_go {i k : Nat} {σ : L2.St} {F : Hp} {O : Own} {H : Hp} {env : En} {α : Type} {f : R → M α} {C : α → L2.St → Hp → Own → Hp → Prop} {Q : VK} (ae : AE ca F O env σ H) (bl : Below O k)
    (p : PostS ca W io σ F O H ((getS env i).bind f) C)
    (h : ∀ o v F1 O1 H1, AE ca F1 O1 (env.set i none) σ H1 → RepR ca F1 H1 O1 (.t k) o v → Below O1 (k + 1) → Stp k F O H F1 O1 H1 → σ[i]? = some (some v) → PostS ca W io σ F1 O1 H1 (f o) C → Q v H1) : tMv ca Φ W i σ H Q := by
  rcases getS_cases env i with ⟨r, e1, e2⟩ | e2
  · rw [e2] at p
    refine ⟨F, O, env, k, ae, bl, ?_⟩
    rw [mv_e, e2]
    intro F1 O1 H1 st v ae1 rv bl1 hσ
    exact h r v F1 O1 H1 ae1 rv bl1 st hσ ((show PostS ca W io σ F O H (f r) C from p).at (.refl _ _) (st.mono (Nat.zero_le _)))
  · rw [e2] at p
    exact p.elim
theorem AE.drop {F : Hp} {O : Own} {H : Hp} {env : En} {σ : L2.St} {i : Nat} (ae : AE ca F O env σ H) : AE ca F O (env.set i none) σ H := ae.bs.ae fun j q h => by
  rcases set_slot h with ⟨_, g⟩ | ⟨_, g⟩
  · cases g
  · exact ae.slot j q g
theorem lim_s {n : Nat} (h : n ≤ LIM) : n < sizeLine := Nat.lt_of_le_of_lt h lim_lt
/-- the end of a store: the root at the temporary k goes back to slot i, written -/
theorem back_go {i k : Nat} {σ : L2.St} {F : Hp} {O : Own} {H : Hp} {env : En} {r : R} {p : Addr} {ho : HO} {D : Ends} (ae : AE ca F O env σ H) (op : O p = some (.t k 0)) (hσ : σ[i]? = some (some (.ref p)))
    (q : PostS ca W io σ F O H (.ok (Out.nx (env.set i (some r)))) (Dn ca D)) (hr : RepR ca (mF (aSx i k) O F H) (upd H p ho) (mO (aSx i k) O) (.s i) r (.ref p)) : D.nx σ (upd H p ho) := by
  have ae1 := (ae.drop (i := i)).sx (k := k) fun r => env_none
  have s1 := ae.bs.stp (aSx_low i k)
  have op1 : mO (aSx i k) O p = some (.s i 0) := mO_some op aSx_tk
  obtain ⟨ae2, s2⟩ := ae1.write (fun r => env_none) op1 hσ hr
  rw [List.set_set] at ae2
  exact (q.at (.refl _ _) (s1.trans s2)).here ae2 below_sx
/-! ### append, extend -/
theorem app_read {i : Nat} {e : T} {D : Ends} {σ : L2.St} {H : Hp} {K : PySem.W.Frag} (q : tS ca Φ W io (.app i e) D σ H) : tDrop (tBM K "list" rAppend (tMv ca Φ W i) (tCons (tE ca Φ W e) tNil)) D σ H := by
  obtain ⟨F, O, env, ae, bl, p⟩ := q
  have p' : PostS ca W io σ F O H ((getS env i).bind fun o => match o with
    | .ow (.lst t xs) => (one1 (ev Φ e (env.set i none))).bind fun a => if xs.length ≤ LIM then .ok (Out.nx (a.2.set i (some (.ow (.lst t (xs ++ [a.1.d])))))) else .no
    | _ => .no) (Dn ca D) := p
  refine mv_go ae bl p' fun o v F1 O1 H1 ae1 rv bl1 st1 hσ p1 => ?_
  cases o with
  | ow d =>
    cases d with
    | lst t xs =>
      obtain ⟨l, vs, rfl, g1, g2, g3, g4⟩ := rv
      refine ⟨.inl ⟨rfl, vs, SqL.of g1⟩, ?_⟩
      have p2 : PostS ca W io σ F1 O1 H1 ((one1 (ev Φ e (env.set i none))).bind fun a => if xs.length ≤ LIM then .ok (Out.nx (a.2.set i (some (.ow (.lst t (xs ++ [a.1.d])))))) else .no) (Dn ca D) := p1
      refine ⟨F1, O1, env.set i none, 1, ae1, bl1, (p2.bind.g.lift (Nat.zero_le 1)).imp fun a F2 O2 H2 st2 p3 y ae2 ry bl2 => ?_⟩
      have pk : Pk 1 O1 l := ⟨fun j c z => (by rw [g2] at z; cases z), fun j c z => (by rw [g2] at z; cases z; exact Nat.lt_succ_self _)⟩
      have hl2 : H2 l = some (.lst vs) := st2.keep l _ g1 pk
      have ol2 : O2 l = some (.t 0 0) := (st2.lab l _ g1 pk).trans g2
      split at p3
      case isFalse => exact p3.elim
      rename_i hlen
      refine ⟨l, vs, y, rfl, rfl, hl2, by rw [g4.length]; exact lim_s hlen, ?_⟩
      have sb := ae2.bs.mapSub (aSx i 0)
      have ry' : Rep ca (mF (aSx i 0) O2 F2 H2) a.1.d y := ry.frz (φ := aSx i 0) ae2.bs fun c => aSx_ne (by decide)
      exact back_go ae2 ol2 hσ p3 ⟨l, _, rfl, upd_same, mO_some ol2 aSx_tk, g3, (Reps.mono (st2.ext.trans sb) _ _ g4).append (.cons ry' .nil)⟩
    | _ => exact p1.elim
  | _ => exact p1.elim
theorem ext_read {i : Nat} {e : T} {D : Ends} {σ : L2.St} {H : Hp} {K : PySem.W.Frag} (q : tS ca Φ W io (.ext i e) D σ H) : tDrop (tBM K "list" rExtend (tMv ca Φ W i) (tCons (tE ca Φ W e) tNil)) D σ H := by
  obtain ⟨F, O, env, ae, bl, p⟩ := q
  have p' : PostS ca W io σ F O H ((getS env i).bind fun o => match o with
    | .ow (.lst t xs) => (one1 (ev Φ e (env.set i none))).bind fun a => (match a.1.d with
      | .lst _ ys => if xs.length + ys.length ≤ LIM then .ok (Out.nx (a.2.set i (some (.ow (.lst t (xs ++ ys)))))) else .no
      | _ => .no)
    | _ => .no) (Dn ca D) := p
  refine mv_go ae bl p' fun o v F1 O1 H1 ae1 rv bl1 st1 hσ p1 => ?_
  cases o with
  | ow d =>
    cases d with
    | lst t xs =>
      obtain ⟨l, vs, rfl, g1, g2, g3, g4⟩ := rv
      refine ⟨.inl ⟨rfl, vs, SqL.of g1⟩, ?_⟩
      have p2 : PostS ca W io σ F1 O1 H1 ((one1 (ev Φ e (env.set i none))).bind fun a => (match a.1.d with
        | .lst _ ys => if xs.length + ys.length ≤ LIM then .ok (Out.nx (a.2.set i (some (.ow (.lst t (xs ++ ys)))))) else .no
        | _ => .no)) (Dn ca D) := p1
      refine ⟨F1, O1, env.set i none, 1, ae1, bl1, (p2.bind.g.lift (Nat.zero_le 1)).imp fun a F2 O2 H2 st2 p3 y ae2 ry bl2 => ?_⟩
      have pk : Pk 1 O1 l := ⟨fun j c z => (by rw [g2] at z; cases z), fun j c z => (by rw [g2] at z; cases z; exact Nat.lt_succ_self _)⟩
      have hl2 : H2 l = some (.lst vs) := st2.keep l _ g1 pk
      have ol2 : O2 l = some (.t 0 0) := (st2.lab l _ g1 pk).trans g2
      have sb := ae2.bs.mapSub (aSx i 0)
      have ry' : Rep ca (mF (aSx i 0) O2 F2 H2) a.1.d y := ry.frz (φ := aSx i 0) ae2.bs fun c => aSx_ne (by decide)
      have sH := (ae2.bs.map (aSx i 0)).sub
      cases ed : a.1.d with
      | lst t2 ys =>
        rw [ed] at p3 ry'
        have p4 : PostS ca W io σ F2 O2 H2 (if xs.length + ys.length ≤ LIM then .ok (Out.nx (a.2.set i (some (.ow (.lst t (xs ++ ys)))))) else .no) (Dn ca D) := p3
        split at p4
        case isFalse => exact p4.elim
        rename_i hlen
        unfold Rep at ry'
        obtain ⟨b, us, rfl, y1, _, y2⟩ := ry'
        refine ⟨l, b, vs, us, rfl, rfl, hl2, sH _ _ y1, by rw [g4.length, y2.length]; exact lim_of hlen, ?_⟩
        exact back_go ae2 ol2 hσ p4 ⟨l, _, rfl, upd_same, mO_some ol2 aSx_tk, g3, (Reps.mono (st2.ext.trans sb) _ _ g4).append y2⟩
      | _ => rw [ed] at p3; exact p3.elim
    | _ => exact p1.elim
  | _ => exact p1.elim
/-! ### o[k] = d -/
def rSet2 : TSet := fun o i v H Q => rSetL o i v H Q ∨ rSetD o i v H Q
theorem set_two (hu : X.A.units + 1 < cLine) : PSet X rSet2 := by
  intro pins s σ H o i v ov iv u Q I ro ri rv h
  rcases h with h | h
  · exact set_list pins s σ H o i v ov iv u Q I ro ri rv h
  · exact set_dict hu pins s σ H o i v ov iv u Q I ro ri rv h
theorem setx_read {i : Nat} {ix e : T} {D : Ends} {σ : L2.St} {H : Hp} (q : tS ca Φ W io (.setx i ix e) D σ H) : tAsg (tE ca Φ W e) (gSub (tMv ca Φ W i) (tE ca Φ W ix) rSet2) D σ H := by
  obtain ⟨F, O, env, ae, bl, p⟩ := q
  have p' : PostS ca W io σ F O H ((one1 (ev Φ e env)).bind fun r => (getS r.2 i).bind fun o => (one1 (ev Φ ix (r.2.set i none))).bind fun k => match setO o k.1.d r.1.d with
    | some o' => .ok (Out.nx (k.2.set i (some o')))
    | none => .no) (Dn ca D) := p
  refine ⟨F, O, env, 0, ae, bl, p'.bind.g.imp fun r F1 O1 H1 st1 p1 x ae1 rx bl1 => ?_⟩
  refine mv_go ae1 bl1 p1 fun o v F2 O2 H2 ae2 ro bl2 st2 hσ p2 => ?_
  have rx2 := rx.stp st2 (Nat.lt_succ_self 0)
  refine ⟨F2, O2, r.2.set i none, 2, ae2, bl2, (p2.bind.g.lift (Nat.zero_le 2)).imp fun k F3 O3 H3 st3 p3 y ae3 ry bl3 => ?_⟩
  have rx3 := rx2.stp st3 (by decide)
  have ro3 := ro.stp st3 (by decide)
  have sb := ae3.bs.mapSub (aSx i 1)
  have rx' : Rep ca (mF (aSx i 1) O3 F3 H3) r.1.d x := rx3.frz (φ := aSx i 1) ae3.bs fun c => aSx_ne (by decide)
  have ry' : Rep ca (mF (aSx i 1) O3 F3 H3) k.1.d y := ry.frz (φ := aSx i 1) ae3.bs fun c => aSx_ne (by decide)
  cases es : setO o k.1.d r.1.d with
  | none => rw [es] at p3; exact p3.elim
  | some o' =>
    rw [es] at p3
    have p4 : PostS ca W io σ F3 O3 H3 (.ok (Out.nx (k.2.set i (some o')))) (Dn ca D) := p3
    unfold setO at es
    split at es
    · rename_i t xs n ek
      rw [ek] at ry'
      have ey : y = .int n := int_of ry'
      subst ey
      obtain ⟨l, vs, rfl, g1, g2, g3, g4⟩ := ro3
      cases ej : ixN xs.length n with
      | none => rw [ej] at es; cases es
      | some j =>
        rw [ej] at es
        cases es
        refine .inl ⟨l, vs, n, j, rfl, rfl, g1, by rw [g4.length]; exact ej, ?_⟩
        exact back_go ae3 g2 hσ p4 ⟨l, _, rfl, upd_same, mO_some g2 aSx_tk, g3, (Reps.mono sb _ _ g4).set rx'⟩
    · rename_i t kvs
      split at es
      · rename_i hlen
        cases ek : keyD k.1.d with
        | none => rw [ek] at es; cases es
        | some n =>
          rw [ek] at es
          cases es
          obtain ⟨l, vs, rfl, g1, g2, g3, g4⟩ := ro3
          have ey := keyD_v ry' ek
          subst ey
          have hl : vs.length = kvs.length := by
            have key : ∀ {ds : List (Key × FH.D)} {us : List (Key × V)} {G : Hp}, RepK ca G ds us → us.length = ds.length := by
              intro ds
              induction ds with
              | nil => intro us G h; unfold RepK at h; subst h; rfl
              | cons p ds ih =>
                intro us G h
                obtain ⟨kk, dd⟩ := p
                unfold RepK at h
                obtain ⟨v, r, rfl, h1, h2⟩ := h
                rw [List.length_cons, List.length_cons, ih h2]
            exact key g4
          refine .inr ⟨l, _, rfl, DPut.k g1 (by rw [hl]; exact lim_s hlen), ?_⟩
          exact back_go ae3 g2 hσ p4 ⟨l, _, rfl, upd_same, mO_some g2 aSx_tk, g3, RepK.put rx' (RepK.mono sb _ _ g4)⟩
      · cases es
    · cases es
end
end FH
set_option Elab.async false
set_option linter.all false
set_option maxRecDepth 100000
set_option maxHeartbeats 2000000
namespace FH
open PySem PySem.Spec PyProof.Rows L2
section
variable {X : Cx} {ca : Cs} {Φ : FT} {gs : List (Str × V)} {W : WX} {io : List Nat} {st : Stmt} {sts : List Stmt}
theorem kind_fn {k : ScopeKind} (h : (match k with | .function => true | _ => false) = true) : k = .function := by
  cases k <;> first
    | rfl
    | (cases h; done)
theorem swap_pair {x y : Str} {a b : Expr} {px py pt pt2 : Pos} {kt k2} {env : Env} (hk : env.scope.kind = .function) (hx : env.scope.names.lookup x = some .local) (hy : env.scope.names.lookup y = some .local) (hl : (py.line == px.line) = true) (hxy : x ≠ y)
    (pa : plain a = true) (pb : plain b = true) (hf : (foldedForSure 8 a && foldedForSure 8 b) = false) (hc : (constantsAlone 8 a && constantsAlone 8 b) = false) :
    swappedStores [.Tuple [.Name x px, .Name y py] kt pt] (.Tuple [a, b] k2 pt2) env = pure (some [x, y]) := by
  have kx : env.kindOf x = some .local := hx
  have ky : env.kindOf y = some .local := hy
  have hb : env.blockKind = .function := by unfold Env.blockKind; rw [hk]; rfl
  have sa : ([a, b].any fun e => match e with | .Starred .. => true | _ => false) = false := by
    have one : ∀ {e : Expr}, plain e = true → (match e with | .Starred .. => true | _ => false) = false := fun {e} h => by
      cases e <;> first
        | rfl
        | (unfold plain at h; cases h; done)
    rw [List.any_cons, one pa, List.any_cons, one pb] <;> rfl
  have hne : (x == y) = false := by simpa using hxy
  have hne2 : (y == x) = false := by simpa using Ne.symm hxy
  unfold swappedStores
  simp only [hb, kx, ky, sa, List.filterMap, Expr.pos, hl, beq_self_eq_true, Bool.true_and, List.length_cons, List.length_nil, List.all_cons, List.all_nil, Bool.and_true, hf, hc, List.head?_cons, Option.map_some, Option.getD_some]
  simp [hne, hne2, List.eraseDups_cons]
  intro h
  exfalso
  rcases h with h | h
  · cases a <;> first
      | (cases h; done)
      | (unfold plain at pa; cases pa; done)
  · cases b <;> first
      | (cases h; done)
      | (unfold plain at pb; cases pb; done)
theorem noLc {x : Expr} (h : isLc x = false) : ∀ a b c d, x ≠ .ListComp a b c d := fun a b c d z => by subst z; cases h
/-- the simple stores -/
theorem st_setx (G : Good X ca Φ gs W) {i : Nat} {ix e : T} {y : Str} {k v : Expr} {p1 p2 pos : Pos} (hn : visN (cOf X gs) i y = true) (h1 : PE X k (tE ca Φ W ix)) (h2 : PE X v (tE ca Φ W e)) (hk : plain k = true) (hp : plain v = true) (hl : isLc v = false) : PS X (.Assign [.Subscript (.Name y p1) k p2] v pos) (tS ca Φ W io (.setx i ix e)) := by
  have hu : X.A.units + 1 < cLine := by have := G.room.room.units; omega
  have hmv : PE X (.Name y p1) (tMv ca Φ W i) := snd_mv G hn
  refine psImp (ps_asg h2 (pg_sub hmv h1 (set_two hu) (fun w => by cases k <;> first | rfl | (unfold plain at hk; cases hk; done))) (by unfold swapsWithSole; exact swaps_no hp (noLc hl)) (by cases v <;> first | rfl | (unfold plain at hp; cases hp; done))) fun D σ H _ q => setx_read q
theorem mvT (G : Good X ca Φ gs W) {i : Nat} {y : Str} {p : Pos} (hn : visN (cOf X gs) i y = true) : PE X (.Name y p) (tMv ca Φ W i) := snd_mv G hn
theorem one_few {cpos : Pos} {e : Expr} {env : Env} (hp : plain e = true) : ((backTo cpos (starEach [e] env)).all (fun x => !x.1) && (backToKw cpos (keywordEach [] env)).all (fun x => x.1.isSome)
    && decide (([e] : List Expr).length + ([] : List Keyword).length + (if ([] : List Keyword).isEmpty then 0 else 1) < 30)) = true := few_ok (by unfold plains plains; rw [hp] <;> rfl) (by simp)
theorem st_app (G : Good X ca Φ gs W) {i : Nat} {e : T} {y : Str} {v : Expr} {p1 ap cp pos : Pos} (hn : visN (cOf X gs) i y = true) (h : PE X v (tE ca Φ W e)) (hp : plain v = true) (hl : (ap.endLine == cp.line) = true) : PS X (.Expr (.Call (.Attribute (.Name y p1) "append" ap) [v] [] cp) pos) (tS ca Φ W io (.app i e)) :=
  psImp (ps_expr (pe_bm PySem.F.plainAttrs_list PySem.F.slot_list_append PySem.F.type_list_append mt_append (mvT G hn) (pa_cons h pa_nil (star_plain hp)) rfl (one_few hp) hl (star_plain hp) rfl) rfl) fun D σ H _ q => app_read q
theorem st_ext (G : Good X ca Φ gs W) {i : Nat} {e : T} {y : Str} {v : Expr} {p1 ap cp pos : Pos} (hn : visN (cOf X gs) i y = true) (h : PE X v (tE ca Φ W e)) (hp : plain v = true) (hl : (ap.endLine == cp.line) = true) : PS X (.Expr (.Call (.Attribute (.Name y p1) "extend" ap) [v] [] cp) pos) (tS ca Φ W io (.ext i e)) :=
  psImp (ps_expr (pe_bm PySem.F.plainAttrs_list PySem.F.slot_list_extend PySem.F.type_list_extend mt_extend (mvT G hn) (pa_cons h pa_nil (star_plain hp)) rfl (one_few hp) hl (star_plain hp) rfl) rfl) fun D σ H _ q => ext_read q
theorem names_lt {is : List Nat} {es : List Expr} (h : mNames (cOf X gs) is es = true) : ∀ i, i ∈ is → i < X.N.length := by
  induction is generalizing es with
  | nil => exact fun i hi => nomatch hi
  | cons j is ih =>
    cases es with
    | nil => unfold mNames at h; cases h
    | cons e es =>
      cases e <;> first
        | (unfold mNames at h; cases h; done)
        | skip
      unfold mNames at h
      simp only [Bool.and_eq_true] at h
      intro i hi
      rcases List.mem_cons.mp hi with rfl | hi
      · exact (List.getElem?_eq_some_iff.mp (locN_ok h.1).1).1
      · exact ih h.2 i hi
theorem tg_lt {tg : Tg} {tx : Expr} (h : mTg (cOf X gs) tg tx = true) : ∀ i, i ∈ tgSlots tg → i < X.N.length := by
  cases tg with
  | nm i =>
    cases tx <;> first
      | (unfold mTg at h; cases h; done)
      | skip
    unfold mTg at h
    intro j hj
    have : j = i := by simpa [tgSlots] using hj
    rw [this]
    exact (List.getElem?_eq_some_iff.mp (locN_ok h).1).1
  | tp is =>
    cases tx <;> first
      | (unfold mTg at h; cases h; done)
      | skip
    unfold mTg at h
    exact names_lt h
theorem st_unp (G : Good X ca Φ gs W) {is : List Nat} {e : T} {ts : List Expr} {v : Expr} {k : Nat} {p1 pos : Pos} (hn : mNames (cOf X gs) is ts = true) (h : PE X v (tE ca Φ W e)) (hs : isSrc v = true) (hio : ∀ i, i ∈ is → i ∉ io) : PS X (.Assign [.Tuple ts k p1] v pos) (tS ca Φ W io (.unp is e)) := by
  have hg : PG X (.Tuple ts k p1) (gTg X.K (.tp is)) := by
    obtain ⟨g1, g2, g3⟩ := pgs_names G.nd hn
    exact pg_tup G.calm g1 g2 g3
  refine psImp (ps_asg h hg (by cases v <;> first | rfl | (unfold isSrc at hs; cases hs; done)) (by cases v <;> first | rfl | (unfold isSrc at hs; cases hs; done))) fun D σ H hσ q => unp_read (fun i hi => ⟨by rw [hσ]; exact names_lt hn i hi, hio i hi⟩) q
theorem st_par (G : Good X ca Φ gs W) {i j : Nat} {es : T} {x y : Str} {a b : Expr} {px py pt pt2 pos : Pos} {kt k2 : Nat} (hn : locN (cOf X gs) i x = true) (hm : locN (cOf X gs) j y = true) (hij : i ≠ j) (h : ArgOk X ca Φ W es [a, b]) (hp : plains [a, b] = true) (h1 : i ∉ io) (h2 : j ∉ io)
    (hk : parOk (cOf X gs) x y px py a b = true) : PS X (.Assign [.Tuple [.Name x px, .Name y py] kt pt] (.Tuple [a, b] k2 pt2) pos) (tS ca Φ W io (.par i j es)) := by
  obtain ⟨n1, _, _⟩ := locN_ok hn
  obtain ⟨m1, _, _⟩ := locN_ok hm
  obtain ⟨ts, pe, ar⟩ := h
  unfold parOk at hk
  simp only [Bool.and_eq_true, decide_eq_true_eq, Bool.not_eq_true'] at hk
  obtain ⟨⟨⟨⟨⟨l1, l2⟩, l3⟩, l4⟩, l5⟩, l6⟩ := hk
  have hxy : x ≠ y := fun z => by
    subst z
    exact hij ((List.getElem?_inj (List.getElem?_eq_some_iff.mp n1).1 G.nd).mp (n1.trans m1.symm))
  have lt1 := (List.getElem?_eq_some_iff.mp n1).1
  have lt2 := (List.getElem?_eq_some_iff.mp m1).1
  exact psImp (ps_par G.calm G.nd n1 m1 hij l1 l2 (pe.pa hp) (swap_pair (kind_fn l3) l1 l2 l4 hxy (plains_1 hp).1 (plains_1 (plains_1 hp).2).1 l5 l6)) fun D σ H hσ q => par_read ar (by rw [hσ]; exact lt1) (by rw [hσ]; exact lt2) h1 h2 hij q
theorem st_asgLc (G : Good X ca Φ gs W) {i : Nat} {y : Str} {own : List (Str × Nat)} {elt src cond : T} {tg : Tg} {e tx it : Expr} {ifs : List Expr} {scope : Scope} {p yp pos : Pos} (hn : locN (cOf X gs) i y = true) (hio : i ∉ io) (hlc : lcOk (cOf X gs) y yp (.ListComp e [⟨tx, it, ifs, 0⟩] scope p) = true)
    (hi : PI X tx it (tI ca Φ W src)) (ok : blkC X.N X.env.scope scope own = true)
    (hg : ∀ (s : Shared) (H : Hp) (C : Addr) (cl : List (Str × Addr)) (fp : List Addr), PG (X.blk s H scope (compEnvC scope cl C X.env) fp) tx (gTg X.K tg)) (ht : ∀ (s : Shared) (H : Hp) (C : Addr) (cl : List (Str × Addr)) (fp : List Addr), PTs (X.blk s H scope (compEnvC scope cl C X.env) fp) ifs (ttOf ca Φ cond))
    (he : ∀ (s : Shared) (H : Hp) (C : Addr) (cl : List (Str × Addr)) (fp : List Addr), PE (X.blk s H scope (compEnvC scope cl C X.env) fp) e (tE ca Φ W0 elt)) (hs : ∀ v, foldedSetIterable it X.env v = pure v) (htg : ∀ i, i ∈ tgSlots tg → i ∈ own.map (·.2)) :
    PS X (.Assign [.Name y yp] (.ListComp e [⟨tx, it, ifs, 0⟩] scope p) pos) (tS ca Φ W io (.asg i (.comp own elt tg src cond))) := by
  obtain ⟨n1, n2, n3⟩ := locN_ok hn
  unfold lcOk at hlc
  simp only [Bool.and_eq_true, decide_eq_true_eq, Bool.not_eq_true'] at hlc
  obtain ⟨⟨⟨l1, l2⟩, l3⟩, l4⟩ := hlc
  refine psImp (ps_setLc G.calm G.nd n1 l3 (sw_true (kind_fn l4) l3 l1 l2) hi (blkOk_by ok) hg ht he hs) fun D σ H hσ q => ?_
  have q1 := st_asgR (by rw [hσ]; exact (List.getElem?_eq_some_iff.mp n1).1) hio q
  exact comp_read (fun i hi => by rw [hσ]; exact own_lt ok i hi) htg q1
end
end FH
set_option Elab.async false
set_option linter.all false
set_option maxRecDepth 100000
set_option maxHeartbeats 2000000
namespace FH
open PySem PySem.Spec PyProof.Rows L2
section
variable {c : MC} {io : List Nat} {st : Stmt} {sts : List Stmt}
theorem mS_expr {e : T} (h : mS c io (.expr e) st = true) : ∃ x p, st = .Expr x p ∧ plain x = true ∧ mE c e x = true ∧ isLc x = false := by
  cases st <;> first
    | (unfold mS at h; cases h; done)
    | skip
  unfold mS at h
  simp only [Bool.and_eq_true, Bool.not_eq_true'] at h
  exact ⟨_, _, rfl, h.1.1, h.1.2, h.2⟩
theorem mS_asg {i : Nat} {e : T} (h : mS c io (.asg i e) st = true) : ∃ x xp y p, st = .Assign [.Name x xp] y p ∧ locN c i x = true ∧ plain y = true ∧ mE c e y = true ∧ i ∉ io ∧ lcOk c x xp y = true := by
  unfold mS at h
  split at h <;> first
    | contradiction
    | (cases h; done)
    | skip
  rename_i h0
  cases h0
  simp only [Bool.and_eq_true, decide_eq_true_eq] at h
  exact ⟨_, _, _, _, rfl, h.1.1.1.1, h.1.1.1.2, h.1.1.2, h.1.2, h.2⟩
theorem mS_unp {is : List Nat} {e : T} (h : mS c io (.unp is e) st = true) : ∃ ts k q y p, st = .Assign [.Tuple ts k q] y p ∧ mNames c is ts = true ∧ mE c e y = true ∧ (∀ i, i ∈ is → i ∉ io) ∧ isSrc y = true := by
  unfold mS at h
  split at h <;> first
    | contradiction
    | (cases h; done)
    | skip
  rename_i h0
  cases h0
  simp only [Bool.and_eq_true, decide_eq_true_eq] at h
  exact ⟨_, _, _, _, _, rfl, h.1.1.1, h.1.1.2, fun i hi => of_decide_eq_true (List.all_eq_true.mp h.1.2 i hi), h.2⟩
theorem mS_par {i j : Nat} {es : T} (h : mS c io (.par i j es) st = true) : ∃ x xp y yp k q a b k2 q2 p, st = .Assign [.Tuple [.Name x xp, .Name y yp] k q] (.Tuple [a, b] k2 q2) p ∧ locN c i x = true ∧ locN c j y = true ∧ i ≠ j ∧ mA c es [a, b] = true ∧ i ∉ io ∧ j ∉ io ∧ parOk c x y xp yp a b = true := by
  unfold mS at h
  split at h <;> first
    | contradiction
    | (cases h; done)
    | skip
  rename_i h0
  cases h0
  simp only [Bool.and_eq_true, decide_eq_true_eq] at h
  obtain ⟨⟨⟨⟨⟨⟨h1, h2⟩, h3⟩, h4⟩, h5⟩, h6⟩, h7⟩ := h
  exact ⟨_, _, _, _, _, _, _, _, _, _, _, rfl, h1, h2, h3, h4, h5, h6, h7⟩
theorem mS_setx {i : Nat} {ix e : T} (h : mS c io (.setx i ix e) st = true) : ∃ x xp k q y p, st = .Assign [.Subscript (.Name x xp) k q] y p ∧ visN c i x = true ∧ plain k = true ∧ plain y = true ∧ isLc y = false ∧ mE c ix k = true ∧ mE c e y = true := by
  unfold mS at h
  split at h <;> first
    | contradiction
    | (cases h; done)
    | skip
  rename_i h0
  cases h0
  simp only [Bool.and_eq_true, Bool.not_eq_true'] at h
  obtain ⟨⟨⟨⟨⟨h1, h2⟩, h3⟩, h4⟩, h5⟩, h6⟩ := h
  exact ⟨_, _, _, _, _, _, rfl, h1, h2, h3, h4, h5, h6⟩
theorem mS_app {i : Nat} {e : T} (h : mS c io (.app i e) st = true) : ∃ x xp ap y cp p, st = .Expr (.Call (.Attribute (.Name x xp) "append" ap) [y] [] cp) p ∧ visN c i x = true ∧ plain y = true ∧ (ap.endLine == cp.line) = true ∧ mE c e y = true := by
  unfold mS at h
  split at h <;> first
    | contradiction
    | (cases h; done)
    | skip
  rename_i h0
  cases h0
  simp only [Bool.and_eq_true, decide_eq_true_eq] at h
  obtain ⟨⟨⟨⟨h1, h2⟩, h3⟩, h4⟩, h5⟩ := h
  subst h3
  exact ⟨_, _, _, _, _, _, rfl, h1, h2, h4, h5⟩
theorem mS_ext {i : Nat} {e : T} (h : mS c io (.ext i e) st = true) : ∃ x xp ap y cp p, st = .Expr (.Call (.Attribute (.Name x xp) "extend" ap) [y] [] cp) p ∧ visN c i x = true ∧ plain y = true ∧ (ap.endLine == cp.line) = true ∧ mE c e y = true := by
  unfold mS at h
  split at h <;> first
    | contradiction
    | (cases h; done)
    | skip
  rename_i h0
  cases h0
  simp only [Bool.and_eq_true, decide_eq_true_eq] at h
  obtain ⟨⟨⟨⟨h1, h2⟩, h3⟩, h4⟩, h5⟩ := h
  subst h3
  exact ⟨_, _, _, _, _, _, rfl, h1, h2, h4, h5⟩
theorem mS_ifs {t : T} {a b : S} (h : mS c io (.ifs t a b) st = true) : ∃ x ys zs p, st = .If x ys zs p ∧ mE c t x = true ∧ mSs c io a ys = true ∧ mSs c io b zs = true := by
  cases st <;> first
    | (unfold mS at h; cases h; done)
    | skip
  unfold mS at h
  simp only [Bool.and_eq_true] at h
  exact ⟨_, _, _, _, rfl, h.1.1, h.1.2, h.2⟩
theorem mS_for {tg : Tg} {src : T} {body : S} (h : mS c io (.for tg src body) st = true) : ∃ tx it ys p, st = .For tx it ys [] p ∧ mI c src tx it = true ∧ mTg c tg tx = true ∧ (∀ i, i ∈ tgSlots tg → i ∉ io) ∧ mSs c io body ys = true := by
  unfold mS at h
  split at h <;> first
    | contradiction
    | (cases h; done)
    | skip
  rename_i h0
  cases h0
  simp only [Bool.and_eq_true] at h
  exact ⟨_, _, _, _, rfl, h.1.1.1, h.1.1.2, fun i hi => of_decide_eq_true (List.all_eq_true.mp h.1.2 i hi), h.2⟩
theorem mS_while {n : Nat} {t : T} {body : S} (h : mS c io (.while n t body) st = true) : ∃ x ys p, st = .While x ys [] p ∧ mE c t x = true ∧ mSs c io body ys = true := by
  unfold mS at h
  split at h <;> first
    | contradiction
    | (cases h; done)
    | skip
  rename_i h0
  cases h0
  simp only [Bool.and_eq_true] at h
  exact ⟨_, _, _, rfl, h.1, h.2⟩
theorem mS_ret {e : T} (h : mS c io (.ret e) st = true) : ∃ x p, st = .Return (some x) p ∧ mE c e x = true := by
  unfold mS at h
  split at h <;> first
    | contradiction
    | (cases h; done)
    | skip
  rename_i h0
  cases h0
  exact ⟨_, _, rfl, h⟩
theorem mS_ret0 (h : mS c io .ret0 st = true) : ∃ p, st = .Return none p := by
  cases st <;> first
    | (unfold mS at h; cases h; done)
    | skip
  rename_i v p
  cases v with
  | none => exact ⟨p, rfl⟩
  | some _ => unfold mS at h; cases h
theorem mS_brk (h : mS c io .brk st = true) : ∃ p, st = .Break p := by
  cases st <;> first
    | (unfold mS at h; cases h; done)
    | exact ⟨_, rfl⟩
theorem mS_cont (h : mS c io .cont st = true) : ∃ p, st = .Continue p := by
  cases st <;> first
    | (unfold mS at h; cases h; done)
    | exact ⟨_, rfl⟩
theorem mSs_nil (h : mSs c io .nil sts = true) : sts = [] := by
  cases sts with
  | nil => rfl
  | cons _ _ => unfold mSs at h; cases h
theorem mSs_seq {s r : S} (h : mSs c io (.seq s r) sts = true) : ∃ x xs, sts = x :: xs ∧ mS c io s x = true ∧ mSs c io r xs = true := by
  cases sts with
  | nil => unfold mSs at h; cases h
  | cons x xs =>
    unfold mSs at h
    simp only [Bool.and_eq_true] at h
    exact ⟨x, xs, rfl, h.1, h.2⟩
end
structure GoodS (X : Cx) (ca : Cs) (Φ : FT) (gs : List (Str × V)) (W : WX) : Prop where
  good : Good X ca Φ gs W
  po : PassesOwn (model X.prog X.w) X.A X.env X.xe
def isCompT : T → Bool
  | .comp _ _ _ _ _ => true
  | _ => false
section
variable {ca : Cs} {Φ : FT} {X : Cx} {gs : List (Str × V)} {W : WX}
theorem asg_all (hK : ca.K = X.K) (G : Good X ca Φ gs W) {io : List Nat} {i : Nat} {e : T} {st : Stmt} (h : mS (cOf X gs) io (.asg i e) st = true) : PS X st (tS ca Φ W io (.asg i e)) := by
  obtain ⟨x, xp, y, p, rfl, h1, h2, h3, h4, h5⟩ := mS_asg h
  by_cases hl : isLc y = true
  · by_cases hc : ∃ own elt tg src cond, e = .comp own elt tg src cond
    · obtain ⟨own, elt, tg, src, cond, rfl⟩ := hc
      obtain ⟨e', tx, it, ifs, scope, p', rfl, k1, k2, k3, k4, k5, k6⟩ := mE_comp h3
      refine st_asgLc G h1 h4 h5 ((snd_all ca Φ src).2.2 X gs W hK G tx it k1) k2 (fun s H C cl fp => pg_tg (G.blk s H scope C cl fp) k3) (fun s H C cl fp => ?_) (fun s H C cl fp => ((snd_all ca Φ elt).1 (X.blk s H scope (compEnvC scope cl C X.env) fp) gs W0 hK (G.blk s H scope C cl fp) e' k5).1) (mI_fold k1 X.env) k4
      rcases k6 with ⟨rfl, rfl⟩ | ⟨hc, y, rfl, k6⟩
      · exact pts_nil
      · have e2 : ttOf ca Φ cond = tT ca Φ W0 cond := by
          cases cond <;> first
            | rfl
            | exact absurd rfl hc
        rw [e2]
        exact pts_one ((snd_all ca Φ cond).1 (X.blk s H scope (compEnvC scope cl C X.env) fp) gs W0 hK (G.blk s H scope C cl fp) y k6).2.1
    · exfalso
      cases y <;> first
        | (cases hl; done)
        | skip
      cases e <;> first
        | exact hc ⟨_, _, _, _, _, rfl⟩
        | (unfold mE at h3; cases h3; done)
        | (obtain ⟨_, h, _⟩ := mE_prim h3; unfold mP at h; split at h <;> contradiction)
  · have hl' : isLc y = false := by simpa using hl
    exact st_asg G h1 h4 ((snd_all ca Φ e).1 X gs W hK G y h3).1 h2 (noLc hl')
theorem snd_st (hK : ca.K = X.K) (G : GoodS X ca Φ gs W) {io : List Nat} (s : S) : (∀ st, mS (cOf X gs) io s st = true → PS X st (tS ca Φ W io s)) ∧ ∀ sts, mSs (cOf X gs) io s sts = true → PSs X sts (tS ca Φ W io s) := by
  have E := fun (e : T) (x : Expr) (m : mE (cOf X gs) e x = true) => (snd_all ca Φ e).1 X gs W hK G.good x m
  induction s with
  | nil => exact ⟨fun st m => (by unfold mS at m; cases m), fun sts m => (by rw [mSs_nil m]; exact st_nil)⟩
  | seq s r ih1 ih2 =>
    refine ⟨fun st m => (by unfold mS at m; cases m), fun sts m => ?_⟩
    obtain ⟨x, xs, rfl, h1, h2⟩ := mSs_seq m
    exact st_seq (ih1.1 x h1) (ih2.2 xs h2)
  | dead => exact ⟨fun _ _ => st_dead1, fun _ _ => st_dead⟩
  | expr e =>
    refine ⟨fun st m => ?_, fun sts m => by cases sts <;> (unfold mSs at m; cases m)⟩
    obtain ⟨x, p, rfl, h1, h2, h3⟩ := mS_expr m
    exact st_expr (E e x h2).1 h1 (noLc h3)
  | asg i e => exact ⟨fun st m => asg_all hK G.good m, fun sts m => by cases sts <;> (unfold mSs at m; cases m)⟩
  | unp is e =>
    refine ⟨fun st m => ?_, fun sts m => by cases sts <;> (unfold mSs at m; cases m)⟩
    obtain ⟨ts, k, q, y, p, rfl, h1, h2, h3, h4⟩ := mS_unp m
    exact st_unp G.good h1 (E e y h2).1 h4 h3
  | par i j es =>
    refine ⟨fun st m => ?_, fun sts m => by cases sts <;> (unfold mSs at m; cases m)⟩
    obtain ⟨x, xp, y, yp, k, q, a, b, k2, q2, p, rfl, h1, h2, h3, h4, h5, h6, h7⟩ := mS_par m
    exact st_par G.good h1 h2 h3 ((snd_all ca Φ es).2.1 X gs W hK G.good _ h4) (plains_of h4) h5 h6 h7
  | setx i ix e =>
    refine ⟨fun st m => ?_, fun sts m => by cases sts <;> (unfold mSs at m; cases m)⟩
    obtain ⟨x, xp, k, q, y, p, rfl, h1, h2, h3, h4, h5, h6⟩ := mS_setx m
    exact st_setx G.good h1 (E ix k h5).1 (E e y h6).1 h2 h3 h4
  | app i e =>
    refine ⟨fun st m => ?_, fun sts m => by cases sts <;> (unfold mSs at m; cases m)⟩
    obtain ⟨x, xp, ap, y, cp, p, rfl, h1, h2, h3, h4⟩ := mS_app m
    exact st_app G.good h1 (E e y h4).1 h2 h3
  | ext i e =>
    refine ⟨fun st m => ?_, fun sts m => by cases sts <;> (unfold mSs at m; cases m)⟩
    obtain ⟨x, xp, ap, y, cp, p, rfl, h1, h2, h3, h4⟩ := mS_ext m
    exact st_ext G.good h1 (E e y h4).1 h2 h3
  | ifs t a b ih1 ih2 =>
    refine ⟨fun st m => ?_, fun sts m => by cases sts <;> (unfold mSs at m; cases m)⟩
    obtain ⟨x, ys, zs, p, rfl, h1, h2, h3⟩ := mS_ifs m
    exact st_if (E t x h1).2.1 (ih1.2 ys h2) (ih2.2 zs h3)
  | «for» tg src body ih =>
    refine ⟨fun st m => ?_, fun sts m => by cases sts <;> (unfold mSs at m; cases m)⟩
    obtain ⟨tx, it, ys, p, rfl, h1, h2, h3, h4⟩ := mS_for m
    exact psImp (ps_for G.po G.good.calm ((snd_all ca Φ src).2.2 X gs W hK G.good tx it h1) (pg_tg G.good h2) (ih.2 ys h4) (mI_fold h1 X.env)) fun D σ H hσ q => for_read (fun i hi => ⟨by rw [hσ]; exact tg_lt h2 i hi, h3 i hi⟩) q
  | «while» n t body ih =>
    refine ⟨fun st m => ?_, fun sts m => by cases sts <;> (unfold mSs at m; cases m)⟩
    obtain ⟨x, ys, p, rfl, h1, h2⟩ := mS_while m
    exact psImp (ps_while G.po (E t x h1).2.1 (ih.2 ys h2)) fun D σ H hσ q => while_read q
  | ret e =>
    refine ⟨fun st m => ?_, fun sts m => by cases sts <;> (unfold mSs at m; cases m)⟩
    obtain ⟨x, p, rfl, h1⟩ := mS_ret m
    exact st_ret (E e x h1).1
  | ret0 =>
    refine ⟨fun st m => ?_, fun sts m => by cases sts <;> (unfold mSs at m; cases m)⟩
    obtain ⟨p, rfl⟩ := mS_ret0 m
    exact st_ret0
  | brk =>
    refine ⟨fun st m => ?_, fun sts m => by cases sts <;> (unfold mSs at m; cases m)⟩
    obtain ⟨p, rfl⟩ := mS_brk m
    exact st_brk
  | cont =>
    refine ⟨fun st m => ?_, fun sts m => by cases sts <;> (unfold mSs at m; cases m)⟩
    obtain ⟨p, rfl⟩ := mS_cont m
    exact st_cont
end
end FH
set_option Elab.async false
set_option linter.all false
set_option maxRecDepth 100000
set_option maxHeartbeats 2000000
namespace FH
open PySem PySem.Spec PyProof.Rows L2
theorem RoomG.mono {j k : Nat} {A : Around} (r : RoomG k A) (h : j ≤ k) : RoomG j A := ⟨r.room.mono h, r.gd⟩
theorem RoomG.deeper {k : Nat} {A : Around} (r : RoomG (k + 1) A) (env : Env) : RoomG k (A.deeper env) := ⟨r.room.deeper env, r.gd⟩
theorem caller_room {k : Nat} (h : k ≤ 60) : RoomG k callerA := by
  have h1 : (1 + claimMargin + 3 * 60 + 5 : Nat) < recursionLimit := by decide +kernel
  have h2 : (4 + 16 * 60 + 200 : Nat) < cLine := by decide +kernel
  refine ⟨⟨rfl, ?_, ?_⟩, rfl⟩
  · show 1 + claimMargin + 3 * k + 5 < recursionLimit
    omega
  · show 4 + 16 * k + 200 < cLine
    omega
/-- a look at a def's scope -/
def scOk (N ps : List Str) (sc : Scope) : Bool :=
  (match sc.kind with | .function => true | _ => false) && (!sc.isCoroutine && !sc.isGenerator) && (decide N.Nodup && decide (N.take ps.length = ps)) &&
    ((ps.all fun x => match sc.names.lookup x with | some .local => true | some .cell => true | _ => false) && sc.names.all fun y => match y.2 with | .free => false | _ => true)
theorem scope_ok {N ps : List Str} {sc : Scope} (h : scOk N ps sc = true) : FnScope N ps sc := by
  unfold scOk at h
  simp only [Bool.and_eq_true, Bool.not_eq_true', decide_eq_true_eq, List.all_eq_true] at h
  obtain ⟨⟨⟨h1, h2, h3⟩, h4, h5⟩, h6, h7⟩ := h
  refine ⟨kind_fn h1, h2, h3, h4, h5, fun x hx => ?_, fun y hy z => ?_⟩
  · have q := h6 x hx
    cases e : sc.names.lookup x with
    | none => rw [e] at q; cases q
    | some k =>
      rw [e] at q
      cases k <;> first
        | exact .inl rfl
        | exact .inr rfl
        | (cases q; done)
  · have q := h7 y hy
    rw [z] at q
    cases q
section
variable {P : Program} {w : World} {K : PySem.W.Frag} {mg : Str → Option Value} {base : Heap} {ca : Cs} {Φ : FT} {gs : List (Str × V)}
/-- THE RULE: a def by its body, no guard around -/
theorem fnG_of {k : Nat} {f : Addr} {x qual : Str} {st : Stmt} {fd : FuncData} {N ps : List Str} {sp : Sp} (Fu : Fun K x qual st f fd) (S : FnScope N ps (defScope st)) (len : ∀ vs H Q E, sp vs H Q E → vs.length = ps.length)
    (body : ∀ (cdv : Value) (A : Around) (outer : List Env) (s : Shared) (H : Hp) (vs : List V) (Q : VK) (E : XK), RoomG k (A.deeper (envOfC qual (defScope st) s.heap.objs.size f cdv)) → sp vs H Q E →
      ∃ t, PSs (cxOf (L2.CX P w) P w K mg base N qual (defScope st) f cdv A outer s H E) (defBody st) t ∧ t { nx := fun _ H' => Q .non H', rt := Q } (L2.start N vs) H) : FnG P w K mg base (k + 1) f fd ps sp := by
  obtain ⟨oc, od, kV, doc, pm, an, cdv, ct, osl, rfl, look, code⟩ := Fu.ex
  refine ⟨len, ?_⟩
  intro A outer s H args us vs Q E room e0 bind rel promise
  have size := len _ _ _ _ promise
  have whole : K.In s.heap := e0.mod.kin.keeps fun b o y => (e0.bs b o y).1
  have noLim : s.heap.NoLimit := e0.mod.nolimit.keeps fun b o y => (e0.bs b o y).1
  have kinds : ∀ y ∈ ps.zip us, (defScope st).names.lookup y.1 = some .local ∨ ((defScope st).names.lookup y.1 = some .cell ∧ ((cellsFrom (s.heap.objs.size + 1) (defScope st).names []).lookup y.1).isSome = true) := by
    rintro ⟨n, v⟩ hy
    rcases S.par n (List.of_mem_zip hy).1 with z | z
    · exact .inl z
    · exact .inr ⟨z, PySem.W.cellsFrom_some _ _ _ (.inl z)⟩
  refine codeAny_call_function room.room.depth (whole _ _ look) rfl S.co S.gen rfl (PySem.W.codeRec_of whole code) (bind _ _ _ _ ?_)
  refine wpAny_newFunctionEnv_cells S.kind kinds ?_
  rintro env rfl s1 x1
  refine ⟨noLim.keeps x1.toInCall.keep, codeAny_func ?_⟩
  obtain ⟨t, run, goal⟩ := body cdv A outer s H vs Q E (room.deeper _) promise
  have J := inv_start (CX := L2.CX P w) (P := P) (w := w) (E := E) (cd := cdv) S room.room.hd e0 size rel x1
  refine wpAny_mono (run.run [] s1 (L2.start N vs) H _ J goal) (fun fl s2 done => ?_) fun e s2 y => y
  have ends : ∀ {σ2 : L2.St} {H2 : Hp} {v : V} {u : Value}, Inv (cxOf (L2.CX P w) P w K mg base N qual (defScope st) f cdv A outer s H E) [] σ2 H2 s2 → RelV v u → Q v H2 → L2.CE outer P w H s Q u s2 := by
    intro σ2 H2 v u I2 ru q
    exact ⟨v, H2, I2.os, I2.bare, I2.base, I2.hok, ru, q⟩
  cases fl with
  | ret u => obtain ⟨v, σ2, H2, I2, ru, q⟩ := done; exact ends I2 ru q
  | next => obtain ⟨σ2, H2, I2, q⟩ := done; exact ends (v := .non) (u := .none) I2 rfl q
  | brk => obtain ⟨_, _, _, q⟩ := done; exact q.elim
  | cont => obtain ⟨_, _, _, q⟩ := done; exact q.elim
/-- what a program's module gives at a base -/
structure Mdl (P : Program) (w : World) (K : PySem.W.Frag) (mg : Str → Option Value) (base : Heap) (ca : Cs) (Φ : FT) (gs : List (Str × V)) (k : Nat) : Prop where
  un : ∀ x, x ∈ bnames → mg x = none
  gv : ∀ p, p ∈ gs → ∃ u, mg p.1 = some u ∧ RelV p.2 u
  fn : ∀ x g, Φ x = some g → ∃ f fd ps, FnG P w K mg base k f fd ps (spD ca g) ∧ mg x = some (.ref f) ∧ PySem.W.keepIn K (.ref f) = true ∧ Binds K fd ps []
theorem FnG.mono {j k : Nat} {f : Addr} {fd : FuncData} {ps : List Str} {sp : Sp} (F : FnG P w K mg base j f fd ps sp) (h : j ≤ k) : FnG P w K mg base k f fd ps sp := ⟨F.len, fun A outer s H args us vs Q E hr => F.run A outer s H args us vs Q E (hr.mono h)⟩
theorem start_get {N : List Str} {vs : List V} {i : Nat} {v : V} (h : vs[i]? = some v) : (L2.start N vs)[i]? = some (some v) := by
  have hi := (List.getElem?_eq_some_iff.mp h).1
  unfold L2.start
  rw [List.getElem?_append_left (by rw [List.length_map]; exact hi), List.getElem?_map, h] <;> rfl
theorem env0_get {rs : List R} {n i : Nat} {r : R} (h : (rs.map some ++ List.replicate n (none : Option R))[i]? = some (some r)) : rs[i]? = some r := by
  by_cases hi : i < rs.length
  · rw [List.getElem?_append_left (by rw [List.length_map]; exact hi), List.getElem?_map] at h
    cases e : rs[i]? with
    | none => rw [e] at h; cases h
    | some q => rw [e] at h; exact congrArg some (Option.some.inj (Option.some.inj h))
  · rw [List.getElem?_append_right (by rw [List.length_map]; omega)] at h
    have := List.mem_of_getElem? h
    cases (List.eq_of_mem_replicate this)
theorem outs_get {io : List Nat} {n : Nat} {env : En} {j : Nat} {r : R} (h : (outsOf io n env)[j]? = some (some r)) : j < n ∧ j ∈ io ∧ env[j]? = some (some r) := by
  unfold outsOf at h
  rw [List.getElem?_map] at h
  by_cases hj : j < n
  · rw [List.getElem?_range hj] at h
    have h' : (if j ∈ io then env[j]?.join else none) = some r := Option.some.inj h
    split at h'
    · rename_i hio
      cases e : env[j]? with
      | none => rw [e] at h'; cases h'
      | some o => rw [e] at h'; exact ⟨hj, hio, congrArg some h'⟩
    · cases h'
  · rw [List.getElem?_eq_none (by rw [List.length_range]; omega)] at h
    cases h
/-- a def's promise from its fit -/
theorem fnG_run {k : Nat} {f : Addr} {x qual : Str} {st : Stmt} {fd : FuncData} {N ps : List Str} {io : List Nat} {body : S} (Fu : Fun K x qual st f fd) (S : FnScope N ps (defScope st)) (hK : ca.K = K) (m : Mdl P w K mg base ca Φ gs (k + 1))
    (fit : mSs ⟨N, defScope st, fun _ => true, gs⟩ io body (defBody st) = true) :
    FnG P w K mg base (k + 2) f fd ps (spD ca (fun rs => if rs.length = ps.length then runF Φ N.length io body rs else .no)) := by
  refine fnG_of Fu S (fun vs H Q E h => ?_) fun cdv A outer s H vs Q E room h => ?_
  · obtain ⟨F, O, rs, b, lo, rr, h⟩ := h
    rw [rr.length]
    by_cases e : rs.length = ps.length
    · exact e
    · simp only [if_neg e] at h
  · obtain ⟨F, O, rs, b, lo, rr, h⟩ := h
    by_cases e : rs.length = ps.length
    case neg => simp only [if_neg e] at h
    simp only [if_pos e] at h
    have good : GoodS (cxOf (L2.CX P w) P w K mg base N qual (defScope st) f cdv A outer s H E) ca Φ gs (fun cls d _ H' => E cls d H') :=
      ⟨⟨rfl, S.nd, room.mono (by omega), takes_of (X := cxOf (L2.CX P w) P w K mg base N qual (defScope st) f cdv A outer s H E) rfl rfl rfl rfl, m.un, m.gv, fun x g hx => by
        obtain ⟨fa, fd', ps', F1, h1, h2, h3⟩ := m.fn x g hx
        exact ⟨k + 1, fa, fd', ps', F1, room, h1, h2, h3⟩⟩, passes_of (X := cxOf (L2.CX P w) P w K mg base N qual (defScope st) f cdv A outer s H E) rfl⟩
    refine ⟨_, (snd_st hK good body).2 _ fit, F, O, rs.map some ++ List.replicate (N.length - rs.length) none, b.ae fun i r q => ?_, fun a j c z => ?_, ?_⟩
    · obtain ⟨v, v1, v2⟩ := rr.get (env0_get q)
      rw [Nat.zero_add] at v2
      exact ⟨v, start_get v1, v2⟩
    · obtain ⟨i, c', z'⟩ := lo a _ z
      cases z'
    · have e0 : runF Φ N.length io body rs = (ex Φ body (rs.map some ++ List.replicate (N.length - rs.length) none)).bind fun o => match o with
        | .rt r env => .ok (r, outsOf io rs.length env)
        | .nx env => .ok (.sh .non, outsOf io rs.length env)
        | _ => .no := rfl
      rw [e0] at h
      have outs : ∀ {env : En} {σ' : L2.St} {F' H' : Hp} {O' : Own}, Fx io (L2.start N vs) σ' → AE ca F' O' env σ' H' → ∀ j r', (outsOf io rs.length env)[j]? = some (some r') → ∃ v', vs[j]? = some v' ∧ RepR ca F' H' O' (.s j) r' v' := by
        intro env σ' F' H' O' fx ae j r' q
        obtain ⟨q1, q2, q3⟩ := outs_get q
        obtain ⟨v', w1, w2⟩ := ae.slot j r' q3
        rw [fx.2 j q2] at w1
        have hj : j < vs.length := by rw [rr.length]; exact q1
        have w3 := start_get (N := N) (List.getElem?_eq_getElem hj)
        rw [w1] at w3
        cases w3
        exact ⟨_, List.getElem?_eq_getElem hj, w2⟩
      cases eo : ex Φ body (rs.map some ++ List.replicate (N.length - rs.length) none) with
      | no => rw [eo] at h; exact h.elim
      | ex c d =>
        rw [eo] at h
        exact fun dx v n σ' F' O' H' fx st b' hx hr => h dx v n F' O' H' st b' hx hr
      | ok o =>
        rw [eo] at h
        cases o with
        | nx env => exact fun σ' F' O' H' fx st ae bl => h .non F' O' H' st ae.bs (by show Rep ca F' .non .non; unfold Rep; rfl) (outs fx ae)
        | rt r env => exact fun σ' F' O' H' fx st v ae rv bl => h v F' O' H' st ae.bs rv (outs fx ae)
        | bk env => exact h.elim
        | ct env => exact h.elim
end
end FH
set_option Elab.async false
set_option linter.all false
set_option maxRecDepth 100000
set_option maxHeartbeats 2000000
namespace FH
open PySem PySem.Spec PyProof.Rows L2
section
variable {P : Program} {w : World} {K : PySem.W.Frag} {mg mb : Str → Option Value} {k : Nat} {fa a : Addr} {fd : FuncData} {x : Str} {sp : Sp} {t : Shared} {vs : List Value} {ns : List Int}
/-- the end of the law's call, seen from an abstract heap with at most the script in it -/
theorem run_from (inK : K.In t.heap) (nG : t.heap.Ns mainGlobals mg) (nB : t.heap.Ns builtinsNs mb) (boot : ∀ x : Str, x ≠ "__name__" → mb x = bootBuiltins x) (noLim : t.heap.NoLimit) (bare : t.gens = #[])
    (at_a : t.heap.get? a = some { cls := .type "list", data := .seq vs.toArray }) (room : RoomG k callerA) (Fn : ∀ base : Heap, K.In base → base.Ns mainGlobals mg → FnG P w K mg base k fa fd [x] sp) (bnd : ∀ (s : Shared) (u : Value), BindsTo s fd ⟨[u], []⟩ [(x, u)])
    (H : Hp) (only : Only H) (hsp : sp [.ref a] H (fun v _ => v = .bl true) fun _ _ _ => False) (ok : HOk P w H t.heap) (one : ∀ b, H b ≠ none → b = a) (not : H a ≠ none → K.lookup a = none) :
    codeAny (model P w) callerA (.call (.ref fa) ⟨[.ref a], []⟩) (fun r s' => r = .ok (.ret (.bool true)) ∧ OldK t.heap s'.heap ∧ s'.os = t.os ∧ AllBare s'.gens) t := by
  -- a dict of the base is never the script
  have off : ∀ {b : Addr} {o : Obj} {es : Array DictEntry} {ep : Nat}, t.heap.get? b = some o → o.data = .dict es ep → H b = none := by
    intro b o es ep g1 g2
    by_cases n : H b = none
    · exact n
    · have z := one b n
      rw [z, at_a] at g1
      cases g1
      cases (show Data.seq vs.toArray _ = Data.dict es ep from g2)
  have space : ∀ {b : Addr} {m : Str → Option Value}, t.heap.Ns b m → (hidT t.heap H).Ns b m := by
    rintro b m ⟨o, es, ep, g1, g2, g3⟩
    exact ⟨o, es, ep, hidT_get g1 (off g1 g2), g2, g3⟩
  have inB : K.In (hidT t.heap H) := by
    intro b o g
    refine hidT_get (inK b o g) ?_
    by_cases n : H b = none
    · exact n
    · have z := one b n
      have y := not (by rw [← z]; exact n)
      rw [z, y] at g
      cases g
  have limB : (hidT t.heap H).NoLimit := by
    obtain ⟨mc, l1, l2⟩ := noLim
    exact ⟨mc, space l1, l2⟩
  have mod : Mod K mg (hidT t.heap H) := ⟨inB, space nG, ⟨mb, space nB, boot⟩, limB⟩
  have env : Env0 P w K mg (hidT t.heap H) callerA [] t H := ⟨rfl, mod, fun b o g => of_hidT g, Nat.le_of_eq (hidT_size _ _), trivial, fun b hb => (nomatch (show b ∈ ([] : List Addr) from hb)), ok, .of_eq bare⟩
  have go := (Fn _ inB (space nG)).run callerA [] t H ⟨[.ref a], []⟩ [.ref a] [.ref a] _ _ room env (bnd t (.ref a)) (.cons rfl .nil) hsp
  refine codeAny_mono go ?_
  intro r s' h
  match r, h with
  | .error e, h =>
    obtain ⟨_, _, _, _, _, _, _, _, _, _, _, _, z⟩ := h
    exact z.elim
  | .ok .next, h => exact h.elim
  | .ok .brk, h => exact h.elim
  | .ok .cont, h => exact h.elim
  | .ok (.ret u), h =>
    obtain ⟨v, H', os, bare', un, ok', ru, q⟩ := h
    have q' : v = .bl true := q
    rw [q'] at ru
    obtain rfl : u = Value.bool true := ru
    refine ⟨rfl, OldK.of_keep fun b o g => ?_, os, bare'⟩
    rcases only b with n | ⟨ob, xs, n⟩
    · exact un.keep b o g n (fun z => (nomatch (show b ∈ ([] : List Addr) from z))) (by simp)
    · obtain ⟨e1, _⟩ := ok b _ n
      obtain ⟨e2, _⟩ := ok' b _ (un.frzs b ob _ n)
      rw [g] at e1
      cases e1
      exact e2
theorem run_law (inK : K.In t.heap) (nG : t.heap.Ns mainGlobals mg) (nB : t.heap.Ns builtinsNs mb) (boot : ∀ x : Str, x ≠ "__name__" → mb x = bootBuiltins x) (noLim : t.heap.NoLimit) (bare : t.gens = #[])
    (at_a : t.heap.get? a = some { cls := .type "list", data := .seq vs.toArray }) (areI : IntsAre vs ns) (len : ns.length ≤ sizeLine) (room : RoomG k callerA) (Fn : ∀ base : Heap, K.In base → base.Ns mainGlobals mg → FnG P w K mg base k fa fd [x] sp)
    (bnd : ∀ (s : Shared) (u : Value), BindsTo s fd ⟨[u], []⟩ [(x, u)]) (hsp : ∀ H : Hp, Only H → SqL K H a (ns.map V.int) → sp [.ref a] H (fun v _ => v = .bl true) fun _ _ _ => False) :
    codeAny (model P w) callerA (.call (.ref fa) ⟨[.ref a], []⟩) (fun r s' => r = .ok (.ret (.bool true)) ∧ OldK t.heap s'.heap ∧ s'.os = t.os ∧ AllBare s'.gens) t := by
  have rv := vals_ints areI
  have lv := areI.length
  by_cases hk : K.lookup a = none
  · -- the one tracked thing is the script, frozen
    refine run_from inK nG nB boot noLim bare at_a room Fn bnd (fun b => if b = a then some (.frz { cls := .type "list", data := .seq vs.toArray } (.lst (ns.map V.int))) else none) (fun b => ?_) (hsp _ (fun b => ?_) (.inl (.inr ⟨{ cls := .type "list", data := .seq vs.toArray }, if_pos rfl⟩))) (fun b u z => ?_) (fun b z => ?_) fun _ => hk
    · by_cases hb : b = a
      · exact .inr ⟨_, _, if_pos hb⟩
      · exact .inl (if_neg hb)
    · by_cases hb : b = a
      · exact .inr ⟨_, _, if_pos hb⟩
      · exact .inl (if_neg hb)
    · by_cases hb : b = a
      · have y := (if_pos hb).symm.trans z
        cases y
        rw [hb]
        exact ⟨at_a, by rw [List.length_map]; exact len, vs, _, rv, at_a⟩
      · have y := (if_neg hb).symm.trans z
        cases y
    · by_cases hb : b = a
      · exact hb
      · exact absurd (if_neg hb) z
  · -- the script is an object of the module
    obtain ⟨o, ho⟩ := Option.ne_none_iff_exists'.mp hk
    have g := inK a o ho
    rw [at_a] at g
    cases g
    exact run_from inK nG nB boot noLim bare at_a room Fn bnd (fun _ => none) (fun _ => .inl rfl) (hsp _ (fun _ => .inl rfl) (.inr ⟨_, vs.toArray, _, ho, rfl, rfl, rfl, by rw [List.size_toArray, lv]; exact len, by simpa using rv⟩))
      (fun b u z => (nomatch (show (none : Option HO) = some u from z))) (fun b z => absurd rfl z) fun z => absurd rfl z
end
/-- what a law's head is to give -/
theorem walk_G {l : PySem.W.OpenLaw} {n k : Nat} {q : Program} {loose : List Str} {XP : (Str → Option Value) → Heap → Prop} {YP : World → Heap → Prop} {d : DefRec} {x : Str} (hn : l.most = some n) (hn2 : n ≤ sizeLine) (hdf : d.params.defaults = []) (hr : k ≤ 60)
    (F : ∀ (w : World) (mg : Str → Option Value) (fa : Addr) (h : Heap), YP w h → h.Ns mainGlobals mg → mg d.name = some (.ref fa) → ∃ (K : PySem.W.Frag) (fd : FuncData) (sp : Sp), K.In h ∧ (∀ (s : Shared) (u : Value), BindsTo s fd ⟨[u], []⟩ [(x, u)]) ∧
      (∀ (H : Hp) (a : Addr) (ns : List Int), ns.length ≤ n → Only H → SqL K H a (ns.map V.int) → sp [.ref a] H (fun v _ => v = .bl true) fun _ _ _ => False) ∧ ∀ base : Heap, K.In base → base.Ns mainGlobals mg → FnG l.prog w K mg base k fa fd [x] sp) :
    PySem.W.WalkO q loose XP YP l.row.toRowW d [] (fun f vs => PySem.call f vs) := by
  refine Att.attach_call hn hdf fun w s0 s1 mg mb fa o pm cd doc a vs ns G Y ho hd hcd hmg hobj hints hlen hg => ?_
  obtain ⟨K, fd, sp, inK, bnd, hsp, Fn⟩ := F w mg fa _ Y G.T.g hmg
  exact run_law inK G.T.g G.T.b G.T.builtins G.T.nolimit hg hobj hints (Nat.le_trans hlen hn2) (caller_room hr) Fn bnd fun H oH sH => hsp H a ns hlen oH sH
/-- the law's promise from what its def computes -/
theorem spD_law {ca : Cs} {g : Sem1} {K : PySem.W.Frag} {H : Hp} {a : Addr} {ns : List Int} (hK : ca.K = K) (only : Only H) (sq : SqL K H a (ns.map V.int)) (hg : ∃ outs, g [.sh (.scr ns)] = .ok (.sh (.bl true), outs)) : spD ca g [.ref a] H (fun v _ => v = .bl true) fun _ _ _ => False := by
  obtain ⟨outs, e⟩ := hg
  refine ⟨H, fun _ => none, [.sh (.scr ns)], ⟨.refl _, fun a l z => (nomatch z), fun a l z => (nomatch z)⟩, fun a l z => (nomatch z), ⟨_, [], rfl, ?_, rfl⟩, ?_⟩
  · show Rep ca H (.scr ns) (.ref a)
    unfold Rep
    exact ⟨a, rfl, by rw [hK]; exact sq⟩
  · rw [e]
    intro v F' O' H' st b rv ho
    have rv' : Rep ca F' (.bl true) v := rv
    unfold Rep at rv'
    exact rv'
end FH
set_option Elab.async false
set_option linter.all false
set_option maxRecDepth 100000
set_option maxHeartbeats 2000000
namespace FH
open PySem PySem.Spec PyProof.Rows L2
/-- m ends well, or raises as told -/
def OkM {α : Type} (m : M α) (Q : α → Prop) (X : Str → D → Prop) : Prop := match m with
  | .ok a => Q a
  | .ex c d => X c d
  | .no => False
section
variable {α β : Type} {m : M α} {f : α → M β} {X : Str → D → Prop}
theorem OkM.bind {Q : β → Prop} (h : OkM m (fun a => OkM (f a) Q X) X) : OkM (m.bind f) Q X := by
  cases m with
  | ok a => exact h
  | ex c d => exact h
  | no => exact h
theorem OkM.imp {Q Q' : α → Prop} (h : OkM m Q X) (i : ∀ a, Q a → Q' a) : OkM m Q' X := by
  cases m with
  | ok a => exact i a h
  | ex c d => exact h
  | no => exact h
theorem OkM.of {Q : α → Prop} {a : α} (e : m = .ok a) (q : Q a) : OkM m Q X := by rw [e]; exact q
end
theorem okIf {α : Type} {c : Prop} [Decidable c] {m m' : M α} {Q : α → Prop} {X : Str → D → Prop} (h : c) (q : OkM m Q X) : OkM (if c then m else m') Q X := by rw [if_pos h]; exact q
/-! ### operations by wishes -/
def wOk (m : M R) (K : R → Prop) : Prop := match m with
  | .ok r => K r
  | _ => False
def wOpt (o : Option D) (K : D → Prop) : Prop := ∃ d, o = some d ∧ K d
def wBo (o : Option Bool) (K : Bool → Prop) : Prop := ∃ b, o = some b ∧ K b
def wBin : Operator → D → D → (R → Prop) → Prop
  | .Add, .str a, .str b, K => a.length + b.length ≤ LIM ∧ K (.sh (.str (a ++ b)))
  | .Add, .lst _ xs, .lst _ ys, K => xs.length + ys.length ≤ LIM ∧ K (.ow (.lst none (xs ++ ys)))
  | .Mult, .int i, .int j, K => (small i || small j) = true ∧ K (.sh (.int (i * j)))
  | .Mult, .lst _ xs, .int j, K => (-1000000 ≤ j ∧ j ≤ 1000000 ∧ xs.length * j.toNat ≤ LIM) ∧ K (.ow (.lst none (List.replicate j.toNat xs).flatten))
  | .Mult, .str s, .int j, K => (-1000000 ≤ j ∧ j ≤ 1000000 ∧ s.length * j.toNat ≤ LIM) ∧ K (.sh (.str (strRep s j.toNat)))
  | .FloorDiv, .int i, .int j, K => (0 < j ∧ j < 1073741824) ∧ K (.sh (.int (i / j)))
  | .Mod, .int i, .int j, K => 0 < j ∧ K (.sh (.int (i % j)))
  | .Pow, .int i, .int j, K => (0 ≤ j ∧ j ≤ 1000000 ∧ i.natAbs < 2 ^ 64) ∧ K (.sh (.int (i ^ j.toNat)))
  | op, a, b, K => wOk (semBin op a b) K
theorem wOk_ok {m : M R} {K : R → Prop} {X : Str → D → Prop} (h : wOk m K) : OkM m K X := by
  cases m with
  | ok r => exact h
  | ex c d => exact h.elim
  | no => exact h.elim
theorem wBin_ok {op : Operator} {a b : D} {K : R → Prop} {X : Str → D → Prop} (h : wBin op a b K) : OkM (semBin op a b) K X := by
  unfold wBin at h
  split at h <;> first
    | exact wOk_ok h
    | (obtain ⟨h1, h2⟩ := h
       show OkM (if _ then _ else _) _ _
       rw [if_pos h1]
       exact h2)
def wCmp : CmpOp → D → D → (R → Prop) → Prop
  | .Eq, a, b, K => wBo (eqD a b) fun t => K (.sh (.bl t))
  | .NotEq, a, b, K => wBo (eqD a b) fun t => K (.sh (.bl (!t)))
  | .In, a, b, K => wBo (semIn a b) fun t => K (.sh (.bl t))
  | .NotIn, a, b, K => wBo (semIn a b) fun t => K (.sh (.bl (!t)))
  | op, a, b, K => wOk (semCmp op a b) K
theorem wCmp_ok {op : CmpOp} {a b : D} {K : R → Prop} {X : Str → D → Prop} (h : wCmp op a b K) : OkM (semCmp op a b) K X := by
  unfold wCmp at h
  split at h <;> first
    | exact wOk_ok h
    | (obtain ⟨t, e, q⟩ := h
       unfold semCmp
       simp only [e, mbo, Option.map_some]
       exact q)
def wIdx : D → D → (R → Prop) → Prop
  | .lst _ xs, .int i, K => wOpt (atI xs i) fun d => K (.sh d)
  | .scr ns, .int i, K => ∃ n, atI ns i = some n ∧ K (.sh (.int n))
  | .tup xs, .int i, K => wOpt (atI xs i) fun d => K (.sh d)
  | .str s, .int i, K => s.length ≤ LIM ∧ ∃ c, atI s.cps.toList i = some c ∧ K (.sh (.str ⟨#[c]⟩))
  | a, b, K => wOk (semIdx a b) K
theorem wIdx_ok {a b : D} {K : R → Prop} {X : Str → D → Prop} (h : wIdx a b K) : OkM (semIdx a b) K X := by
  unfold wIdx at h
  split at h
  · obtain ⟨d, e, q⟩ := h
    unfold semIdx
    simp only [e, mopt]
    exact q
  · obtain ⟨d, e, q⟩ := h
    unfold semIdx
    simp only [e, mopt, Option.map_some]
    exact q
  · obtain ⟨d, e, q⟩ := h
    unfold semIdx
    simp only [e, mopt]
    exact q
  · obtain ⟨hl, d, e, q⟩ := h
    refine okIf hl ?_
    unfold oneStr
    simp only [e, mopt, Option.map_some]
    exact q
  · exact wOk_ok h
def wSl (d : D) (lo hi : Option Int) (K : R → Prop) : Prop := match d with
  | .lst _ xs => K (.ow (.lst none (cutD xs lo hi)))
  | .str s => s.length ≤ LIM ∧ K (.sh (.str (cutS s lo hi)))
  | _ => False
theorem wSl_ok {d : D} {lo hi : Option Int} {K : R → Prop} {X : Str → D → Prop} (h : wSl d lo hi K) : OkM (semSl d lo hi) K X := by
  unfold wSl at h
  split at h
  · exact h
  · exact okIf h.1 h.2
  · exact h.elim
def wFn : Fn → List D → (R → Prop) → Prop
  | .len, [.str s], K => s.length ≤ LIM ∧ K (.sh (.int s.length))
  | .int, [.str s], K => ∃ n, PySem.intText? s = some n ∧ s.length ≤ 640 ∧ K (.sh (.int n))
  | .str, [.int i], K => i.natAbs.log2 < 1920 ∧ K (.sh (.str (toString i)))
  | .all, [.lst _ xs], K => ∃ bs, blsOf xs = some bs ∧ K (.sh (.bl (bs.all id)))
  | .any, [.lst _ xs], K => ∃ bs, blsOf xs = some bs ∧ K (.sh (.bl (bs.any id)))
  | .sum, [.lst _ xs], K => ∃ is, intsOf xs = some is ∧ K (.sh (.int is.sum))
  | .repr, [d], K => ∃ x, toPy d = some x ∧ (x.canLay0 && (x.showable && (decide (x.depth ≤ 40) && decide (x.shown.length ≤ LIM)))) = true ∧ K (.sh (.str x.shown))
  | f, ds, K => wOk (semFn f ds) K
theorem wFn_ok {f : Fn} {ds : List D} {K : R → Prop} {X : Str → D → Prop} (h : wFn f ds K) : OkM (semFn f ds) K X := by
  unfold wFn at h
  split at h
  · exact okIf h.1 h.2
  · obtain ⟨n, e, hl, q⟩ := h
    show OkM (semInt [.str _]) K X
    unfold semInt
    simp only [e]
    exact okIf hl q
  · exact okIf h.1 h.2
  · obtain ⟨n, e, q⟩ := h
    rename_i t xs
    show OkM (semAll [.lst t xs]) K X
    unfold semAll
    simp only [e]
    exact q
  · obtain ⟨n, e, q⟩ := h
    rename_i t xs
    show OkM (semAny [.lst t xs]) K X
    unfold semAny
    simp only [e]
    exact q
  · obtain ⟨n, e, q⟩ := h
    rename_i t xs
    show OkM (semSum [.lst t xs]) K X
    unfold semSum
    simp only [e]
    exact q
  · obtain ⟨n, e, hc, q⟩ := h
    show OkM (semRepr [_]) K X
    unfold semRepr
    simp only [e]
    exact okIf hc q
  · exact wOk_ok h
def wP : P → List D → (R → Prop) → Prop
  | .bin op, [a, b], K => wBin op a b K
  | .cmp op, [a, b], K => wCmp op a b K
  | .idx, [a, b], K => wIdx a b K
  | .sl true true, [d, .int i, .int j], K => wSl d (some i) (some j) K
  | .sl true false, [d, .int i], K => wSl d (some i) none K
  | .sl false true, [d, .int j], K => wSl d none (some j) K
  | .fn f, ds, K => wFn f ds K
  | p, ds, K => wOk (p.sem ds) K
theorem wP_ok {p : P} {ds : List D} {K : R → Prop} {X : Str → D → Prop} (h : wP p ds K) : OkM (p.sem ds) K X := by
  unfold wP at h
  split at h
  · exact wBin_ok h
  · exact wCmp_ok h
  · exact wIdx_ok h
  · exact wSl_ok h
  · exact wSl_ok h
  · exact wSl_ok h
  · exact wFn_ok h
  · exact wOk_ok h
def wMt : Mt → List D → (R → Prop) → Prop
  | .join, [.str z, .lst _ xs], K => ∃ ss, strsOf xs = some ss ∧ (ss.map (·.length)).sum + ss.length * z.length ≤ LIM ∧ K (.sh (.str (Txt.join z ss)))
  | m, ds, K => wOk (semMt m ds) K
theorem wMt_ok {m : Mt} {ds : List D} {K : R → Prop} {X : Str → D → Prop} (h : wMt m ds K) : OkM (semMt m ds) K X := by
  unfold wMt at h
  split at h
  · obtain ⟨n, e, hl, q⟩ := h
    rename_i z t xs
    show OkM (semJoin [.str z, .lst t xs]) K X
    unfold semJoin
    simp only [e]
    exact okIf hl q
  · exact wOk_ok h
/-! ### terms by wishes -/
def w1 (rs : List R) (K : R → Prop) : Prop := match rs with
  | [r] => K r
  | _ => False
def wB (r : R) (K : Bool → Prop) : Prop := match r with
  | .sh (.bl t) => K t
  | _ => False
def wGet (env : En) (i : Nat) (K : R → Prop) : Prop := match env[i]? with
  | some (some r) => K r
  | _ => False
def wRes (b : Bool) (K : Prop) : Prop := match b with
  | true => K
  | false => False
def wIf (t : Bool) (A B : Prop) : Prop := (t = true → A) ∧ (t = false → B)
def wTg (tg : Tg) (d : D) (env : En) (K : En → Prop) : Prop := match setT tg d env with
  | .ok e => K e
  | _ => False
def wSrc (o : Option (List D)) (K : List R → Prop) : Prop := ∃ xs, o = some xs ∧ xs.length ≤ LIM ∧ K [.sh (.lst none xs)]
def wRng (ds : List D) (K : List R → Prop) : Prop := match ds with
  | [.int n] => (-LIM ≤ n ∧ n ≤ LIM) ∧ K [.sh (.lst none (rngD 0 n))]
  | [.int a, .int b] => (-LIM ≤ a ∧ a ≤ LIM ∧ -LIM ≤ b ∧ b ≤ LIM ∧ b - a ≤ LIM) ∧ K [.sh (.lst none (rngD a b))]
  | _ => False
def wZip (ds : List D) (K : List R → Prop) : Prop := match ds with
  | [.lst _ xs, .lst _ ys] => xs.length ≤ LIM ∧ K [.sh (.lst none (zipD xs ys))]
  | _ => False
def wFt (o : Option Sem1) (K : Sem1 → Prop) : Prop := ∃ g, o = some g ∧ K g
def wCond : T → (En → (List R → En → Prop) → Prop) → En → (Bool → En → Prop) → Prop
  | .nil, _, env, K => K true env
  | _, f, env, K => f env fun z env3 => w1 z fun b => wB b fun t => K t env3
def wPair (o : Option (List (Key × D))) (K : R → Prop) : Prop := match o with
  | some kvs => K (.ow (.dic none (mergeD [] kvs)))
  | none => False
section
variable (Φ : FT)
def wE : T → (Str → D → Prop) → En → (List R → En → Prop) → Prop
  | .var i, X, env, Q => wGet env i fun r => Q [sh1 r] (env.set i (some (sh1 r)))
  | .mv i, X, env, Q => wGet env i fun r => Q [r] (env.set i none)
  | .lit v, X, env, Q => Q [.sh (dV v)] env
  | .glb _ v, X, env, Q => Q [.sh (dV v)] env
  | .nil, X, env, Q => Q [] env
  | .cons e es, X, env, Q => wE e X env fun a env1 => w1 a fun r => wE es X env1 fun rs env2 => Q (r :: rs) env2
  | .prim p es, X, env, Q => wE es X env fun rs env1 => wP p (rs.map R.d) fun r => wRes (okRes rs r) (Q [r] (backs (rs.map some) (bkOf es) env1))
  | .mth m e es, X, env, Q => wE e X env fun a env1 => w1 a fun r => wRes (m.okD r.d) (wE es X env1 fun rs env2 => wMt m (r.d :: rs.map R.d) fun q => wRes (okRes (r :: rs) q) (Q [q] (backs (some r :: rs.map some) (bkOf (.cons e es)) env2)))
  | .call f es, X, env, Q => wFt (Φ f) fun g => wE es X env fun rs env1 => OkM (g rs) (fun a => Q [a.1] (backs a.2 (bkOf es) env1)) X
  | .lst es, X, env, Q => wE es X env fun rs env1 => Q [.ow (.lst none (rs.map R.d))] env1
  | .tup es, X, env, Q => wE es X env fun rs env1 => Q [.tp (rs.map cmpOf)] env1
  | .dic es, X, env, Q => wE es X env fun rs env1 => wPair (pairD (rs.map R.d)) fun r => Q [r] env1
  | .one a, X, env, Q => wE a X env Q
  | .and a b, X, env, Q => wE a X env fun c env1 => w1 c fun r => wB r fun t => wIf t (wE b X env1 Q) (Q [.sh (.bl false)] env1)
  | .or a b, X, env, Q => wE a X env fun c env1 => w1 c fun r => wB r fun t => wIf t (Q [.sh (.bl true)] env1) (wE b X env1 Q)
  | .not a, X, env, Q => wE a X env fun c env1 => w1 c fun r => wB r fun t => Q [.sh (.bl (!t))] env1
  | .ite c a b, X, env, Q => wE c X env fun c env1 => w1 c fun r => wB r fun t => wIf t (wE a X env1 Q) (wE b X env1 Q)
  | .chain p q a b c, X, env, Q => wE a X env fun x env1 => w1 x fun ra => wE b X env1 fun y env2 => w1 y fun rb => wCmp p ra.d rb.d fun r => wB r fun t => wIf t (wE c X env2 fun z env3 => w1 z fun rc => wCmp q rb.d rc.d fun r2 => Q [r2] env3) (Q [.sh (.bl false)] env2)
  | .comp own elt tg src cond, X, env, Q => wE src X env fun x env1 => w1 x fun r => ∃ t xs, r = .sh (.lst t xs) ∧ xs.length ≤ LIM ∧ ∃ I : Nat → List D → En → Prop, I 0 [] (wipeE env1 (own.map (·.2))) ∧
      (∀ i d ys env, xs[i]? = some d → I i ys env → wTg tg d env fun env2 => wCond cond (wE cond (fun _ _ => False)) env2 fun t env3 => wIf t (wE elt (fun _ _ => False) env3 fun z env4 => w1 z fun y => I (i + 1) (ys ++ [y.d]) (wipeE env4 (own.map (·.2)))) (I (i + 1) ys (wipeE env3 (own.map (·.2))))) ∧
      ∀ ys env, I xs.length ys env → Q [.ow (.lst none ys)] (restore (own.map (·.2)) env1 env)
  | .sval e, X, env, Q => wE e X env fun x env1 => w1 x fun r => wSrc (itemsOf r.d) fun rs => Q rs env1
  | .srng es, X, env, Q => wE es X env fun rs env1 => wRng (rs.map R.d) fun a => Q a env1
  | .senum e, X, env, Q => wE e X env fun x env1 => w1 x fun r => wSrc ((enumOf r.d).map enumD) fun rs => Q rs env1
  | .szip es, X, env, Q => wE es X env fun rs env1 => wZip (rs.map R.d) fun a => Q a env1
end
section
variable {Φ : FT} {X : Str → D → Prop}
theorem w1_ok {m : M (List R × En)} {Q : List R → En → Prop} {K : R × En → Prop} (h : OkM m (fun a => Q a.1 a.2) X) (i : ∀ rs env, Q rs env → w1 rs fun r => K (r, env)) : OkM (one1 m) K X := by
  cases m with
  | ok a =>
    obtain ⟨rs, env⟩ := a
    have q := i rs env h
    unfold w1 at q
    match rs, q with
    | [r], q => exact q
  | ex c d => exact h
  | no => exact h
theorem wGet_ok {env : En} {i : Nat} {K : R → Prop} (h : wGet env i K) : OkM (getS env i) K X := by
  unfold wGet at h
  cases e : env[i]? with
  | none => rw [e] at h; exact h.elim
  | some o => cases o with
    | none => rw [e] at h; exact h.elim
    | some r =>
      rw [e] at h
      rw [getS_ok e]
      exact h
theorem wRes_ok {b : Bool} {K : Prop} (h : wRes b K) : b = true ∧ K := by
  cases b with
  | true => exact ⟨rfl, h⟩
  | false => exact h.elim
theorem wB_ok {r : R} {K : Bool → Prop} (h : wB r K) : OkM (asB r) K X := by
  unfold wB at h
  unfold asB
  split at h
  · exact h
  · exact h.elim
theorem wSrc_ok {xs : List D} {env : En} {K : List R → Prop} (h : xs.length ≤ LIM ∧ K [.sh (.lst none xs)]) : OkM (srcR xs env) (fun a => K a.1 ∧ a.2 = env) X := by
  unfold srcR
  rw [if_pos h.1]
  exact ⟨h.2, rfl⟩
theorem wIf_ok {t : Bool} {A B : Prop} (h : wIf t A B) : if t = true then A else B := by
  cases t with
  | true => exact h.1 rfl
  | false => exact h.2 rfl
theorem compL_ok {f : D → En → M (Option D × En)} {I : Nat → List D → En → Prop} {xs : List D} (hs : ∀ i d ys env, xs[i]? = some d → I i ys env → OkM (f d env) (fun a => I (i + 1) (ys ++ a.1.toList) a.2) fun _ _ => False) :
    ∀ (n : Nat) (ys : List D) (env : En), n ≤ xs.length → I n ys env → OkM (compL f (xs.drop n) env) (fun a => I xs.length (ys ++ a.1) a.2) X := by
  intro n ys env hn h
  generalize hm : xs.length - n = m
  induction m generalizing n ys env with
  | zero =>
    have e : n = xs.length := by omega
    subst e
    rw [List.drop_eq_nil_of_le (Nat.le_refl _)]
    show I xs.length (ys ++ []) env
    rw [List.append_nil]
    exact h
  | succ m ih =>
    have hlt : n < xs.length := by omega
    rw [List.drop_eq_getElem_cons hlt]
    have h1 := hs n xs[n] ys env (List.getElem?_eq_getElem hlt) h
    show OkM ((f xs[n] env).bind fun a => (compL f (xs.drop (n + 1)) a.2).bind fun b => .ok (a.1.toList ++ b.1, b.2)) _ X
    cases e : f xs[n] env with
    | no => rw [e] at h1; exact h1.elim
    | ex c d => rw [e] at h1; exact h1.elim
    | ok a =>
      rw [e] at h1
      show OkM ((compL f (xs.drop (n + 1)) a.2).bind fun b => .ok (a.1.toList ++ b.1, b.2)) _ X
      refine OkM.bind (OkM.imp (ih (n + 1) (ys ++ a.1.toList) a.2 (by omega) h1 (by omega)) fun b q => ?_)
      show I xs.length (ys ++ (a.1.toList ++ b.1)) b.2
      rw [← List.append_assoc]
      exact q
theorem noex_okM {α : Type} {m : M α} {Q : α → Prop} (h : OkM m Q fun _ _ => False) : OkM m.noex Q fun _ _ => False := by
  cases m with
  | ok a => exact h
  | ex c d => exact h.elim
  | no => exact h.elim
end
end FH
set_option Elab.async false
set_option linter.all false
set_option maxRecDepth 100000
set_option maxHeartbeats 2000000
namespace FH
open PySem PySem.Spec PyProof.Rows L2
section
variable {Φ : FT}
theorem wE_ok (e : T) : ∀ (X : Str → D → Prop) (env : En) (Q : List R → En → Prop), wE Φ e X env Q → OkM (ev Φ e env) (fun a => Q a.1 a.2) X := by
  induction e with
  | var i =>
    intro X env Q h
    have h' : wGet env i fun r => Q [sh1 r] (env.set i (some (sh1 r))) := h
    exact OkM.bind (m := getS env i) (wGet_ok h')
  | mv i =>
    intro X env Q h
    have h' : wGet env i fun r => Q [r] (env.set i none) := h
    exact OkM.bind (m := getS env i) (wGet_ok h')
  | lit v => intro X env Q h; exact h
  | glb y v => intro X env Q h; exact h
  | nil => intro X env Q h; exact h
  | cons e es ih1 ih2 =>
    intro X env Q h
    refine OkM.bind (m := one1 (ev Φ e env)) (w1_ok (ih1 X env _ h) fun rs env1 q => ?_)
    unfold w1 at q ⊢
    split at q
    · exact OkM.bind (ih2 X env1 _ q)
    · exact q.elim
  | prim p es ih =>
    intro X env Q h
    refine OkM.bind (m := ev Φ es env) (OkM.imp (ih X env _ h) fun a q => ?_)
    refine OkM.bind (OkM.imp (wP_ok q) fun r q2 => ?_)
    obtain ⟨q3, q4⟩ := wRes_ok q2
    exact okIf q3 q4
  | mth m e es ih1 ih2 =>
    intro X env Q h
    refine OkM.bind (m := one1 (ev Φ e env)) (w1_ok (ih1 X env _ h) fun rs env1 q => ?_)
    unfold w1 at q ⊢
    split at q
    · obtain ⟨q1, q2⟩ := wRes_ok q
      refine okIf q1 (OkM.bind (OkM.imp (ih2 X env1 _ q2) fun b q3 => ?_))
      refine OkM.bind (OkM.imp (wMt_ok q3) fun r q4 => ?_)
      obtain ⟨q5, q6⟩ := wRes_ok q4
      exact okIf q5 q6
    · exact q.elim
  | call f es ih =>
    intro X env Q h
    have e0 : ev Φ (.call f es) env = (match Φ f with
      | some g => (ev Φ es env).bind fun a => (g a.1).bind fun b => .ok ([b.1], backs b.2 (bkOf es) a.2)
      | none => .no) := rfl
    rw [e0]
    obtain ⟨g, eg, h'⟩ := h
    simp only [eg]
    exact OkM.bind (OkM.imp (ih X env _ h') fun a q => OkM.bind q)
  | lst es ih =>
    intro X env Q h
    exact OkM.bind (m := ev Φ es env) (ih X env _ h)
  | tup es ih =>
    intro X env Q h
    exact OkM.bind (m := ev Φ es env) (ih X env _ h)
  | dic es ih =>
    intro X env Q h
    refine OkM.bind (m := ev Φ es env) (OkM.imp (ih X env _ h) fun a q => ?_)
    unfold wPair at q
    split at q
    · rename_i e
      simp only [e]
      exact q
    · exact q.elim
  | one a ih => intro X env Q h; exact ih X env Q h
  | and a b ih1 ih2 =>
    intro X env Q h
    refine OkM.bind (m := one1 (ev Φ a env)) (w1_ok (ih1 X env _ h) fun rs env1 q => ?_)
    unfold w1 at q ⊢
    split at q
    · refine OkM.bind (OkM.imp (wB_ok q) fun t q2 => ?_)
      cases t with
      | true => exact ih2 X env1 _ (q2.1 rfl)
      | false => exact q2.2 rfl
    · exact q.elim
  | or a b ih1 ih2 =>
    intro X env Q h
    refine OkM.bind (m := one1 (ev Φ a env)) (w1_ok (ih1 X env _ h) fun rs env1 q => ?_)
    unfold w1 at q ⊢
    split at q
    · refine OkM.bind (OkM.imp (wB_ok q) fun t q2 => ?_)
      cases t with
      | true => exact q2.1 rfl
      | false => exact ih2 X env1 _ (q2.2 rfl)
    · exact q.elim
  | not a ih =>
    intro X env Q h
    refine OkM.bind (m := one1 (ev Φ a env)) (w1_ok (ih X env _ h) fun rs env1 q => ?_)
    unfold w1 at q ⊢
    split at q
    · exact OkM.bind (OkM.imp (wB_ok q) fun t q2 => q2)
    · exact q.elim
  | ite c a b ih1 ih2 ih3 =>
    intro X env Q h
    refine OkM.bind (m := one1 (ev Φ c env)) (w1_ok (ih1 X env _ h) fun rs env1 q => ?_)
    unfold w1 at q ⊢
    split at q
    · refine OkM.bind (OkM.imp (wB_ok q) fun t q2 => ?_)
      cases t with
      | true => exact ih2 X env1 _ (q2.1 rfl)
      | false => exact ih3 X env1 _ (q2.2 rfl)
    · exact q.elim
  | chain p q a b c ih1 ih2 ih3 =>
    intro X env Q h
    refine OkM.bind (m := one1 (ev Φ a env)) (w1_ok (ih1 X env _ h) fun rs env1 w => ?_)
    unfold w1 at w ⊢
    split at w
    · refine OkM.bind (m := one1 (ev Φ b env1)) (w1_ok (ih2 X env1 _ w) fun rs2 env2 w2 => ?_)
      unfold w1 at w2 ⊢
      split at w2
      · refine OkM.bind (OkM.imp (wCmp_ok w2) fun r w3 => OkM.bind (OkM.imp (wB_ok w3) fun t w4 => ?_))
        cases t with
        | false => exact w4.2 rfl
        | true =>
          refine OkM.bind (m := one1 (ev Φ c env2)) (w1_ok (ih3 X env2 _ (w4.1 rfl)) fun rs3 env3 w5 => ?_)
          unfold w1 at w5 ⊢
          split at w5
          · exact OkM.bind (OkM.imp (wCmp_ok w5) fun r2 w6 => w6)
          · exact w5.elim
      · exact w2.elim
    · exact w.elim
  | comp own elt tg src cond ih1 ih2 ih3 =>
    intro X env Q h
    refine OkM.bind (m := one1 (ev Φ src env)) (w1_ok (ih2 X env _ h) fun rs env1 q => ?_)
    unfold w1 at q ⊢
    split at q
    case h_2 => exact q.elim
    obtain ⟨t, xs, rfl, hl, I, i0, step, fin⟩ := q
    have key := compL_ok (X := X) (f := fun x env => (compB Φ (own.map (·.2)) tg elt cond x env).noex) (I := I) (xs := xs) (fun i d ys env e hI => ?_) 0 [] _ (Nat.zero_le _) i0
    · rw [List.drop_zero] at key
      exact okIf hl (OkM.bind (OkM.imp key fun b w => fin _ _ (by simpa using w)))
    · refine noex_okM ?_
      have st := step i d ys env e hI
      unfold wTg at st
      unfold compB
      cases es : setT tg d env with
      | no => rw [es] at st; exact st.elim
      | ex c e => rw [es] at st; exact st.elim
      | ok env2 =>
        rw [es] at st
        show OkM ((condM cond (ev Φ cond) env2).bind _) _ _
        refine OkM.bind ?_
        have last : ∀ env3, wE Φ elt (fun _ _ => False) env3 (fun z env4 => w1 z fun y => I (i + 1) (ys ++ [y.d]) (wipeE env4 (own.map (·.2)))) → OkM ((one1 (ev Φ elt env3)).bind fun b => (.ok (some b.1.d, wipeE b.2 (own.map (·.2))) : M (Option D × En))) (fun a => I (i + 1) (ys ++ a.1.toList) a.2) fun _ _ => False := fun env3 w =>
          OkM.bind (w1_ok (ih1 _ env3 _ w) fun rs env4 z => z)
        have two : ∀ (t : Bool) (env3 : En), wIf t (wE Φ elt (fun _ _ => False) env3 fun z env4 => w1 z fun y => I (i + 1) (ys ++ [y.d]) (wipeE env4 (own.map (·.2)))) (I (i + 1) ys (wipeE env3 (own.map (·.2)))) →
            OkM (if t = true then (one1 (ev Φ elt env3)).bind fun b => (.ok (some b.1.d, wipeE b.2 (own.map (·.2))) : M (Option D × En)) else .ok (none, wipeE env3 (own.map (·.2)))) (fun a => I (i + 1) (ys ++ a.1.toList) a.2) fun _ _ => False := fun t env3 z2 => by
          cases t with
          | true => exact last env3 (z2.1 rfl)
          | false =>
            show I (i + 1) (ys ++ []) _
            rw [List.append_nil]
            exact z2.2 rfl
        by_cases hc : cond = .nil
        · subst hc
          exact two true env2 st
        · have st' : wE Φ cond (fun _ _ => False) env2 fun z env3 => w1 z fun b => wB b fun t => wIf t (wE Φ elt (fun _ _ => False) env3 fun z env4 => w1 z fun y => I (i + 1) (ys ++ [y.d]) (wipeE env4 (own.map (·.2)))) (I (i + 1) ys (wipeE env3 (own.map (·.2)))) := by
            cases cond <;> first
              | exact st
              | exact absurd rfl hc
          have e2 : condM cond (ev Φ cond) env2 = evB Φ cond env2 := by
            cases cond <;> first
              | rfl
              | exact absurd rfl hc
          rw [e2]
          refine OkM.bind (m := one1 (ev Φ cond env2)) (w1_ok (ih3 _ env2 _ st') fun rs env3 z => ?_)
          unfold w1 at z ⊢
          split at z
          case h_2 => exact z.elim
          exact OkM.bind (OkM.imp (wB_ok z) fun t z2 => two t env3 z2)
  | sval e ih =>
    intro X env Q h
    refine OkM.bind (m := one1 (ev Φ e env)) (w1_ok (ih X env _ h) fun rs env1 q => ?_)
    unfold w1 at q ⊢
    split at q
    · obtain ⟨xs, e1, e2, e3⟩ := q
      simp only [e1]
      exact OkM.imp (wSrc_ok (K := fun a => Q a env1) ⟨e2, e3⟩) fun a w => by rw [w.2]; exact w.1
    · exact q.elim
  | srng es ih =>
    intro X env Q h
    refine OkM.bind (m := ev Φ es env) (OkM.imp (ih X env _ h) fun a q => ?_)
    have e0 : ∀ ds : List D, wRng ds (fun b => Q b a.2) → OkM (match ds with
      | [.int n] => if -LIM ≤ n ∧ n ≤ LIM then srcR (rngD 0 n) a.2 else .no
      | [.int a', .int b] => if -LIM ≤ a' ∧ a' ≤ LIM ∧ -LIM ≤ b ∧ b ≤ LIM then srcR (rngD a' b) a.2 else .no
      | _ => .no) (fun a => Q a.1 a.2) X := by
      intro ds w
      unfold wRng at w
      split at w
      · refine okIf w.1 (OkM.imp (wSrc_ok (K := fun b => Q b a.2) ⟨?_, w.2⟩) fun b z => by rw [z.2]; exact z.1)
        have := w.1
        unfold rngD
        simp
        omega
      · refine okIf ⟨w.1.1, w.1.2.1, w.1.2.2.1, w.1.2.2.2.1⟩ (OkM.imp (wSrc_ok (K := fun b => Q b a.2) ⟨?_, w.2⟩) fun b z => by rw [z.2]; exact z.1)
        have := w.1
        unfold rngD
        simp
        omega
      · exact w.elim
    exact e0 _ q
  | senum e ih =>
    intro X env Q h
    refine OkM.bind (m := one1 (ev Φ e env)) (w1_ok (ih X env _ h) fun rs env1 q => ?_)
    unfold w1 at q ⊢
    split at q
    · obtain ⟨xs, e1, e2, e3⟩ := q
      rename_i r
      cases e4 : enumOf r.d with
      | none => rw [e4] at e1; cases e1
      | some ys =>
        rw [e4] at e1
        cases e1
        simp only [e4]
        exact OkM.imp (wSrc_ok (K := fun a => Q a env1) ⟨e2, e3⟩) fun a w => by rw [w.2]; exact w.1
    · exact q.elim
  | szip es ih =>
    intro X env Q h
    refine OkM.bind (m := ev Φ es env) (OkM.imp (ih X env _ h) fun a q => ?_)
    have e0 : ∀ ds : List D, wZip ds (fun b => Q b a.2) → OkM (match ds with
      | [a', b] => (match lstOf a', lstOf b with
        | some xs, some ys => srcR (zipD xs ys) a.2
        | _, _ => .no)
      | _ => .no) (fun a => Q a.1 a.2) X := by
      intro ds w
      unfold wZip at w
      split at w
      · refine OkM.imp (wSrc_ok (K := fun b => Q b a.2) ⟨?_, w.2⟩) fun b z => by rw [z.2]; exact z.1
        have := w.1
        unfold zipD
        rw [List.length_map, List.length_zip]
        omega
      · exact w.elim
    exact e0 _ q
end
end FH
set_option Elab.async false
set_option linter.all false
set_option maxRecDepth 100000
set_option maxHeartbeats 2000000
namespace FH
open PySem PySem.Spec PyProof.Rows L2
def wNx (o : Out) (K : En → Prop) (Q : Out → Prop) : Prop := match o with
  | .nx e => K e
  | o => Q o
def wLoop (o : Out) (K : En → Prop) (Q : Out → Prop) : Prop := match o with
  | .nx e => K e
  | .ct e => K e
  | .bk e => Q (.nx e)
  | .rt r e => Q (.rt r e)
def w2 (rs : List R) (K : R → R → Prop) : Prop := match rs with
  | [r, q] => K r q
  | _ => False
def wUn (o : Option (List R)) (K : List R → Prop) : Prop := match o with
  | some rs => K rs
  | none => False
def wSet (m : M En) (K : En → Prop) : Prop := match m with
  | .ok e => K e
  | _ => False
def wSetO (o : Option R) (K : R → Prop) : Prop := ∃ r, o = some r ∧ K r
def wLst (o : R) (K : Option Addr → List D → Prop) : Prop := match o with
  | .ow (.lst t xs) => K t xs
  | _ => False
def wLd (d : D) (K : List D → Prop) : Prop := match d with
  | .lst _ ys => K ys
  | _ => False
section
variable (Φ : FT)
def wS : S → (Str → D → Prop) → En → (Out → Prop) → Prop
  | .nil, X, env, Q => Q (.nx env)
  | .seq s r, X, env, Q => wS s X env fun o => wNx o (fun e => wS r X e Q) Q
  | .expr e, X, env, Q => wE Φ e X env fun a env1 => w1 a fun _ => Q (.nx env1)
  | .asg i e, X, env, Q => wE Φ e X env fun a env1 => w1 a fun r => Q (.nx (env1.set i (some r)))
  | .unp is e, X, env, Q => wE Φ e X env fun a env1 => w1 a fun r => wUn (unR r) fun rs => wSet (setRs is rs env1) fun env2 => Q (.nx env2)
  | .par i j es, X, env, Q => wE Φ es X env fun rs env1 => w2 rs fun r q => Q (.nx ((env1.set i (some r)).set j (some q)))
  | .setx i ix e, X, env, Q => wE Φ e X env fun a env1 => w1 a fun r => wGet env1 i fun o => wE Φ ix X (env1.set i none) fun b env2 => w1 b fun k => wSetO (setO o k.d r.d) fun o' => Q (.nx (env2.set i (some o')))
  | .app i e, X, env, Q => wGet env i fun o => wLst o fun t xs => wE Φ e X (env.set i none) fun b env1 => w1 b fun r => xs.length ≤ LIM ∧ Q (.nx (env1.set i (some (.ow (.lst t (xs ++ [r.d]))))))
  | .ext i e, X, env, Q => wGet env i fun o => wLst o fun t xs => wE Φ e X (env.set i none) fun b env1 => w1 b fun r => wLd r.d fun ys => xs.length + ys.length ≤ LIM ∧ Q (.nx (env1.set i (some (.ow (.lst t (xs ++ ys))))))
  | .ifs c a b, X, env, Q => wE Φ c X env fun z env1 => w1 z fun r => wB r fun t => wIf t (wS a X env1 Q) (wS b X env1 Q)
  | .for tg src body, X, env, Q => wE Φ src X env fun z env1 => w1 z fun r => ∃ t xs, r = .sh (.lst t xs) ∧ ∃ I : Nat → En → Prop, I 0 env1 ∧ (∀ i d env, xs[i]? = some d → I i env → wTg tg d env fun env2 => wS body X env2 fun o => wLoop o (I (i + 1)) Q) ∧ ∀ env, I xs.length env → Q (.nx env)
  | .while n c body, X, env, Q => ∃ I : Nat → En → Prop, I n env ∧ ∀ m env, I m env → ∃ m', m = m' + 1 ∧ wE Φ c X env fun z env1 => w1 z fun r => wB r fun t => wIf t (wS body X env1 fun o => wLoop o (I m') Q) (Q (.nx env1))
  | .ret e, X, env, Q => wE Φ e X env fun a env1 => w1 a fun r => Q (.rt r env1)
  | .ret0, X, env, Q => Q (.rt (.sh .non) env)
  | .brk, X, env, Q => Q (.bk env)
  | .cont, X, env, Q => Q (.ct env)
  | .dead, X, env, Q => False
end
section
variable {Φ : FT} {X : Str → D → Prop}
theorem wE1_ok {e : T} {env : En} {K : R × En → Prop} (h : wE Φ e X env fun a env1 => w1 a fun r => K (r, env1)) : OkM (one1 (ev Φ e env)) K X := w1_ok (wE_ok e X env _ h) fun rs env1 q => q
theorem loop_ok {α : Type} {o : Out} {K : En → Prop} {Q : Out → Prop} {f : En → M Out} (h : wLoop o K Q) (i : ∀ e, K e → OkM (f e) Q X) : OkM (match o with
    | .nx e => f e
    | .ct e => f e
    | .bk e => .ok (.nx e)
    | .rt r e => .ok (.rt r e)) Q X := by
  cases o with
  | nx e => exact i e h
  | ct e => exact i e h
  | bk e => exact h
  | rt r e => exact h
theorem exL_ok {f : D → En → M Out} {I : Nat → En → Prop} {Q : Out → Prop} {xs : List D} (hs : ∀ i d env, xs[i]? = some d → I i env → OkM (f d env) (fun o => wLoop o (I (i + 1)) Q) X) (fin : ∀ env, I xs.length env → Q (.nx env)) :
    ∀ (n : Nat) (env : En), n ≤ xs.length → I n env → OkM (exL f (xs.drop n) env) Q X := by
  intro n env hn h
  generalize hm : xs.length - n = m
  induction m generalizing n env with
  | zero =>
    have e : n = xs.length := by omega
    subst e
    rw [List.drop_eq_nil_of_le (Nat.le_refl _)]
    exact fin env h
  | succ m ih =>
    have hlt : n < xs.length := by omega
    rw [List.drop_eq_getElem_cons hlt]
    exact OkM.bind (m := f xs[n] env) (OkM.imp (hs n xs[n] env (List.getElem?_eq_getElem hlt) h) fun o w => loop_ok (α := Unit) w fun e k => ih (n + 1) e (by omega) k (by omega))
theorem exW_ok {c : T} {f : En → M Out} {g : En → (Out → Prop) → Prop} {I : Nat → En → Prop} {Q : Out → Prop} (hg : ∀ env Q, g env Q → OkM (f env) Q X) (hs : ∀ m env, I m env → ∃ m', m = m' + 1 ∧ wE Φ c X env fun z env1 => w1 z fun r => wB r fun t => wIf t (g env1 fun o => wLoop o (I m') Q) (Q (.nx env1))) :
    ∀ (n : Nat) (env : En), I n env → OkM (exW (evB Φ c) f n env) Q X := by
  intro n
  induction n with
  | zero =>
    intro env h
    obtain ⟨m', e, _⟩ := hs 0 env h
    omega
  | succ n ih =>
    intro env h
    obtain ⟨m', e, w⟩ := hs (n + 1) env h
    have em : m' = n := by omega
    subst em
    show OkM ((evB Φ c env).bind fun t => if t.1 then (f t.2).bind fun
      | .nx e => exW (evB Φ c) f m' e
      | .ct e => exW (evB Φ c) f m' e
      | .bk e => .ok (.nx e)
      | .rt r e => .ok (.rt r e)
      else .ok (.nx t.2)) Q X
    refine OkM.bind (OkM.bind (m := one1 (ev Φ c env)) (w1_ok (wE_ok c X env _ w) fun rs env1 q => ?_))
    unfold w1 at q ⊢
    split at q
    case h_2 => exact q.elim
    refine OkM.bind (OkM.imp (wB_ok q) fun t z => ?_)
    cases t with
    | true => exact OkM.bind (m := f env1) (OkM.imp (hg _ _ (z.1 rfl)) fun o w => loop_ok (α := Unit) w fun e k => ih e k)
    | false => exact z.2 rfl
theorem wS_ok (s : S) : ∀ (env : En) (Q : Out → Prop), wS Φ s X env Q → OkM (ex Φ s env) Q X := by
  induction s with
  | nil => intro env Q h; exact h
  | seq s r ih1 ih2 =>
    intro env Q h
    refine OkM.bind (m := ex Φ s env) (OkM.imp (ih1 env _ h) fun o w => ?_)
    cases o with
    | nx e => exact ih2 e Q w
    | bk e => exact w
    | ct e => exact w
    | rt r e => exact w
  | expr e =>
    intro env Q h
    exact OkM.bind (m := one1 (ev Φ e env)) (wE1_ok (K := fun a => Q (.nx a.2)) h)
  | asg i e =>
    intro env Q h
    exact OkM.bind (m := one1 (ev Φ e env)) (wE1_ok (K := fun a => Q (.nx (a.2.set i (some a.1)))) h)
  | unp is e =>
    intro env Q h
    refine OkM.bind (m := one1 (ev Φ e env)) (w1_ok (wE_ok e X env _ h) fun rs env1 q => ?_)
    unfold w1 at q ⊢
    split at q
    case h_2 => exact q.elim
    unfold wUn at q
    split at q
    case h_2 => exact q.elim
    rename_i e1
    simp only [e1]
    unfold wSet at q
    split at q
    case h_2 => exact q.elim
    rename_i e2
    rw [e2]
    exact q
  | par i j es =>
    intro env Q h
    refine OkM.bind (m := ev Φ es env) (OkM.imp (wE_ok es X env _ h) fun a q => ?_)
    obtain ⟨rs, env1⟩ := a
    unfold w2 at q
    match rs, q with
    | [r, p], q => exact q
  | setx i ix e =>
    intro env Q h
    refine OkM.bind (m := one1 (ev Φ e env)) (w1_ok (wE_ok e X env _ h) fun rs env1 q => ?_)
    unfold w1 at q ⊢
    split at q
    case h_2 => exact q.elim
    refine OkM.bind (m := getS env1 i) (OkM.imp (wGet_ok q) fun o q => ?_)
    refine OkM.bind (m := one1 (ev Φ ix (env1.set i none))) (w1_ok (wE_ok ix X _ _ q) fun rs env2 q => ?_)
    unfold w1 at q ⊢
    split at q
    case h_2 => exact q.elim
    obtain ⟨o', e1, q⟩ := q
    simp only [e1]
    exact q
  | app i e =>
    intro env Q h
    refine OkM.bind (m := getS env i) (OkM.imp (wGet_ok h) fun o q => ?_)
    unfold wLst at q
    split at q
    case h_2 => exact q.elim
    refine OkM.bind (m := one1 (ev Φ e (env.set i none))) (w1_ok (wE_ok e X _ _ q) fun rs env2 q => ?_)
    unfold w1 at q ⊢
    split at q
    case h_2 => exact q.elim
    exact okIf q.1 q.2
  | ext i e =>
    intro env Q h
    refine OkM.bind (m := getS env i) (OkM.imp (wGet_ok h) fun o q => ?_)
    unfold wLst at q
    split at q
    case h_2 => exact q.elim
    refine OkM.bind (m := one1 (ev Φ e (env.set i none))) (w1_ok (wE_ok e X _ _ q) fun rs env2 q => ?_)
    unfold w1 at q ⊢
    split at q
    case h_2 => exact q.elim
    unfold wLd at q
    split at q
    case h_2 => exact q.elim
    rename_i e1
    simp only [e1]
    exact okIf q.1 q.2
  | ifs c a b ih1 ih2 =>
    intro env Q h
    refine OkM.bind (m := one1 (ev Φ c env)) (w1_ok (wE_ok c X env _ h) fun rs env1 q => ?_)
    unfold w1 at q ⊢
    split at q
    case h_2 => exact q.elim
    refine OkM.bind (OkM.imp (wB_ok q) fun t z => ?_)
    cases t with
    | true => exact ih1 env1 Q (z.1 rfl)
    | false => exact ih2 env1 Q (z.2 rfl)
  | «for» tg src body ih =>
    intro env Q h
    refine OkM.bind (m := one1 (ev Φ src env)) (w1_ok (wE_ok src X env _ h) fun rs env1 q => ?_)
    unfold w1 at q ⊢
    split at q
    case h_2 => exact q.elim
    obtain ⟨t, xs, rfl, I, i0, step, fin⟩ := q
    have key := exL_ok (X := X) (f := fun x env => (setT tg x env).bind fun env => ex Φ body env) (I := I) (Q := Q) (xs := xs) (fun i d env e hI => ?_) fin 0 env1 (Nat.zero_le _) i0
    · rw [List.drop_zero] at key
      exact key
    · have st := step i d env e hI
      unfold wTg at st
      cases es : setT tg d env with
      | no => rw [es] at st; exact st.elim
      | ex c e => rw [es] at st; exact st.elim
      | ok env2 =>
        rw [es] at st
        exact ih env2 _ st
  | «while» n c body ih =>
    intro env Q h
    obtain ⟨I, i0, step⟩ := h
    exact exW_ok (f := ex Φ body) (g := wS Φ body X) (I := I) ih step n env i0
  | ret e =>
    intro env Q h
    exact OkM.bind (m := one1 (ev Φ e env)) (wE1_ok (K := fun a => Q (.rt a.1 a.2)) h)
  | ret0 => intro env Q h; exact h
  | brk => intro env Q h; exact h
  | cont => intro env Q h; exact h
  | dead => intro env Q h; exact h.elim
theorem runF_ok {n : Nat} {io : List Nat} {body : S} {rs : List R} {K : R → List (Option R) → Prop} (h : wS Φ body X (rs.map some ++ List.replicate (n - rs.length) none) fun o => match o with
    | .rt r env => K r (outsOf io rs.length env)
    | .nx env => K (.sh .non) (outsOf io rs.length env)
    | _ => False) : OkM (runF Φ n io body rs) (fun a => K a.1 a.2) X := by
  refine OkM.bind (m := ex Φ body (rs.map some ++ List.replicate (n - rs.length) none)) (OkM.imp (wS_ok body _ _ h) fun o w => ?_)
  cases o with
  | nx e => exact w
  | rt r e => exact w
  | bk e => exact w.elim
  | ct e => exact w.elim
end
end FH
set_option Elab.async false
set_option linter.all false
set_option maxRecDepth 100000
set_option maxHeartbeats 2000000
namespace FH
open PySem PySem.Spec PyProof.Rows L2
/-- e's value is r, the frame stays -/
def Ev (Φ : FT) (e : T) (env : En) (r : R) : Prop := one1 (ev Φ e env) = .ok (r, env)
def wipeB : List (Option Nat) → En → En
  | [], env => env
  | some i :: bk, env => wipeB bk (env.set i none)
  | none :: bk, env => wipeB bk env
def Held : List (Option Nat) → List R → En → Prop
  | [], _, _ => True
  | none :: bk, _ :: rs, env => Held bk rs env
  | some i :: bk, r :: rs, env => env[i]? = some (some r) ∧ some i ∉ bk ∧ Held bk rs env
  | _ :: _, [], _ => False
/-- arguments; the lent slots are away -/
structure EvA (Φ : FT) (es : T) (env : En) (rs : List R) : Prop where
  run : ev Φ es env = .ok (rs, wipeB (bkOf es) env)
  held : Held (bkOf es) rs env
/-- arguments, none lent -/
def EvN (Φ : FT) (es : T) (env : En) (rs : List R) : Prop := ev Φ es env = .ok (rs, env) ∧ (bkOf es).all (·.isNone) = true
def EvI (Φ : FT) (e : T) (env : En) (xs : List D) : Prop := one1 (ev Φ e env) = .ok (.sh (.lst none xs), env)
theorem wipeB_set {bk : List (Option Nat)} {i : Nat} {o : Option R} : ∀ {env : En}, some i ∉ bk → (wipeB bk env).set i o = wipeB bk (env.set i o) := by
  induction bk with
  | nil => intro env h; rfl
  | cons b bk ih =>
    intro env h
    cases b with
    | none => exact ih (fun z => h (List.mem_cons_of_mem _ z))
    | some j =>
      have hj : i ≠ j := fun e => h (by rw [e]; exact List.mem_cons_self)
      show (wipeB bk (env.set j none)).set i o = wipeB bk ((env.set i o).set j none)
      rw [ih (fun z => h (List.mem_cons_of_mem _ z)), List.set_comm _ _ hj.symm]
theorem set_back {env : En} {i : Nat} {r : R} (h : env[i]? = some (some r)) : (env.set i none).set i (some r) = env := by
  rw [List.set_set]
  exact List.set_getElem_self (by obtain ⟨hl, e⟩ := List.getElem?_eq_some_iff.mp h; exact hl) ▸ by
    obtain ⟨hl, e⟩ := List.getElem?_eq_some_iff.mp h
    rw [List.set_getElem_self hl, ← e, List.set_getElem_self hl]
theorem backs_wipe {bk : List (Option Nat)} : ∀ {rs : List R} {env : En}, Held bk rs env → backs (rs.map some) bk (wipeB bk env) = env := by
  induction bk with
  | nil => intro rs env h; cases rs <;> rfl
  | cons b bk ih =>
    intro rs env h
    cases rs with
    | nil => cases b <;> exact h.elim
    | cons r rs =>
      cases b with
      | none => exact ih h
      | some i =>
        obtain ⟨h1, h2, h3⟩ := h
        show backs (rs.map some) bk ((wipeB bk (env.set i none)).set i (some r)) = env
        rw [wipeB_set h2, set_back h1]
        exact ih h3
theorem backs_none {bk : List (Option Nat)} : ∀ {rs : List (Option R)} {env : En}, bk.all (·.isNone) = true → backs rs bk env = env := by
  induction bk with
  | nil => intro rs env h; cases rs with
    | nil => rfl
    | cons r rs => cases r <;> rfl
  | cons b bk ih =>
    intro rs env h
    simp only [List.all_cons, Bool.and_eq_true] at h
    cases b with
    | some i => cases h.1
    | none => cases rs with
      | nil => rfl
      | cons r rs => cases r <;> exact ih h.2
theorem wipeB_none {bk : List (Option Nat)} {env : En} (h : bk.all (·.isNone) = true) : wipeB bk env = env := by
  induction bk with
  | nil => rfl
  | cons b bk ih =>
    simp only [List.all_cons, Bool.and_eq_true] at h
    cases b with
    | some i => cases h.1
    | none => exact ih h.2
theorem held_none {bk : List (Option Nat)} : ∀ {rs : List R} {env : En}, bk.all (·.isNone) = true → bk.length ≤ rs.length → Held bk rs env := by
  induction bk with
  | nil => intros; trivial
  | cons b bk ih =>
    intro rs env h hl
    simp only [List.all_cons, Bool.and_eq_true] at h
    cases b with
    | some i => cases h.1
    | none => cases rs with
      | nil => simp at hl
      | cons r rs => exact ih h.2 (by simpa using hl)
section
variable {Φ : FT} {env : En}
theorem Ev.var {i : Nat} {d : D} (h : env[i]? = some (some (.sh d))) : Ev Φ (.var i) env (.sh d) := by
  unfold Ev
  show one1 ((getS env i).bind fun r => .ok ([sh1 r], env.set i (some (sh1 r)))) = _
  unfold getS
  rw [h]
  obtain ⟨hl, e⟩ := List.getElem?_eq_some_iff.mp h
  show M.ok ((.sh d : R), env.set i (some (.sh d))) = _
  rw [← e, List.set_getElem_self hl]
theorem Ev.lit {v : V} : Ev Φ (.lit v) env (.sh (dV v)) := rfl
theorem Ev.glb {x : Str} {v : V} : Ev Φ (.glb x v) env (.sh (dV v)) := rfl
theorem EvN.nil : EvN Φ .nil env [] := ⟨rfl, rfl⟩
theorem bk_cons {e es : T} (h : notMv e = true) : bkOf (.cons e es) = none :: bkOf es := by
  cases e <;> first | rfl | (cases h; done)
theorem EvN.cons {e es : T} {r : R} {rs : List R} (hm : notMv e = true) (h : Ev Φ e env r) (k : EvN Φ es env rs) : EvN Φ (.cons e es) env (r :: rs) := by
  obtain ⟨k1, k2⟩ := k
  constructor
  · show (one1 (ev Φ e env)).bind _ = _
    rw [h]
    show (ev Φ es env).bind _ = _
    rw [k1] <;> rfl
  · rw [bk_cons hm]
    simpa using k2
theorem ev_len {es : T} {rs : List R} : ∀ {env env1 : En}, ev Φ es env = .ok (rs, env1) → (bkOf es).length ≤ rs.length := by
  intro env env1 h
  induction es generalizing rs env env1 with
  | cons e es ih1 ih2 =>
    have h' : (one1 (ev Φ e env)).bind (fun a => (ev Φ es a.2).bind fun b => .ok (a.1 :: b.1, b.2)) = .ok (rs, env1) := h
    obtain ⟨a, h1, h2⟩ := M.bind_eq h'
    obtain ⟨b, h3, h4⟩ := M.bind_eq h2
    cases h4
    have := ih2 h3
    have e : (bkOf (.cons e es)).length = (bkOf es).length + 1 := by cases e <;> rfl
    rw [e, List.length_cons]
    omega
  | _ => exact Nat.zero_le _
theorem EvN.a {es : T} {rs : List R} (h : EvN Φ es env rs) : EvA Φ es env rs := ⟨by rw [wipeB_none h.2]; exact h.1, held_none h.2 (ev_len h.1)⟩
theorem EvA.nil : EvA Φ .nil env [] := ⟨rfl, trivial⟩
theorem EvA.cons {e es : T} {r : R} {rs : List R} (hm : notMv e = true) (h : Ev Φ e env r) (k : EvA Φ es env rs) : EvA Φ (.cons e es) env (r :: rs) := by
  obtain ⟨k1, k2⟩ := k
  constructor
  · rw [bk_cons hm]
    show (one1 (ev Φ e env)).bind _ = _
    rw [h]
    show (ev Φ es env).bind _ = _
    rw [k1] <;> rfl
  · rw [bk_cons hm]
    exact k2
theorem held_set {bk : List (Option Nat)} {i : Nat} : ∀ {rs : List R} {env : En}, some i ∉ bk → Held bk rs (env.set i none) → Held bk rs env := by
  induction bk with
  | nil => intros; trivial
  | cons b bk ih =>
    intro rs env hi h
    cases rs with
    | nil => cases b <;> exact h.elim
    | cons r rs =>
      cases b with
      | none => exact ih (fun z => hi (List.mem_cons_of_mem _ z)) h
      | some j =>
        obtain ⟨h1, h2, h3⟩ := h
        have hj : i ≠ j := fun e => hi (by rw [e]; exact List.mem_cons_self)
        rw [List.getElem?_set_ne hj] at h1
        exact ⟨h1, h2, ih (fun z => hi (List.mem_cons_of_mem _ z)) h3⟩
theorem EvA.mv {i : Nat} {es : T} {r : R} {rs : List R} (h : env[i]? = some (some r)) (k : EvA Φ es (env.set i none) rs) (hi : some i ∉ bkOf es) : EvA Φ (.cons (.mv i) es) env (r :: rs) := by
  obtain ⟨k1, k2⟩ := k
  constructor
  · show (one1 ((getS env i).bind _)).bind _ = _
    unfold getS
    rw [h]
    show (ev Φ es (env.set i none)).bind _ = _
    rw [k1] <;> rfl
  · exact ⟨h, hi, held_set hi k2⟩
theorem Ev.prim {p : P} {es : T} {rs : List R} {r : R} (h : EvA Φ es env rs) (hs : p.sem (rs.map R.d) = .ok r) (ho : okRes rs r = true) : Ev Φ (.prim p es) env r := by
  unfold Ev
  show one1 ((ev Φ es env).bind _) = _
  rw [h.run]
  show one1 ((p.sem (rs.map R.d)).bind _) = _
  rw [hs]
  show one1 (if okRes rs r = true then _ else _) = _
  rw [if_pos ho, backs_wipe h.held] <;> rfl
theorem Ev.mth {m : Mt} {e es : T} {r q : R} {rs : List R} (hm : notMv e = true) (h : Ev Φ e env r) (hk : m.okD r.d = true) (k : EvA Φ es env rs) (hs : semMt m (r.d :: rs.map R.d) = .ok q) (ho : okRes (r :: rs) q = true) : Ev Φ (.mth m e es) env q := by
  unfold Ev
  show one1 ((one1 (ev Φ e env)).bind _) = _
  rw [h]
  show one1 (if m.okD r.d = true then _ else _) = _
  rw [if_pos hk, k.run]
  show one1 ((semMt m (r.d :: rs.map R.d)).bind _) = _
  rw [hs]
  show one1 (if okRes (r :: rs) q = true then _ else _) = _
  rw [if_pos ho, bk_cons hm]
  show M.ok (q, backs (rs.map some) (bkOf es) (wipeB (bkOf es) env)) = _
  rw [backs_wipe k.held]
theorem Ev.call {f : Str} {es : T} {rs : List R} {g : Sem1} {r : R} {outs : List (Option R)} (hf : Φ f = some g) (h : EvN Φ es env rs) (hg : g rs = .ok (r, outs)) : Ev Φ (.call f es) env r := by
  unfold Ev
  have e0 : ev Φ (.call f es) env = (match Φ f with
    | some g => (ev Φ es env).bind fun a => (g a.1).bind fun b => .ok ([b.1], backs b.2 (bkOf es) a.2)
    | none => .no) := rfl
  rw [e0, hf]
  show one1 ((ev Φ es env).bind _) = _
  rw [h.1]
  show one1 ((g rs).bind _) = _
  rw [hg]
  show M.ok (r, backs outs (bkOf es) env) = _
  rw [backs_none h.2]
theorem Ev.lst {es : T} {rs : List R} (h : EvN Φ es env rs) : Ev Φ (.lst es) env (.ow (.lst none (rs.map R.d))) := by
  unfold Ev
  show one1 ((ev Φ es env).bind _) = _
  rw [h.1] <;> rfl
theorem Ev.tup {es : T} {rs : List R} (h : EvN Φ es env rs) : Ev Φ (.tup es) env (.tp (rs.map cmpOf)) := by
  unfold Ev
  show one1 ((ev Φ es env).bind _) = _
  rw [h.1] <;> rfl
theorem Ev.dic {es : T} {rs : List R} {kvs : List (Key × D)} (h : EvN Φ es env rs) (hp : pairD (rs.map R.d) = some kvs) : Ev Φ (.dic es) env (.ow (.dic none (mergeD [] kvs))) := by
  unfold Ev
  show one1 ((ev Φ es env).bind _) = _
  rw [h.1]
  show one1 (match pairD (rs.map R.d) with
    | some kvs => .ok ([.ow (.dic none (mergeD [] kvs))], env)
    | none => .no) = _
  rw [hp] <;> rfl
theorem Ev.one {a : T} {r : R} (h : Ev Φ a env r) : Ev Φ (.one a) env r := h
theorem Ev.and {a b : T} {s t : Bool} (h : Ev Φ a env (.sh (.bl s))) (k : s = true → Ev Φ b env (.sh (.bl t))) : Ev Φ (.and a b) env (.sh (.bl (s && t))) := by
  unfold Ev
  show one1 ((one1 (ev Φ a env)).bind _) = _
  rw [h]
  cases s with
  | true => exact k rfl
  | false => rfl
theorem Ev.or {a b : T} {s t : Bool} (h : Ev Φ a env (.sh (.bl s))) (k : s = false → Ev Φ b env (.sh (.bl t))) : Ev Φ (.or a b) env (.sh (.bl (s || t))) := by
  unfold Ev
  show one1 ((one1 (ev Φ a env)).bind _) = _
  rw [h]
  cases s with
  | true => rfl
  | false => exact k rfl
theorem Ev.not {a : T} {s : Bool} (h : Ev Φ a env (.sh (.bl s))) : Ev Φ (.not a) env (.sh (.bl (!s))) := by
  unfold Ev
  show one1 ((one1 (ev Φ a env)).bind _) = _
  rw [h] <;> rfl
theorem Ev.ite {c a b : T} {s : Bool} {r : R} (h : Ev Φ c env (.sh (.bl s))) (k1 : s = true → Ev Φ a env r) (k2 : s = false → Ev Φ b env r) : Ev Φ (.ite c a b) env r := by
  unfold Ev
  show one1 ((one1 (ev Φ c env)).bind _) = _
  rw [h]
  cases s with
  | true => exact k1 rfl
  | false => exact k2 rfl
theorem Ev.iteS {c a b : T} {s : Bool} {x y : Str} (h : Ev Φ c env (.sh (.bl s))) (k1 : s = true → Ev Φ a env (.sh (.str x))) (k2 : s = false → Ev Φ b env (.sh (.str y))) : Ev Φ (.ite c a b) env (.sh (.str (if s then x else y))) := by
  cases s with
  | true => exact Ev.ite h k1 fun z => nomatch z
  | false => exact Ev.ite h (fun z => nomatch z) k2
theorem Ev.iteI {c a b : T} {s : Bool} {x y : Int} (h : Ev Φ c env (.sh (.bl s))) (k1 : s = true → Ev Φ a env (.sh (.int x))) (k2 : s = false → Ev Φ b env (.sh (.int y))) : Ev Φ (.ite c a b) env (.sh (.int (if s then x else y))) := by
  cases s with
  | true => exact Ev.ite h k1 fun z => nomatch z
  | false => exact Ev.ite h (fun z => nomatch z) k2
theorem Ev.chain {p q : CmpOp} {a b c : T} {ra rb : R} {s t : Bool} (ha : Ev Φ a env ra) (hb : Ev Φ b env rb) (hs : semCmp p ra.d rb.d = .ok (.sh (.bl s))) (k : s = true → ∃ rc, Ev Φ c env rc ∧ semCmp q rb.d rc.d = .ok (.sh (.bl t))) :
    Ev Φ (.chain p q a b c) env (.sh (.bl (s && t))) := by
  unfold Ev
  show one1 ((one1 (ev Φ a env)).bind _) = _
  rw [ha]
  show one1 ((one1 (ev Φ b env)).bind _) = _
  rw [hb]
  show one1 ((semCmp p ra.d rb.d).bind _) = _
  rw [hs]
  cases s with
  | false => rfl
  | true =>
    obtain ⟨rc, hc, hq⟩ := k rfl
    show one1 ((one1 (ev Φ c env)).bind _) = _
    rw [hc]
    show one1 ((semCmp q rb.d rc.d).bind _) = _
    rw [hq] <;> rfl
theorem Ev.of {e : T} {r r' : R} (h : Ev Φ e env r') (q : r' = r) : Ev Φ e env r := q ▸ h
/-! ### comprehensions -/
/-- the comprehension's own names hold nothing that it would spoil -/
def okOwn (env : En) (own : List Nat) : Bool := own.all fun i => match env[i]? with
  | some none => true
  | some (some (.sh _)) => true
  | none => true
  | _ => false
theorem restore_eq {env : En} {own : List Nat} (h : okOwn env own = true) : ∀ (env1 : En), (∀ j, j ∉ own → env1[j]? = env[j]?) → env1.length = env.length → restore own env env1 = env := by
  intro env1 h1 hl
  have key : ∀ (os : List Nat) (e1 : En), (∀ j, j ∈ os → j ∈ own) → (∀ j, j ∉ os → e1[j]? = env[j]?) → e1.length = env.length → os.foldl (fun e i => e.set i (shared (env[i]?.join))) e1 = env := by
    intro os
    induction os with
    | nil => intro e1 _ h2 _; exact List.ext_getElem? fun j => h2 j (by simp)
    | cons i os ih =>
      intro e1 hs h2 hl2
      refine ih _ (fun j hj => hs j (List.mem_cons_of_mem _ hj)) (fun j hj => ?_) (by simpa using hl2)
      by_cases hij : i = j
      · subst hij
        have hio : i ∈ own := hs i List.mem_cons_self
        have hk : (match env[i]? with
          | some none => true
          | some (some (.sh _)) => true
          | none => true
          | _ => false) = true := List.all_eq_true.mp h i hio
        by_cases hlt : i < env.length
        · rw [List.getElem?_set_self (by omega)]
          rw [List.getElem?_eq_getElem hlt] at hk ⊢
          cases e : env[i] with
          | none => rfl
          | some r =>
            rw [e] at hk
            cases r with
            | sh d => rfl
            | ow d => cases hk
            | tp cs => cases hk
        · rw [List.getElem?_eq_none (by simp; omega), List.getElem?_eq_none (by omega)]
      · rw [List.getElem?_set_ne hij]
        by_cases hj2 : j ∈ i :: os
        · rcases List.mem_cons.mp hj2 with e | e
          · exact absurd e.symm hij
          · exact absurd e hj
        · exact h2 j hj2
  exact key own env1 (fun _ h => h) h1 hl
theorem wipeE_len : ∀ {own : List Nat} {env : En}, (wipeE env own).length = env.length
  | [], _ => rfl
  | i :: own, env => by
    show ((wipeE env own).set i none).length = _
    rw [List.length_set, wipeE_len]
theorem wipeE_ne : ∀ {own : List Nat} {env : En} {j : Nat}, j ∉ own → (wipeE env own)[j]? = env[j]?
  | [], _, _, _ => rfl
  | i :: own, env, j, h => by
    show ((wipeE env own).set i none)[j]? = _
    rw [List.getElem?_set_ne (fun e => h (by rw [e]; exact List.mem_cons_self)), wipeE_ne fun z => h (List.mem_cons_of_mem _ z)]
theorem wipeE_at : ∀ {own : List Nat} {env : En} {j : Nat}, j ∈ own → j < env.length → (wipeE env own)[j]? = some none
  | i :: own, env, j, h, hl => by
    show ((wipeE env own).set i none)[j]? = _
    by_cases hij : i = j
    · subst hij
      rw [List.getElem?_set_self (by rw [wipeE_len]; exact hl)]
    · rw [List.getElem?_set_ne hij]
      rcases List.mem_cons.mp h with e | e
      · exact absurd e.symm hij
      · exact wipeE_at e hl
/-- wiping forgets what was stored in the own names -/
theorem wipeE_of {own : List Nat} {env env1 : En} (hl : env1.length = env.length) (h : ∀ j, j ∉ own → env1[j]? = env[j]?) : wipeE env1 own = wipeE env own := by
  refine List.ext_getElem? fun j => ?_
  by_cases hj : j ∈ own
  · by_cases hlt : j < env.length
    · rw [wipeE_at hj (by omega), wipeE_at hj hlt]
    · rw [List.getElem?_eq_none (by rw [wipeE_len]; omega), List.getElem?_eq_none (by rw [wipeE_len]; omega)]
  · rw [wipeE_ne hj, wipeE_ne hj, h j hj]
/-- a turn's frame: own names stored, the rest as it was -/
structure Near (own : List Nat) (env env1 : En) : Prop where
  len : env1.length = env.length
  eq : ∀ j, j ∉ own → env1[j]? = env[j]?
theorem Near.refl {own : List Nat} {env : En} : Near own env env := ⟨rfl, fun _ _ => rfl⟩
theorem Near.set {own : List Nat} {env env1 : En} {i : Nat} {o : Option R} (h : Near own env env1) (hi : i ∈ own) : Near own env (env1.set i o) :=
  ⟨by rw [List.length_set]; exact h.len, fun j hj => by rw [List.getElem?_set_ne (fun e => hj (by rw [← e]; exact hi))]; exact h.eq j hj⟩
theorem Near.wipe {own : List Nat} {env : En} : Near own env (wipeE env own) := ⟨wipeE_len, fun _ h => wipeE_ne h⟩
theorem setIs_near {own : List Nat} {env : En} : ∀ {is : List Nat} {ds : List D} {e1 e2 : En}, setIs is ds e1 = .ok e2 → (∀ i, i ∈ is → i ∈ own) → Near own env e1 → Near own env e2
  | [], [], e1, e2, h, hi, n => by cases h; exact n
  | i :: is, d :: ds, e1, e2, h, hi, n => setIs_near (is := is) (ds := ds) h (fun j hj => hi j (List.mem_cons_of_mem _ hj)) (n.set (hi i List.mem_cons_self))
  | [], _ :: _, _, _, h, _, _ => by cases h
  | _ :: _, [], _, _, h, _, _ => by cases h
theorem setT_near {own : List Nat} {env : En} {tg : Tg} {d : D} {e1 e2 : En} (h : setT tg d e1 = .ok e2) (hi : (tgSlots tg).all (fun i => decide (i ∈ own)) = true) (n : Near own env e1) : Near own env e2 := by
  simp only [List.all_eq_true, decide_eq_true_eq] at hi
  cases tg with
  | nm i => cases h; exact n.set (hi i (by show i ∈ [i]; exact List.mem_singleton.mpr rfl))
  | tp is =>
    cases d with
    | tup ds => exact setIs_near h hi n
    | _ => cases h
theorem compL_eq {α : Type} {f : D → En → M (Option D × En)} {env : En} {enc : α → D} {g : α → Option D} : ∀ {l : List α}, (∀ a, a ∈ l → f (enc a) env = .ok (g a, env)) → compL f (l.map enc) env = .ok (l.filterMap g, env)
  | [], _ => rfl
  | a :: l, h => by
    show (f (enc a) env).bind _ = _
    rw [h a List.mem_cons_self]
    show (compL f (l.map enc) env).bind _ = _
    rw [compL_eq fun b hb => h b (List.mem_cons_of_mem _ hb)]
    show M.ok ((g a).toList ++ l.filterMap g, env) = _
    rw [List.filterMap_cons]
    cases g a <;> rfl
theorem Ev.comp0 {α : Type} {own : List (Str × Nat)} {elt src cond : T} {tg : Tg} {enc : α → D} {l : List α} {g : α → Option D} (hs : EvI Φ src env (l.map enc)) (hl : l.length ≤ LIM) (ho : okOwn env (own.map (·.2)) = true)
    (h : ∀ a, a ∈ l → (((setT tg (enc a) (wipeE env (own.map (·.2)))).bind fun env => (condM cond (ev Φ cond) env).bind fun (t, env) =>
        if t then (one1 (ev Φ elt env)).bind fun (y, env) => .ok (some y.d, wipeE env (own.map (·.2))) else .ok (none, wipeE env (own.map (·.2)))).noex : M (Option D × En)) = .ok (g a, wipeE env (own.map (·.2)))) :
    Ev Φ (.comp own elt tg src cond) env (.ow (.lst none (l.filterMap g))) := by
  unfold Ev
  show one1 ((one1 (ev Φ src env)).bind _) = _
  rw [hs]
  show one1 (if (l.map enc).length ≤ LIM then _ else _) = _
  rw [if_pos (by rw [List.length_map]; exact hl), compL_eq h]
  show M.ok (_, restore (own.map (·.2)) env (wipeE env (own.map (·.2)))) = _
  rw [restore_eq ho _ (fun j hj => wipeE_ne hj) wipeE_len]
/-- [elt for tg in src] -/
theorem Ev.comp {α : Type} {own : List (Str × Nat)} {elt src : T} {tg : Tg} {enc : α → D} {l : List α} (st : α → En) (r : α → R) (hs : EvI Φ src env (l.map enc)) (hl : l.length ≤ LIM) (ho : okOwn env (own.map (·.2)) = true) (ht : (tgSlots tg).all (fun i => decide (i ∈ own.map (·.2))) = true)
    (h1 : ∀ a, setT tg (enc a) (wipeE env (own.map (·.2))) = .ok (st a)) (h : ∀ a, a ∈ l → Ev Φ elt (st a) (r a)) : Ev Φ (.comp own elt tg src .nil) env (.ow (.lst none (l.map fun a => (r a).d))) := by
  have e : (l.map fun a => (r a).d) = l.filterMap fun a => some (r a).d := by rw [List.filterMap_eq_map']
  rw [e]
  refine Ev.comp0 hs hl ho fun a ha => ?_
  have n := setT_near (h1 a) ht Near.wipe
  rw [h1 a]
  show ((one1 (ev Φ elt (st a))).bind _ : M (Option D × En)).noex = _
  rw [h a ha]
  show M.ok (some (r a).d, wipeE (st a) _) = _
  rw [wipeE_of n.len n.eq]
/-- [elt for tg in src if cond] -/
theorem Ev.compIf {α : Type} {own : List (Str × Nat)} {elt src cond : T} {tg : Tg} {enc : α → D} {l : List α} (st : α → En) (p : α → Bool) (r : α → R) (hc : (match cond with | .nil => false | _ => true) = true) (hs : EvI Φ src env (l.map enc)) (hl : l.length ≤ LIM) (ho : okOwn env (own.map (·.2)) = true) (ht : (tgSlots tg).all (fun i => decide (i ∈ own.map (·.2))) = true)
    (h1 : ∀ a, setT tg (enc a) (wipeE env (own.map (·.2))) = .ok (st a)) (h2 : ∀ a, a ∈ l → Ev Φ cond (st a) (.sh (.bl (p a)))) (h : ∀ a, a ∈ l → p a = true → Ev Φ elt (st a) (r a)) : Ev Φ (.comp own elt tg src cond) env (.ow (.lst none ((l.filter p).map fun a => (r a).d))) := by
  have e : ((l.filter p).map fun a => (r a).d) = l.filterMap fun a => if p a then some (r a).d else none := by
    clear hs hl h h2
    induction l with
    | nil => rfl
    | cons a l ih =>
      rw [List.filter_cons, List.filterMap_cons]
      cases p a with
      | true => rw [if_pos rfl, List.map_cons, ih] <;> rfl
      | false => rw [if_neg (by decide), ih] <;> rfl
  rw [e]
  refine Ev.comp0 hs hl ho fun a ha => ?_
  have n := setT_near (h1 a) ht Near.wipe
  rw [h1 a]
  have ec : condM cond (ev Φ cond) (st a) = .ok (p a, st a) := by
    have : condM cond (ev Φ cond) (st a) = (one1 (ev Φ cond (st a))).bind fun (r, env1) => (asB r).bind fun t => .ok (t, env1) := by
      cases cond <;> first
        | rfl
        | (cases hc; done)
    rw [this, h2 a ha] <;> rfl
  show ((condM cond (ev Φ cond) (st a)).bind _ : M (Option D × En)).noex = _
  rw [ec]
  show (if p a = true then _ else _ : M (Option D × En)).noex = _
  cases hp : p a with
  | true =>
    rw [if_pos rfl, if_pos rfl, h a ha hp]
    show M.ok (some (r a).d, wipeE (st a) _) = _
    rw [wipeE_of n.len n.eq]
  | false =>
    rw [if_neg (by decide), if_neg (by decide)]
    show M.ok (none, wipeE (st a) _) = _
    rw [wipeE_of n.len n.eq]
theorem EvI.val {e : T} {r : R} {xs : List D} (h : Ev Φ e env r) (hi : itemsOf r.d = some xs) (hl : xs.length ≤ LIM) : EvI Φ (.sval e) env xs := by
  unfold EvI
  show one1 ((one1 (ev Φ e env)).bind _) = _
  rw [h]
  show one1 (match itemsOf r.d with | some xs => srcR xs env | none => .no) = _
  rw [hi]
  show one1 (if xs.length ≤ LIM then _ else _) = _
  rw [if_pos hl] <;> rfl
theorem EvI.enum {e : T} {r : R} {xs : List D} (h : Ev Φ e env r) (hi : enumOf r.d = some xs) (hl : xs.length ≤ LIM) : EvI Φ (.senum e) env (enumD xs) := by
  unfold EvI
  show one1 ((one1 (ev Φ e env)).bind _) = _
  rw [h]
  show one1 (match enumOf r.d with | some xs => srcR (enumD xs) env | none => .no) = _
  rw [hi]
  show one1 (if (enumD xs).length ≤ LIM then _ else _) = _
  rw [if_pos (by unfold enumD; simpa using hl)] <;> rfl
theorem rngD_length {a b : Int} : (rngD a b).length = (b - a).toNat := by unfold rngD; simp
theorem EvI.rng1 {es : T} {n : Int} (h : EvN Φ es env [.sh (.int n)]) (h1 : -LIM ≤ n) (h2 : n ≤ LIM) : EvI Φ (.srng es) env (rngD 0 n) := by
  unfold EvI
  show one1 ((ev Φ es env).bind _) = _
  rw [h.1]
  show one1 (if -LIM ≤ n ∧ n ≤ LIM then _ else _) = _
  rw [if_pos ⟨h1, h2⟩]
  show one1 (if (rngD 0 n).length ≤ LIM then _ else _) = _
  rw [if_pos (by rw [rngD_length]; omega)] <;> rfl
theorem EvI.rng2 {es : T} {a b : Int} (h : EvN Φ es env [.sh (.int a), .sh (.int b)]) (h1 : 0 ≤ a) (h2 : a ≤ LIM) (h3 : -LIM ≤ b) (h4 : b ≤ LIM) : EvI Φ (.srng es) env (rngD a b) := by
  unfold EvI
  show one1 ((ev Φ es env).bind _) = _
  rw [h.1]
  show one1 (if -LIM ≤ a ∧ a ≤ LIM ∧ -LIM ≤ b ∧ b ≤ LIM then _ else _) = _
  rw [if_pos ⟨by omega, h2, h3, h4⟩]
  show one1 (if (rngD a b).length ≤ LIM then _ else _) = _
  rw [if_pos (by rw [rngD_length]; omega)] <;> rfl
theorem EvI.zip {es : T} {ra rb : R} {xs ys : List D} (h : EvN Φ es env [ra, rb]) (ha : lstOf ra.d = some xs) (hb : lstOf rb.d = some ys) (hl : (zipD xs ys).length ≤ LIM) : EvI Φ (.szip es) env (zipD xs ys) := by
  unfold EvI
  show one1 ((ev Φ es env).bind _) = _
  rw [h.1]
  show one1 (match lstOf ra.d, lstOf rb.d with
      | some xs, some ys => srcR (zipD xs ys) env
      | _, _ => .no) = _
  rw [ha, hb]
  show one1 (if (zipD xs ys).length ≤ LIM then _ else _) = _
  rw [if_pos hl] <;> rfl
end
end FH
set_option Elab.async false
set_option linter.all false
set_option maxRecDepth 100000
set_option maxHeartbeats 2000000
namespace FH
open PySem PySem.Spec PyProof.Rows L2
def We (Φ : FT) (e : T) (X : Str → D → Prop) (env : En) (K : R → En → Prop) : Prop := OkM (one1 (ev Φ e env)) (fun a => K a.1 a.2) X
def Wa (Φ : FT) (es : T) (X : Str → D → Prop) (env : En) (K : List R → En → Prop) : Prop := OkM (ev Φ es env) (fun a => K a.1 a.2) X
def Wp (Φ : FT) (s : S) (X : Str → D → Prop) (env : En) (Q : Out → Prop) : Prop := OkM (ex Φ s env) Q X
/-- what follows a statement -/
def Nx (Φ : FT) (s : S) (X : Str → D → Prop) (Q : Out → Prop) : Out → Prop := fun o => match o with
  | .nx e => Wp Φ s X e Q
  | o => Q o
/-- what follows a turn -/
def Lp (K : En → Prop) (Q : Out → Prop) : Out → Prop := fun o => match o with
  | .nx e => K e
  | .ct e => K e
  | .bk e => Q (.nx e)
  | .rt r e => Q (.rt r e)
def NoX : Str → D → Prop := fun _ _ => False
section
variable {Φ : FT} {X : Str → D → Prop} {env : En} {Q : Out → Prop} {K : R → En → Prop} {KA : List R → En → Prop}
/-! ### expressions -/
theorem We.of {e : T} {r : R} (h : Ev Φ e env r) (k : K r env) : We Φ e X env K := OkM.of h k
theorem We.imp {e : T} {K' : R → En → Prop} (h : We Φ e X env K) (i : ∀ r e, K r e → K' r e) : We Φ e X env K' := OkM.imp h fun a q => i a.1 a.2 q
theorem We.mv {i : Nat} {r : R} (h : env[i]? = some (some r)) (k : K r (env.set i none)) : We Φ (.mv i) X env K := by
  refine OkM.of (a := (r, env.set i none)) ?_ k
  show one1 ((getS env i).bind _) = _
  unfold getS
  rw [h] <;> rfl
theorem Wa.nil (k : KA [] env) : Wa Φ .nil X env KA := k
theorem Wa.of {es : T} {rs : List R} (h : EvN Φ es env rs) (k : KA rs env) : Wa Φ es X env KA := OkM.of h.1 k
theorem Wa.cons {e es : T} (h : We Φ e X env fun r e1 => Wa Φ es X e1 fun rs e2 => KA (r :: rs) e2) : Wa Φ (.cons e es) X env KA :=
  OkM.bind (m := one1 (ev Φ e env)) (OkM.imp h fun a q => OkM.bind (OkM.imp q fun b z => z))
theorem Wa.consV {e es : T} {r : R} (h : Ev Φ e env r) (k : Wa Φ es X env fun rs e2 => KA (r :: rs) e2) : Wa Φ (.cons e es) X env KA := Wa.cons (We.of h k)
theorem one1_ok {m : M (List R × En)} {Q : R × En → Prop} (h : OkM m (fun a => ∃ r, a.1 = [r] ∧ Q (r, a.2)) X) : OkM (one1 m) Q X := by
  cases m with
  | ok a =>
    obtain ⟨r, e, q⟩ := h
    obtain ⟨rs, env⟩ := a
    cases e
    exact q
  | ex c d => exact h
  | no => exact h
theorem We.prim {p : P} {es : T} (h : Wa Φ es X env fun rs e1 => ∃ r, p.sem (rs.map R.d) = .ok r ∧ okRes rs r = true ∧ K r (backs (rs.map some) (bkOf es) e1)) : We Φ (.prim p es) X env K := by
  refine one1_ok (m := (ev Φ es env).bind _) (OkM.bind (OkM.imp h fun a q => ?_))
  obtain ⟨r, e1, e2, q⟩ := q
  refine OkM.bind (OkM.of e1 ?_)
  show OkM (if okRes a.1 r = true then _ else _) _ _
  rw [if_pos e2]
  exact ⟨r, rfl, q⟩
theorem We.mth {m : Mt} {e es : T} (h : We Φ e X env fun r e1 => m.okD r.d = true ∧ Wa Φ es X e1 fun rs e2 => ∃ q, semMt m (r.d :: rs.map R.d) = .ok q ∧ okRes (r :: rs) q = true ∧ K q (backs (some r :: rs.map some) (bkOf (.cons e es)) e2)) : We Φ (.mth m e es) X env K := by
  refine one1_ok (m := (one1 (ev Φ e env)).bind _) (OkM.bind (OkM.imp h fun a q => ?_))
  show OkM (if m.okD a.1.d = true then _ else _) _ _
  rw [if_pos q.1]
  refine OkM.bind (OkM.imp q.2 fun b z => ?_)
  obtain ⟨r, e1, e2, z⟩ := z
  refine OkM.bind (OkM.of e1 ?_)
  show OkM (if okRes (a.1 :: b.1) r = true then _ else _) _ _
  rw [if_pos e2]
  exact ⟨r, rfl, z⟩
theorem We.call {f : Str} {es : T} {g : Sem1} (hf : Φ f = some g) (h : Wa Φ es X env fun rs e1 => OkM (g rs) (fun c => K c.1 (backs c.2 (bkOf es) e1)) X) : We Φ (.call f es) X env K := by
  have e0 : ev Φ (.call f es) env = (match Φ f with
    | some g => (ev Φ es env).bind fun a => (g a.1).bind fun b => .ok ([b.1], backs b.2 (bkOf es) a.2)
    | none => .no) := rfl
  unfold We
  rw [e0, hf]
  exact one1_ok (OkM.bind (OkM.imp h fun a q => OkM.bind (OkM.imp q fun b z => ⟨b.1, rfl, z⟩)))
theorem We.lst {es : T} (h : Wa Φ es X env fun rs e1 => K (.ow (.lst none (rs.map R.d))) e1) : We Φ (.lst es) X env K := one1_ok (m := (ev Φ es env).bind _) (OkM.bind (OkM.imp h fun a q => ⟨_, rfl, q⟩))
theorem We.tup {es : T} (h : Wa Φ es X env fun rs e1 => K (.tp (rs.map cmpOf)) e1) : We Φ (.tup es) X env K := one1_ok (m := (ev Φ es env).bind _) (OkM.bind (OkM.imp h fun a q => ⟨_, rfl, q⟩))
theorem We.one {a : T} (h : We Φ a X env K) : We Φ (.one a) X env K := h
/-- a truth value -/
def WB (r : R) (KB : Bool → Prop) : Prop := ∃ t, r = .sh (.bl t) ∧ KB t
theorem WB.ok {r : R} {KB : Bool → Prop} (h : WB r KB) : OkM (asB r) KB X := by obtain ⟨t, rfl, q⟩ := h; exact q
theorem We.and {a b : T} (h : We Φ a X env fun r e1 => WB r fun t => (t = true → We Φ b X e1 K) ∧ (t = false → K (.sh (.bl false)) e1)) : We Φ (.and a b) X env K := by
  unfold We
  show OkM (one1 ((one1 (ev Φ a env)).bind _)) _ _
  rw [one1_bind]
  refine OkM.bind (OkM.imp h fun c q => ?_)
  rw [one1_bind]
  refine OkM.bind (OkM.imp q.ok fun t z => ?_)
  cases t with
  | true => exact z.1 rfl
  | false => exact z.2 rfl
theorem We.or {a b : T} (h : We Φ a X env fun r e1 => WB r fun t => (t = true → K (.sh (.bl true)) e1) ∧ (t = false → We Φ b X e1 K)) : We Φ (.or a b) X env K := by
  unfold We
  show OkM (one1 ((one1 (ev Φ a env)).bind _)) _ _
  rw [one1_bind]
  refine OkM.bind (OkM.imp h fun c q => ?_)
  rw [one1_bind]
  refine OkM.bind (OkM.imp q.ok fun t z => ?_)
  cases t with
  | true => exact z.1 rfl
  | false => exact z.2 rfl
theorem We.not {a : T} (h : We Φ a X env fun r e1 => WB r fun t => K (.sh (.bl (!t))) e1) : We Φ (.not a) X env K := by
  unfold We
  show OkM (one1 ((one1 (ev Φ a env)).bind _)) _ _
  rw [one1_bind]
  refine OkM.bind (OkM.imp h fun c q => ?_)
  rw [one1_bind]
  exact OkM.bind (OkM.imp q.ok fun t z => z)
theorem We.ite {c a b : T} (h : We Φ c X env fun r e1 => WB r fun t => (t = true → We Φ a X e1 K) ∧ (t = false → We Φ b X e1 K)) : We Φ (.ite c a b) X env K := by
  unfold We
  show OkM (one1 ((one1 (ev Φ c env)).bind _)) _ _
  rw [one1_bind]
  refine OkM.bind (OkM.imp h fun c q => ?_)
  rw [one1_bind]
  refine OkM.bind (OkM.imp q.ok fun t z => ?_)
  cases t with
  | true => exact z.1 rfl
  | false => exact z.2 rfl
/-- a comprehension whose turns change the frame: I done made frame -/
theorem We.comp {α : Type} {own : List (Str × Nat)} {elt src : T} {tg : Tg} {enc : α → D} {l : List α} (I : List α → List D → En → Prop) (hs : We Φ src X env fun r e1 => r = .sh (.lst none (l.map enc)) ∧ l.length ≤ LIM ∧ I [] [] (wipeE e1 (own.map (·.2))) ∧
      ∀ ys e2, I l ys e2 → K (.ow (.lst none ys)) (restore (own.map (·.2)) e1 e2))
    (step : ∀ done a rest ys e, l = done ++ a :: rest → I done ys e → ∃ e1, setT tg (enc a) e = .ok e1 ∧ We Φ elt NoX e1 fun r e2 => I (done ++ [a]) (ys ++ [r.d]) (wipeE e2 (own.map (·.2)))) : We Φ (.comp own elt tg src .nil) X env K := by
  unfold We
  show OkM (one1 ((one1 (ev Φ src env)).bind _)) _ _
  rw [one1_bind]
  refine OkM.bind (OkM.imp hs fun c q => ?_)
  obtain ⟨r, e1⟩ := c
  obtain ⟨h1, h2, h3, h4⟩ := q
  have h1' : r = .sh (.lst none (l.map enc)) := h1
  subst h1'
  have key : ∀ (rest done : List α) (ys : List D) (e : En), l = done ++ rest → I done ys e → OkM (compL (fun x env => ((setT tg x env).bind fun env => (condM .nil (ev Φ .nil) env).bind fun (t, env) =>
        if t then (one1 (ev Φ elt env)).bind fun (y, env) => .ok (some y.d, wipeE env (own.map (·.2))) else .ok (none, wipeE env (own.map (·.2)))).noex) (rest.map enc) e) (fun a => I l (ys ++ a.1) a.2) X := by
    intro rest
    induction rest with
    | nil =>
      intro done ys e he hI
      rw [List.append_nil] at he
      subst he
      show I l (ys ++ []) e
      rw [List.append_nil]
      exact hI
    | cons a rest ih =>
      intro done ys e he hI
      obtain ⟨e2, s1, s2⟩ := step done a rest ys e he hI
      show OkM ((M.noex ((setT tg (enc a) e).bind _)).bind _) _ _
      rw [s1]
      show OkM ((M.noex ((one1 (ev Φ elt e2)).bind _)).bind _) _ _
      have s3 : OkM (one1 (ev Φ elt e2)) (fun a' => I (done ++ [a]) (ys ++ [a'.1.d]) (wipeE a'.2 (own.map (·.2)))) NoX := s2
      cases e3 : one1 (ev Φ elt e2) with
      | no => rw [e3] at s3; exact s3.elim
      | ex c d => rw [e3] at s3; exact s3.elim
      | ok b =>
        rw [e3] at s3
        show OkM ((compL _ (rest.map enc) (wipeE b.2 (own.map (·.2)))).bind _) _ _
        refine OkM.bind (OkM.imp (ih (done ++ [a]) (ys ++ [b.1.d]) _ (by rw [he]; simp) s3) fun z w => ?_)
        show I l (ys ++ ([b.1.d] ++ z.1)) z.2
        rw [← List.append_assoc]
        exact w
  show OkM (one1 (if (l.map enc).length ≤ LIM then _ else _)) _ _
  rw [if_pos (by rw [List.length_map]; exact h2)]
  rw [one1_bind]
  refine OkM.bind (OkM.imp (key l [] [] _ rfl h3) fun a q => ?_)
  exact h4 _ _ (by simpa using q)
/-! ### statements -/
theorem Wp.imp {s : S} {Q' : Out → Prop} (h : Wp Φ s X env Q) (i : ∀ o, Q o → Q' o) : Wp Φ s X env Q' := OkM.imp h i
theorem Wp.nil (h : Q (.nx env)) : Wp Φ .nil X env Q := h
theorem Wp.seq {s r : S} (h : Wp Φ s X env (Nx Φ r X Q)) : Wp Φ (.seq s r) X env Q := by
  refine OkM.bind (m := ex Φ s env) (OkM.imp h fun o q => ?_)
  cases o <;> exact q
theorem Wp.at_env {s : S} {e : En} (h : Wp Φ s X e Q) (q : env = e) : Wp Φ s X env Q := by rw [q]; exact h
theorem Wp.asg {i : Nat} {e : T} {r : S} (h : We Φ e X env fun v e1 => Wp Φ r X (e1.set i (some v)) Q) : Wp Φ (.seq (.asg i e) r) X env Q := Wp.seq (OkM.bind (m := one1 (ev Φ e env)) (OkM.imp h fun a q => q))
theorem Wp.asgV {i : Nat} {e : T} {r : S} {v : R} (h : Ev Φ e env v) (k : Wp Φ r X (env.set i (some v)) Q) : Wp Φ (.seq (.asg i e) r) X env Q := Wp.asg (We.of h k)
theorem Wp.expr {e : T} {r : S} (h : We Φ e X env fun _ e1 => Wp Φ r X e1 Q) : Wp Φ (.seq (.expr e) r) X env Q := Wp.seq (OkM.bind (m := one1 (ev Φ e env)) (OkM.imp h fun a q => q))
theorem Wp.ret {e : T} {r : S} (h : We Φ e X env fun v e1 => Q (.rt v e1)) : Wp Φ (.seq (.ret e) r) X env Q := Wp.seq (OkM.bind (m := one1 (ev Φ e env)) (OkM.imp h fun a q => q))
theorem Wp.retV {e : T} {r : S} {v : R} (h : Ev Φ e env v) (k : Q (.rt v env)) : Wp Φ (.seq (.ret e) r) X env Q := Wp.ret (We.of h k)
theorem Wp.ret0 {r : S} (k : Q (.rt (.sh .non) env)) : Wp Φ (.seq .ret0 r) X env Q := Wp.seq k
theorem Wp.cont {r : S} (k : Q (.ct env)) : Wp Φ (.seq .cont r) X env Q := Wp.seq k
theorem Wp.brk {r : S} (k : Q (.bk env)) : Wp Φ (.seq .brk r) X env Q := Wp.seq k
theorem Wp.ifs {c : T} {a b r : S} (h : We Φ c X env fun v e1 => WB v fun t => (t = true → Wp Φ a X e1 (Nx Φ r X Q)) ∧ (t = false → Wp Φ b X e1 (Nx Φ r X Q))) : Wp Φ (.seq (.ifs c a b) r) X env Q := by
  refine Wp.seq (OkM.bind (m := one1 (ev Φ c env)) (OkM.imp h fun v q => OkM.bind (OkM.imp q.ok fun t z => ?_)))
  cases t with
  | true => exact z.1 rfl
  | false => exact z.2 rfl
theorem Wp.ifV {c : T} {a b r : S} {t : Bool} (h : Ev Φ c env (.sh (.bl t))) (k1 : t = true → Wp Φ a X env (Nx Φ r X Q)) (k2 : t = false → Wp Φ b X env (Nx Φ r X Q)) : Wp Φ (.seq (.ifs c a b) r) X env Q := Wp.ifs (We.of h ⟨t, rfl, k1, k2⟩)
/-- if c: a, no else -/
theorem Wp.if1 {c : T} {a r : S} {t : Bool} (h : Ev Φ c env (.sh (.bl t))) (k1 : t = true → Wp Φ a X env (Nx Φ r X Q)) (k2 : t = false → Wp Φ r X env Q) : Wp Φ (.seq (.ifs c a .nil) r) X env Q := Wp.ifV h k1 k2
theorem Wp.unp {is : List Nat} {e : T} {r : S} (h : We Φ e X env fun v e1 => ∃ rs e2, unR v = some rs ∧ setRs is rs e1 = .ok e2 ∧ Wp Φ r X e2 Q) : Wp Φ (.seq (.unp is e) r) X env Q := by
  refine Wp.seq (OkM.bind (m := one1 (ev Φ e env)) (OkM.imp h fun v q => ?_))
  obtain ⟨rs, e2, h1, h2, h3⟩ := q
  simp only [h1]
  show OkM ((setRs is rs v.2).bind _) _ _
  rw [h2]
  exact h3
theorem Wp.par {i j : Nat} {es : T} {r : S} (h : Wa Φ es X env fun rs e1 => ∃ a b, rs = [a, b] ∧ Wp Φ r X ((e1.set i (some a)).set j (some b)) Q) : Wp Φ (.seq (.par i j es) r) X env Q := by
  refine Wp.seq (OkM.bind (m := ev Φ es env) (OkM.imp h fun v q => ?_))
  obtain ⟨a, b, h1, h2⟩ := q
  obtain ⟨rs, e1⟩ := v
  have h1' : rs = [a, b] := h1
  subst h1'
  exact h2
theorem Wp.setx {i : Nat} {ix e : T} {r : S} (h : We Φ e X env fun v e1 => ∃ o, e1[i]? = some (some o) ∧ We Φ ix X (e1.set i none) fun k e2 => ∃ o', setO o k.d v.d = some o' ∧ Wp Φ r X (e2.set i (some o')) Q) : Wp Φ (.seq (.setx i ix e) r) X env Q := by
  refine Wp.seq (OkM.bind (m := one1 (ev Φ e env)) (OkM.imp h fun v q => ?_))
  obtain ⟨o, h1, h2⟩ := q
  show OkM ((getS v.2 i).bind _) _ _
  rw [getS_ok h1]
  show OkM ((one1 (ev Φ ix (v.2.set i none))).bind _) _ _
  refine OkM.bind (OkM.imp h2 fun k z => ?_)
  obtain ⟨o', h3, h4⟩ := z
  simp only [h3]
  exact h4
theorem Wp.app {i : Nat} {e : T} {r : S} {t : Option Addr} {xs : List D} (h1 : env[i]? = some (some (.ow (.lst t xs)))) (h : We Φ e X (env.set i none) fun v e1 => xs.length ≤ LIM ∧ Wp Φ r X (e1.set i (some (.ow (.lst t (xs ++ [v.d]))))) Q) : Wp Φ (.seq (.app i e) r) X env Q := by
  refine Wp.seq ?_
  show OkM ((getS env i).bind _) _ _
  rw [getS_ok h1]
  show OkM ((one1 (ev Φ e (env.set i none))).bind _) _ _
  refine OkM.bind (OkM.imp h fun v q => ?_)
  show OkM (if xs.length ≤ LIM then _ else _) _ _
  rw [if_pos q.1]
  exact q.2
theorem set_app {i : Nat} {a : Option R} {o : R} (h : env[i]? = some (some o)) : ((env.set i none).set i a) = env.set i a := by rw [List.set_set]
theorem Wp.appV {i : Nat} {e : T} {r : S} {t : Option Addr} {xs : List D} {v : R} (h1 : env[i]? = some (some (.ow (.lst t xs)))) (h : Ev Φ e (env.set i none) v) (hl : xs.length ≤ LIM) (k : Wp Φ r X (env.set i (some (.ow (.lst t (xs ++ [v.d]))))) Q) : Wp Φ (.seq (.app i e) r) X env Q :=
  Wp.app h1 (We.of h ⟨hl, by rw [List.set_set]; exact k⟩)
theorem Wp.ext {i : Nat} {e : T} {r : S} {t : Option Addr} {xs : List D} (h1 : env[i]? = some (some (.ow (.lst t xs)))) (h : We Φ e X (env.set i none) fun v e1 => ∃ t' ys, v.d = .lst t' ys ∧ xs.length + ys.length ≤ LIM ∧ Wp Φ r X (e1.set i (some (.ow (.lst t (xs ++ ys))))) Q) : Wp Φ (.seq (.ext i e) r) X env Q := by
  refine Wp.seq ?_
  show OkM ((getS env i).bind _) _ _
  rw [getS_ok h1]
  show OkM ((one1 (ev Φ e (env.set i none))).bind _) _ _
  refine OkM.bind (OkM.imp h fun v q => ?_)
  obtain ⟨t', ys, h2, h3, h4⟩ := q
  simp only [h2]
  show OkM (if xs.length + ys.length ≤ LIM then _ else _) _ _
  rw [if_pos h3]
  exact h4
/-- a for: I done frame -/
theorem Wp.for_ {α : Type} {tg : Tg} {src : T} {body r : S} {enc : α → D} {l : List α} (I : List α → En → Prop) (hs : We Φ src X env fun v e1 => v = .sh (.lst none (l.map enc)) ∧ I [] e1)
    (step : ∀ done a rest e, l = done ++ a :: rest → I done e → ∃ e1, setT tg (enc a) e = .ok e1 ∧ Wp Φ body X e1 (Lp (I (done ++ [a])) (Nx Φ r X Q))) (fin : ∀ e, I l e → Wp Φ r X e Q) : Wp Φ (.seq (.for tg src body) r) X env Q := by
  refine Wp.seq (OkM.bind (m := one1 (ev Φ src env)) (OkM.imp hs fun v q => ?_))
  obtain ⟨v, e0⟩ := v
  obtain ⟨h1, h2⟩ := q
  have h1' : v = .sh (.lst none (l.map enc)) := h1
  subst h1'
  have key : ∀ (rest done : List α) (e : En), l = done ++ rest → I done e → OkM (exL (fun x env => (setT tg x env).bind fun env => ex Φ body env) (rest.map enc) e) (Nx Φ r X Q) X := by
    intro rest
    induction rest with
    | nil =>
      intro done e he hI
      rw [List.append_nil] at he
      subst he
      exact fin e hI
    | cons a rest ih =>
      intro done e he hI
      obtain ⟨e1, s1, s2⟩ := step done a rest e he hI
      show OkM (((setT tg (enc a) e).bind _).bind _) _ _
      rw [s1]
      show OkM ((ex Φ body e1).bind _) _ _
      refine OkM.bind (OkM.imp s2 fun o w => ?_)
      cases o with
      | nx e2 => exact ih (done ++ [a]) e2 (by rw [he]; simp) w
      | ct e2 => exact ih (done ++ [a]) e2 (by rw [he]; simp) w
      | bk e2 => exact w
      | rt v e2 => exact w
  exact key l [] e0 rfl h2
/-- a for over a row made on the way -/
theorem Wp.forE {tg : Tg} {src : T} {body r : S} (hs : We Φ src X env fun v e1 => ∃ (xs : List D) (I : List D → En → Prop), v = .sh (.lst none xs) ∧ I [] e1 ∧
      (∀ done a rest e, xs = done ++ a :: rest → I done e → ∃ e1, setT tg a e = .ok e1 ∧ Wp Φ body X e1 (Lp (I (done ++ [a])) (Nx Φ r X Q))) ∧ ∀ e, I xs e → Wp Φ r X e Q) : Wp Φ (.seq (.for tg src body) r) X env Q := by
  refine Wp.seq (OkM.bind (m := one1 (ev Φ src env)) (OkM.imp hs fun v q => ?_))
  obtain ⟨v, e0⟩ := v
  obtain ⟨xs, I, h1, h2, step, fin⟩ := q
  have h1' : v = .sh (.lst none xs) := h1
  subst h1'
  have key : ∀ (rest done : List D) (e : En), xs = done ++ rest → I done e → OkM (exL (fun x env => (setT tg x env).bind fun env => ex Φ body env) rest e) (Nx Φ r X Q) X := by
    intro rest
    induction rest with
    | nil =>
      intro done e he hI
      rw [List.append_nil] at he
      subst he
      exact fin e hI
    | cons a rest ih =>
      intro done e he hI
      obtain ⟨e1, s1, s2⟩ := step done a rest e he hI
      show OkM (((setT tg a e).bind _).bind _) _ _
      rw [s1]
      show OkM ((ex Φ body e1).bind _) _ _
      refine OkM.bind (OkM.imp s2 fun o w => ?_)
      cases o with
      | nx e2 => exact ih (done ++ [a]) e2 (by rw [he]; simp) w
      | ct e2 => exact ih (done ++ [a]) e2 (by rw [he]; simp) w
      | bk e2 => exact w
      | rt v e2 => exact w
  exact key xs [] e0 rfl h2
theorem Wp.forV {α : Type} {tg : Tg} {src : T} {body r : S} {enc : α → D} {l : List α} (I : List α → En → Prop) (hs : EvI Φ src env (l.map enc)) (h0 : I [] env)
    (step : ∀ done a rest e, l = done ++ a :: rest → I done e → ∃ e1, setT tg (enc a) e = .ok e1 ∧ Wp Φ body X e1 (Lp (I (done ++ [a])) (Nx Φ r X Q))) (fin : ∀ e, I l e → Wp Φ r X e Q) : Wp Φ (.seq (.for tg src body) r) X env Q :=
  Wp.for_ I (We.of hs ⟨rfl, h0⟩) step fin
/-- a while: I turns-left frame -/
theorem Wp.while_ {n : Nat} {c : T} {body r : S} (I : Nat → En → Prop) (h0 : ∃ m, m < n ∧ I m env) (step : ∀ m e, I m e → We Φ c X e fun v e1 => WB v fun t => (t = true → Wp Φ body X e1 (Lp (fun e2 => ∃ m', m' < m ∧ I m' e2) (Nx Φ r X Q))) ∧ (t = false → Wp Φ r X e1 Q)) : Wp Φ (.seq (.while n c body) r) X env Q := by
  refine Wp.seq ?_
  show OkM (exW (fun env => (one1 (ev Φ c env)).bind fun (r, env1) => (asB r).bind fun t => .ok (t, env1)) (ex Φ body) n env) (Nx Φ r X Q) X
  induction n generalizing env with
  | zero => obtain ⟨m, hm, _⟩ := h0; omega
  | succ n ih =>
    obtain ⟨m, hm, hI⟩ := h0
    show OkM (((one1 (ev Φ c env)).bind _).bind _) _ _
    refine OkM.bind (OkM.bind (OkM.imp (step m env hI) fun v q => OkM.bind (OkM.imp q.ok fun t z => ?_)))
    cases t with
    | false => exact z.2 rfl
    | true =>
      show OkM ((ex Φ body v.2).bind _) _ _
      refine OkM.bind (OkM.imp (z.1 rfl) fun o w => ?_)
      cases o with
      | nx e2 => obtain ⟨m', h1, h2⟩ := w; exact ih ⟨m', by omega, h2⟩
      | ct e2 => obtain ⟨m', h1, h2⟩ := w; exact ih ⟨m', by omega, h2⟩
      | bk e2 => exact w
      | rt v e2 => exact w
end
/-! ### defs -/
/-- the arguments that are not lent are shared -/
def frz (io : List Nat) : Nat → List R → List R
  | _, [] => []
  | j, r :: rs => (if j ∈ io then r else sh1 r) :: frz io (j + 1) rs
theorem frz_len {io : List Nat} : ∀ {rs : List R} {j : Nat}, (frz io j rs).length = rs.length
  | [], _ => rfl
  | r :: rs, j => by
    show (frz io (j + 1) rs).length + 1 = _
    rw [frz_len] <;> rfl
theorem frz_nil : ∀ {rs : List R} {j : Nat}, frz [] j rs = (rs.map R.d).map R.sh
  | [], _ => rfl
  | r :: rs, j => by
    show (if j ∈ [] then r else sh1 r) :: frz [] (j + 1) rs = _
    rw [if_neg List.not_mem_nil, frz_nil] <;> rfl
/-- a def's meaning over the meanings Φ -/
def dG (Φ : FT) (n m : Nat) (io : List Nat) (B : S) : Sem1 := fun rs => if rs.length = m then runF Φ n io B (frz io 0 rs) else .no
/-- how a def's outcome is told -/
def Told (io : List Nat) (m : Nat) (K : R × List (Option R) → Prop) : Out → Prop := fun o => match o with
  | .rt r env => K (r, outsOf io m env)
  | .nx env => K (.sh .non, outsOf io m env)
  | _ => False
section
variable {Φ : FT} {X : Str → D → Prop}
theorem dG_ok {n m : Nat} {io : List Nat} {B : S} {rs : List R} {K : R × List (Option R) → Prop} (e : rs.length = m) (h : Wp Φ B X ((frz io 0 rs).map some ++ List.replicate (n - m) none) (Told io m K)) : OkM (dG Φ n m io B rs) K X := by
  unfold dG
  subst e
  refine okIf rfl ?_
  unfold runF
  rw [frz_len]
  refine OkM.bind (m := ex Φ B ((frz io 0 rs).map some ++ List.replicate (n - rs.length) none)) (OkM.imp h fun o q => ?_)
  cases o with
  | rt r env => exact q
  | nx env => exact q
  | bk env => exact q.elim
  | ct env => exact q.elim
theorem okM_eq {α : Type} {m : M α} {a : α} (h : OkM m (fun b => b = a) NoX) : m = .ok a := by
  cases m with
  | ok b => exact congrArg M.ok h
  | ex c d => exact h.elim
  | no => exact h.elim
theorem outs_nil {m : Nat} {env : En} : outsOf [] m env = List.replicate m none := by
  have : ∀ l : List Nat, (l.map fun j => if j ∈ ([] : List Nat) then env[j]?.join else none) = List.replicate l.length (none : Option R) := by
    intro l
    induction l with
    | nil => rfl
    | cons a l ih => rw [List.map_cons, ih, if_neg (List.not_mem_nil)] <;> rfl
  unfold outsOf
  rw [this, List.length_range]
/-- a pure def's answer -/
def Ans (r : R) : Out → Prop := fun o => match o with
  | .rt q _ => q = r
  | _ => False
theorem dG_eq {n m : Nat} {B : S} {rs : List R} {ds : List D} {r : R} (hd : rs.map R.d = ds) (e : ds.length = m) (h : Wp Φ B NoX ((ds.map fun d => some (.sh d)) ++ List.replicate (n - m) none) (Ans r)) : dG Φ n m [] B rs = .ok (r, List.replicate m none) := by
  subst hd
  rw [List.length_map] at e
  refine okM_eq (dG_ok e ?_)
  rw [frz_nil, List.map_map]
  refine Wp.imp h fun o q => ?_
  cases o with
  | rt v env =>
    have q' : v = r := q
    subst q'
    show (v, outsOf [] m env) = _
    rw [outs_nil]
  | nx env => exact q.elim
  | bk env => exact q.elim
  | ct env => exact q.elim
end
end FH
set_option Elab.async false
set_option linter.all false
set_option maxRecDepth 100000
set_option maxHeartbeats 2000000
namespace FH
open PySem PySem.Spec PyProof.Rows L2
/-- a def: its name, its names by slot, its parameters, the slots lent back, its body -/
structure DT where
  name : Str
  N : List Str
  ps : List Str
  io : List Nat
  B : S
def findT (tab : List DT) (x : Str) : Option DT := tab.find? fun d => decide (d.name = x)
/-- the defs' meanings, calls nested at most so deep -/
def PT (tab : List DT) : Nat → FT
  | 0 => fun _ => none
  | n + 1 => fun x => (findT tab x).map fun d => dG (PT tab n) d.N.length d.ps.length d.io d.B
theorem PT_eq {tab : List DT} {n : Nat} {x : Str} {d : DT} (h : findT tab x = some d) : PT tab (n + 1) x = some (dG (PT tab n) d.N.length d.ps.length d.io d.B) := by
  show (findT tab x).map _ = _
  rw [h] <;> rfl
/-- how a def binds -/
def BindOk (ps : List Str) (st : Stmt) (x : Str) : Prop := ∀ (kV doc pm : Value) (an : Option Addr) (cdv ct : Value) (us : List Value), us.length = ps.length → bindArgs (PySem.W.fnOf x x (defArgs st) (defBody st) (defScope st) .none kV doc pm an cdv ct) ⟨us, []⟩ = pure (ps.zip us)
/-- a def fits the text st -/
structure FitD (gs : List (Str × V)) (d : DT) (st : Stmt) : Prop where
  fit : mSs ⟨d.N, defScope st, fun _ => true, gs⟩ d.io d.B (defBody st) = true
  sc : scOk d.N d.ps (defScope st) = true
  bind : BindOk d.ps st d.name
def datD (d : DT) (st : Stmt) : He.DefD := ⟨(d.name, none), d.name, d.name, defArgs st, defBody st, defScope st, [], []⟩
def FitAll (gs : List (Str × V)) : List (DT × Stmt) → Prop
  | [] => True
  | p :: r => FitD gs p.1 p.2 ∧ FitAll gs r
theorem FitAll.mem {gs : List (Str × V)} : ∀ {l : List (DT × Stmt)} {p : DT × Stmt}, FitAll gs l → p ∈ l → FitD gs p.1 p.2
  | q :: r, p, h, m => by
    rcases List.mem_cons.mp m with e | e
    · rw [e]; exact h.1
    · exact FitAll.mem h.2 e
def gFa : Str × V → He.Fa
  | (x, .int i) => .int x i
  | (x, .str s) => .str x s
  | (x, _) => .free x
def gOk : Str × V → Bool
  | (_, .int _) => true
  | (_, .str _) => true
  | _ => false
def faOf (l : List (DT × Stmt)) (gs : List (Str × V)) : List He.Fa := (l.map fun p => He.Fa.glo p.1.name) ++ (bnames.map He.Fa.free ++ gs.map gFa)
def fnOfT (l : List (DT × Stmt)) : List He.DefD := l.map fun p => datD p.1 p.2
section
variable {fa : List He.Fa} {fn : List He.DefD} {K : PySem.W.Frag}
theorem says_fact (c : He.SaysD fa fn K) {f : He.Fa} (h : f ∈ fa) : f.ok K = true := by
  obtain ⟨i, hi⟩ := List.mem_iff_getElem?.mp h
  exact c.fact i hi
theorem says_def (c : He.SaysD fa fn K) {d : He.DefD} (h : d ∈ fn) : ∃ fd, FunD K d.name d.qual d.params d.body d.scope (d.dvs K) (d.kws K) (He.fAd K d.at_) fd := by
  obtain ⟨i, hi⟩ := List.mem_iff_getElem?.mp h
  exact c.def_ i hi
theorem FunD.plain {x : Str} {st : Stmt} {f : Addr} {fd : FuncData} (F : FunD K x x (defArgs st) (defBody st) (defScope st) [] [] f fd) : Fun K x x st f fd := by
  obtain ⟨oc, od, dV, kV, doc, pm, an, cdv, ct, osl, e, lk, cd, dv, kw⟩ := F.ex
  rcases dv with ⟨_, rfl⟩ | ⟨z, _⟩
  · exact ⟨⟨oc, od, kV, doc, pm, an, cdv, ct, osl, e, lk, cd⟩, F.kp⟩
  · exact absurd rfl z
end
/-! ### shared arguments -/
def aIo (io : List Nat) : Act := fun l => match l with
  | .s j c => if j ∈ io then some (some (.s j c)) else none
  | .t j c => some (some (.t j c))
theorem aIo_low (io : List Nat) : Low 0 (aIo io) := fun _ _ h => absurd h (Nat.not_lt_zero _)
theorem reps_frz {ca : Cs} {F H : Hp} {O : Own} {io : List Nat} (b : Bs F O H) : ∀ {rs : List R} {k : Nat} {vs : List V}, RepRs ca F H O Lab.s k rs vs → RepRs ca (mF (aIo io) O F H) H (mO (aIo io) O) Lab.s k (frz io k rs) vs
  | [], k, vs, h => h
  | r :: rs, k, vs, h => by
    obtain ⟨v, w, h1, h2, h3⟩ := h
    refine ⟨v, w, h1, ?_, reps_frz b h3⟩
    by_cases hk : k ∈ io
    · rw [if_pos hk]
      exact h2.map b fun c => (show (if k ∈ io then some (some (Lab.s k c)) else none) = _ from if_pos hk)
    · rw [if_neg hk]
      exact h2.frz b fun c => (show (if k ∈ io then some (some (Lab.s k c)) else none) = _ from if_neg hk)
theorem spD_frz {ca : Cs} {g : Sem1} {io : List Nat} {vs : List V} {H : Hp} {Q : VK} {E : XK} (h : spD ca (fun rs => g (frz io 0 rs)) vs H Q E) : spD ca g vs H Q E := by
  obtain ⟨F, O, rs, b, lo, rr, q⟩ := h
  refine ⟨mF (aIo io) O F H, mO (aIo io) O, frz io 0 rs, b.map _, fun a l z => ?_, reps_frz b rr, ?_⟩
  · obtain ⟨l0, h1, h2⟩ := mO_inv z
    obtain ⟨i, c, rfl⟩ := lo a l0 h1
    have h2' : (if i ∈ io then some (some (Lab.s i c)) else none) = some (some l) := h2
    split at h2'
    · cases h2'; exact ⟨i, c, rfl⟩
    · cases h2'
  · have st := b.stp (aIo_low io)
    simp only at q
    cases e : g (frz io 0 rs) with
    | no => rw [e] at q; exact q
    | ok p =>
      obtain ⟨r, outs⟩ := p
      rw [e] at q
      exact fun v F' O' H' st' => q v F' O' H' (st.trans st')
    | ex c d =>
      rw [e] at q
      exact fun dx v n F' O' H' st' => q dx v n F' O' H' (st.trans st')
theorem FnG.weak {P : Program} {w : World} {K : PySem.W.Frag} {mg : Str → Option Value} {base : Heap} {k : Nat} {f : Addr} {fd : FuncData} {ps : List Str} {sp sp' : Sp} (F : FnG P w K mg base k f fd ps sp) (h : ∀ vs H Q E, sp' vs H Q E → sp vs H Q E) : FnG P w K mg base k f fd ps sp' :=
  ⟨fun vs H Q E z => F.len vs H Q E (h vs H Q E z), fun A outer s H args us vs Q E r e b v z => F.run A outer s H args us vs Q E r e b v (h vs H Q E z)⟩
theorem dG_sp {ca : Cs} {Φ : FT} {n m : Nat} {io : List Nat} {B : S} {vs : List V} {H : Hp} {Q : VK} {E : XK} (h : spD ca (dG Φ n m io B) vs H Q E) : spD ca (fun rs => if rs.length = m then runF Φ n io B rs else .no) vs H Q E := by
  refine spD_frz (io := io) ?_
  have e : (fun rs => (fun rs : List R => if rs.length = m then runF Φ n io B rs else .no) (frz io 0 rs)) = dG Φ n m io B := by
    funext rs
    show (if (frz io 0 rs).length = m then _ else _) = _
    rw [frz_len] <;> rfl
  rw [e]
  exact h
section
variable {P : Program} {w : World} {K : PySem.W.Frag} {mg : Str → Option Value} {h : Heap} {gs : List (Str × V)} {l : List (DT × Stmt)}
theorem mdl_all (X : K.In h) (G : h.Ns mainGlobals mg) (c : He.SaysD (faOf l gs) (fnOfT l) K) (hg : gs.all gOk = true) (fit : FitAll gs l) (ca : Cs) (hK : ca.K = K) (base : Heap) : ∀ n : Nat, Mdl P w K mg base ca (PT (l.map (·.1)) n) gs (n + 1) := by
  intro n
  have un : ∀ x, x ∈ bnames → mg x = none := fun x hx => He.free_ok X G (says_fact c (List.mem_append_right _ (List.mem_append_left _ (List.mem_map.mpr ⟨x, hx, rfl⟩))))
  have gv : ∀ p, p ∈ gs → ∃ u, mg p.1 = some u ∧ RelV p.2 u := by
    rintro ⟨x, v⟩ hp
    have m : gFa (x, v) ∈ faOf l gs := List.mem_append_right _ (List.mem_append_right _ (List.mem_map.mpr ⟨_, hp, rfl⟩))
    have ok := List.all_eq_true.mp hg _ hp
    cases v with
    | int i => obtain ⟨t, e⟩ := He.int_ok X G (says_fact c m); exact ⟨_, e, t, rfl⟩
    | str s => obtain ⟨t, e⟩ := He.str_ok X G (says_fact c m); exact ⟨_, e, t, rfl⟩
    | _ => cases ok
  induction n with
  | zero => exact ⟨un, gv, fun x g hx => by cases hx⟩
  | succ n ih =>
    refine ⟨un, gv, fun x g hx => ?_⟩
    cases e : findT (l.map (·.1)) x with
    | none =>
      have : PT (l.map (·.1)) (n + 1) x = none := by
        show (findT (l.map (·.1)) x).map _ = none
        rw [e] <;> rfl
      rw [this] at hx
      cases hx
    | some d =>
      rw [PT_eq e] at hx
      have hx' := Option.some.inj hx
      subst hx'
      have hm := List.mem_of_find?_eq_some e
      have hn : d.name = x := of_decide_eq_true (List.find?_some (p := fun d : DT => decide (d.name = x)) e)
      subst hn
      obtain ⟨p, hp, rfl⟩ := List.mem_map.mp hm
      have f := FitAll.mem fit hp
      obtain ⟨fd, F⟩ := says_def c (List.mem_map.mpr ⟨p, hp, rfl⟩ : datD p.1 p.2 ∈ fnOfT l)
      have F' : FunD K p.1.name p.1.name (defArgs p.2) (defBody p.2) (defScope p.2) [] [] (He.ga K p.1.name) fd := F
      refine ⟨He.ga K p.1.name, fd, p.1.ps, ?_, He.glo_ok X G (says_fact c (List.mem_append_left _ (List.mem_map.mpr ⟨p, hp, rfl⟩))), F'.kp, F'.bindsN f.bind⟩
      exact (fnG_run (FunD.plain F') (scope_ok f.sc) hK ih f.fit).weak fun _ _ _ _ z => dG_sp z
theorem law_facts (X : K.In h) (G : h.Ns mainGlobals mg) (c : He.SaysD (faOf l gs) (fnOfT l) K) (hg : gs.all gOk = true) (fit : FitAll gs l) {f : Addr} (hfa : mg ("law" : Str) = some (.ref f)) {d : DT} {st : Stmt} {x : Str} (hd : (d, st) ∈ l) (hx : d.name = "law") (hp : d.ps = [x]) (n : Nat) :
    ∃ fd : FuncData, (∀ (s : Shared) (u : Value), BindsTo s fd ⟨[u], []⟩ [(x, u)]) ∧ ∀ base : Heap, FnG P w K mg base (n + 2) f fd [x] (spD ⟨fun _ => 0, K⟩ (dG (PT (l.map (·.1)) n) d.N.length 1 d.io d.B)) := by
  have fi := FitAll.mem fit hd
  obtain ⟨fd, F⟩ := says_def c (List.mem_map.mpr ⟨(d, st), hd, rfl⟩ : datD d st ∈ fnOfT l)
  have F' : FunD K d.name d.name (defArgs st) (defBody st) (defScope st) [] [] (He.ga K d.name) fd := F
  have e0 : mg d.name = some (.ref (He.ga K d.name)) := He.glo_ok X G (says_fact c (List.mem_append_left _ (List.mem_map.mpr ⟨(d, st), hd, rfl⟩)))
  have e : some (Value.ref f) = some (Value.ref (He.ga K d.name)) := by rw [← hfa, ← e0, hx]
  cases e
  have b := FunD.bindsA (ps := d.ps) F' fi.bind
  refine ⟨fd, fun s u => ?_, fun base => ?_⟩
  · have := b s [u] (by rw [hp] <;> rfl)
    rw [hp] at this
    exact this
  · have k := fnG_run (P := P) (w := w) (FunD.plain F') (scope_ok fi.sc) rfl (mdl_all (P := P) (w := w) X G c hg fit ⟨fun _ => 0, K⟩ rfl base n) fi.fit
    have k2 := k.weak (sp' := spD ⟨fun _ => 0, K⟩ (dG (PT (l.map (·.1)) n) d.N.length d.ps.length d.io d.B)) fun _ _ _ _ z => dG_sp z
    rw [hp] at k2
    exact k2
end
end FH
set_option Elab.async false
set_option linter.all false
set_option maxRecDepth 100000
set_option maxHeartbeats 2000000
namespace FH
open PySem PySem.Spec PyProof.Rows L2
abbrev cS (l : List Nat) : Str := ⟨l.toArray⟩
abbrev dS (l : List Nat) : D := .str (cS l)
abbrev dC (c : Nat) : D := .str (cS [c])
abbrev rS (l : List Nat) : R := .sh (.str (cS l))
abbrev rZ (i : Int) : R := .sh (.int i)
abbrev rB (b : Bool) : R := .sh (.bl b)
theorem cS_len {l : List Nat} : (cS l).length = l.length := by simp [Str.length]
theorem cS_app {a b : List Nat} : cS a ++ cS b = cS (a ++ b) := TL.ext_tl (by rw [TL.tl_append])
theorem cS_inj {a b : List Nat} : cS a = cS b ↔ a = b := ⟨fun h => by have := congrArg TL.tl h; exact this, fun h => by rw [h]⟩
theorem cS_dec {a b : List Nat} : decide (cS a = cS b) = decide (a = b) := by rw [decide_eq_decide]; exact cS_inj
theorem cS_tl (s : Str) : s = cS s.cps.toList := (TL.mk_tl s).symm
theorem cS_lit (s : String) : Str.ofString s = cS (s.toList.map Char.toNat) := Str.ofString_eq_toList s
abbrev ABC : List Nat := [97, 98, 99, 100, 101, 102, 103, 104, 105, 106, 107, 108, 109, 110, 111, 112, 113, 114, 115, 116, 117, 118, 119, 120, 121, 122]
abbrev FIG : List Nat := [49, 50, 51, 52, 53, 54, 55, 56, 57]
theorem abc_eq : Str.ofString "abcdefghijklmnopqrstuvwxyz" = cS ABC := by decide +kernel
theorem fig_eq : Str.ofString "123456789" = cS FIG := by decide +kernel
theorem emp_eq : Str.ofString "" = cS [] := by decide +kernel
section
variable {Φ : FT} {env : En}
theorem Ev.litS {s : Str} {l : List Nat} (h : s = cS l) : Ev Φ (.lit (.str s)) env (rS l) := by rw [h]; exact Ev.lit
theorem Ev.glbS {x s : Str} {l : List Nat} (h : s = cS l) : Ev Φ (.glb x (.str s)) env (rS l) := by rw [h]; exact Ev.glb
end
/-! ### operations -/
theorem sem_addS {a b : List Nat} (h : a.length + b.length ≤ LIM) : P.sem (.bin .Add) [dS a, dS b] = .ok (rS (a ++ b)) := by
  show (if (cS a).length + (cS b).length ≤ LIM then ms (cS a ++ cS b) else .no) = _
  rw [cS_len, cS_len, if_pos h, cS_app] <;> rfl
theorem sem_addL {a b : List D} {s t : Option Addr} (h : a.length + b.length ≤ LIM) : P.sem (.bin .Add) [.lst s a, .lst t b] = .ok (.ow (.lst none (a ++ b))) := if_pos h
theorem sem_mul {i j : Int} (h : (small i || small j) = true) : P.sem (.bin .Mult) [.int i, .int j] = .ok (rZ (i * j)) := if_pos h
theorem sem_mulC {i j : Int} (h : (-1000000 ≤ i ∧ i ≤ 1000000) ∨ (-1000000 ≤ j ∧ j ≤ 1000000)) : P.sem (.bin .Mult) [.int i, .int j] = .ok (rZ (i * j)) := if_pos (by simp [small]; omega)
theorem sem_fdiv {i j : Int} (h : 0 < j) (k : j < 1073741824) : P.sem (.bin .FloorDiv) [.int i, .int j] = .ok (rZ (i / j)) := if_pos ⟨h, k⟩
theorem sem_mod {i j : Int} (h : 0 < j) : P.sem (.bin .Mod) [.int i, .int j] = .ok (rZ (i % j)) := if_pos h
theorem sem_pow {i j : Int} (h : 0 ≤ j) (h2 : j ≤ 1000000) (h3 : i.natAbs < 2 ^ 64) : P.sem (.bin .Pow) [.int i, .int j] = .ok (rZ (i ^ j.toNat)) := if_pos ⟨h, h2, h3⟩
theorem sem_mulL {t : Option Addr} {xs : List D} {j : Int} (h : -1000000 ≤ j) (h2 : j ≤ 1000000) (h3 : xs.length * j.toNat ≤ LIM) : P.sem (.bin .Mult) [.lst t xs, .int j] = .ok (.ow (.lst none (List.replicate j.toNat xs).flatten)) := if_pos ⟨h, h2, h3⟩
theorem sem_mulS {a : List Nat} {j : Int} (h : -1000000 ≤ j) (h2 : j ≤ 1000000) (h3 : a.length * j.toNat ≤ LIM) : P.sem (.bin .Mult) [dS a, .int j] = .ok (rS (List.replicate j.toNat a).flatten) := by
  show (if -1000000 ≤ j ∧ j ≤ 1000000 ∧ (cS a).length * j.toNat ≤ LIM then ms (strRep (cS a) j.toNat) else .no) = _
  rw [cS_len, if_pos ⟨h, h2, h3⟩] <;> rfl
theorem sem_lenS {a : List Nat} (h : a.length ≤ LIM) : P.sem (.fn .len) [dS a] = .ok (rZ a.length) := by
  show (if (cS a).length ≤ LIM then mi (cS a).length else .no) = _
  rw [cS_len, if_pos h] <;> rfl
theorem sem_inS {c : Nat} {z : List Nat} : P.sem (.cmp .In) [dC c, dS z] = .ok (rB (decide (c ∈ z))) := rfl
theorem sem_ninS {c : Nat} {z : List Nat} : P.sem (.cmp .NotIn) [dC c, dS z] = .ok (rB (!decide (c ∈ z))) := rfl
theorem sem_eqS {a b : List Nat} : P.sem (.cmp .Eq) [dS a, dS b] = .ok (rB (decide (a = b))) := by
  show M.ok (R.sh (.bl (decide (cS a = cS b)))) = _
  rw [cS_dec]
theorem sem_neS {a b : List Nat} : P.sem (.cmp .NotEq) [dS a, dS b] = .ok (rB (!decide (a = b))) := by
  show M.ok (R.sh (.bl (!decide (cS a = cS b)))) = _
  rw [cS_dec]
theorem atI_nat' {α : Type} {l : List α} {i : Nat} (h : i < l.length) : atI l (i : Int) = some l[i] := by
  unfold atI ixN
  rw [if_pos (by omega), if_pos (by omega)]
  show l[(i : Int).toNat]? = _
  rw [Int.toNat_natCast]
  exact List.getElem?_eq_getElem h
theorem atI_int {α : Type} {l : List α} {i : Int} (h0 : 0 ≤ i) (h : i < l.length) : atI l i = some (l[i.toNat]'(by omega)) := by
  unfold atI ixN
  rw [if_pos h0, if_pos h]
  exact List.getElem?_eq_getElem _
theorem sem_idxS {a : List Nat} {i : Int} {c : Nat} (hl : a.length ≤ LIM) (h : atI a i = some c) : P.sem .idx [dS a, .int i] = .ok (.sh (dC c)) := by
  show (if (cS a).length ≤ LIM then mopt (oneStr (cS a) i) else .no) = _
  rw [cS_len, if_pos hl]
  unfold oneStr
  show mopt ((atI a i).map _) = _
  rw [h] <;> rfl
theorem sem_idxL {t : Option Addr} {xs : List D} {i : Int} {d : D} (h : atI xs i = some d) : P.sem .idx [.lst t xs, .int i] = .ok (.sh d) := by
  show mopt (atI xs i) = _
  rw [h] <;> rfl
theorem sem_idxT {xs : List D} {i : Int} {d : D} (h : atI xs i = some d) : P.sem .idx [.tup xs, .int i] = .ok (.sh d) := by
  show mopt (atI xs i) = _
  rw [h] <;> rfl
theorem atI_map {α β : Type} {f : α → β} {l : List α} {i : Int} {a : α} (h : atI l i = some a) : atI (l.map f) i = some (f a) := by
  unfold atI at h ⊢
  rw [List.length_map]
  obtain ⟨j, e, h⟩ := Option.bind_eq_some_iff.mp h
  rw [e]
  show (l.map f)[j]? = _
  rw [List.getElem?_map, h] <;> rfl
/-! slices -/
theorem cut_to {α : Type} {l : List α} {n : Int} (h : 0 ≤ n) : (l.drop (HT.sIx l.length 0 none)).take (HT.sIx l.length l.length (some n) - HT.sIx l.length 0 none) = l.take n.toNat := by
  obtain ⟨k, rfl⟩ := Int.eq_ofNat_of_zero_le h
  rw [HT.sIx_none]
  show (l.drop 0).take (HT.sIx l.length l.length (some (k : Int)) - 0) = _
  rw [HT.sIx_nat, List.drop_zero, Nat.sub_zero, Int.toNat_natCast]
  by_cases hk : k ≤ l.length
  · rw [Nat.min_eq_left hk]
  · rw [Nat.min_eq_right (by omega), List.take_of_length_le (Nat.le_refl _), List.take_of_length_le (by omega)]
theorem cut_from {α : Type} {l : List α} {n : Int} (h : 0 ≤ n) : (l.drop (HT.sIx l.length 0 (some n))).take (HT.sIx l.length l.length none - HT.sIx l.length 0 (some n)) = l.drop n.toNat := by
  obtain ⟨k, rfl⟩ := Int.eq_ofNat_of_zero_le h
  show (l.drop (HT.sIx l.length 0 (some (k : Int)))).take (l.length - HT.sIx l.length 0 (some (k : Int))) = _
  rw [HT.sIx_nat, Int.toNat_natCast]
  by_cases hk : k ≤ l.length
  · rw [Nat.min_eq_left hk, List.take_of_length_le (by rw [List.length_drop]; exact Nat.le_refl _)]
  · rw [Nat.min_eq_right (by omega), List.drop_eq_nil_of_le (Nat.le_refl _), List.drop_eq_nil_of_le (by omega), List.take_nil]
theorem cut_both {α : Type} {l : List α} {m n : Int} (hm : 0 ≤ m) (hn : 0 ≤ n) : (l.drop (HT.sIx l.length 0 (some m))).take (HT.sIx l.length l.length (some n) - HT.sIx l.length 0 (some m)) = (l.drop m.toNat).take (n.toNat - m.toNat) := by
  obtain ⟨j, rfl⟩ := Int.eq_ofNat_of_zero_le hm
  obtain ⟨k, rfl⟩ := Int.eq_ofNat_of_zero_le hn
  show (l.drop (HT.sIx l.length 0 (some (j : Int)))).take (HT.sIx l.length l.length (some (k : Int)) - HT.sIx l.length 0 (some (j : Int))) = _
  rw [HT.sIx_nat, HT.sIx_nat, Int.toNat_natCast, Int.toNat_natCast]
  by_cases hj : j ≤ l.length
  · rw [Nat.min_eq_left hj]
    by_cases hk : k ≤ l.length
    · rw [Nat.min_eq_left hk]
    · rw [Nat.min_eq_right (by omega), List.take_of_length_le (by rw [List.length_drop]; exact Nat.le_refl _), List.take_of_length_le (by rw [List.length_drop]; omega)]
  · rw [show min j l.length = l.length by omega, List.drop_eq_nil_of_le (Nat.le_refl _), List.drop_eq_nil_of_le (by omega), List.take_nil, List.take_nil]
theorem cutS_eq {l : List Nat} {lo hi : Option Int} : cutS (cS l) lo hi = cS ((l.drop (HT.sIx l.length 0 lo)).take (HT.sIx l.length l.length hi - HT.sIx l.length 0 lo)) := by
  unfold cutS
  rw [cS_len]
theorem sem_slS {a : List Nat} {n : Int} (hl : a.length ≤ LIM) (h : 0 ≤ n) : P.sem (.sl false true) [dS a, .int n] = .ok (rS (a.take n.toNat)) := by
  show (if (cS a).length ≤ LIM then ms (cutS (cS a) none (some n)) else .no) = _
  rw [cS_len, if_pos hl, cutS_eq, cut_to h] <;> rfl
theorem sem_slS2 {a : List Nat} {n : Int} (hl : a.length ≤ LIM) (h : 0 ≤ n) : P.sem (.sl true false) [dS a, .int n] = .ok (rS (a.drop n.toNat)) := by
  show (if (cS a).length ≤ LIM then ms (cutS (cS a) (some n) none) else .no) = _
  rw [cS_len, if_pos hl, cutS_eq, cut_from h] <;> rfl
theorem sem_slS3 {a : List Nat} {m n : Int} (hl : a.length ≤ LIM) (hm : 0 ≤ m) (h : 0 ≤ n) : P.sem (.sl true true) [dS a, .int m, .int n] = .ok (rS ((a.drop m.toNat).take (n.toNat - m.toNat))) := by
  show (if (cS a).length ≤ LIM then ms (cutS (cS a) (some m) (some n)) else .no) = _
  rw [cS_len, if_pos hl, cutS_eq, cut_both hm h] <;> rfl
theorem sem_slL {t : Option Addr} {a : List D} {n : Int} (h : 0 ≤ n) : P.sem (.sl false true) [.lst t a, .int n] = .ok (.ow (.lst none (a.take n.toNat))) := by
  show M.ok (R.ow (.lst none (cutD a none (some n)))) = _
  unfold cutD
  rw [cut_to h]
theorem sem_slL2 {t : Option Addr} {a : List D} {n : Int} (h : 0 ≤ n) : P.sem (.sl true false) [.lst t a, .int n] = .ok (.ow (.lst none (a.drop n.toNat))) := by
  show M.ok (R.ow (.lst none (cutD a (some n) none))) = _
  unfold cutD
  rw [cut_from h]
theorem sem_slL3 {t : Option Addr} {a : List D} {m n : Int} (hm : 0 ≤ m) (h : 0 ≤ n) : P.sem (.sl true true) [.lst t a, .int m, .int n] = .ok (.ow (.lst none ((a.drop m.toNat).take (n.toNat - m.toNat)))) := by
  show M.ok (R.ow (.lst none (cutD a (some m) (some n)))) = _
  unfold cutD
  rw [cut_both hm h]
/-! rows of data -/
theorem strsOf_map {α : Type} {f : α → Str} {l : List α} : strsOf (l.map fun a => .str (f a)) = some (l.map f) := by
  induction l with
  | nil => rfl
  | cons a l ih =>
    show (strsOf (l.map fun a => .str (f a))).map (f a :: ·) = _
    rw [ih] <;> rfl
theorem blsOf_map {α : Type} {f : α → Bool} {l : List α} : blsOf (l.map fun a => .bl (f a)) = some (l.map f) := by
  induction l with
  | nil => rfl
  | cons a l ih =>
    show (blsOf (l.map fun a => .bl (f a))).map (f a :: ·) = _
    rw [ih] <;> rfl
theorem intsOf_map {α : Type} {f : α → Int} {l : List α} : intsOf (l.map fun a => .int (f a)) = some (l.map f) := by
  induction l with
  | nil => rfl
  | cons a l ih =>
    show (intsOf (l.map fun a => .int (f a))).map (f a :: ·) = _
    rw [ih] <;> rfl
theorem all_map_id {α : Type} {f : α → Bool} {l : List α} : (l.map f).all id = l.all f := by
  induction l with
  | nil => rfl
  | cons a l ih => rw [List.map_cons, List.all_cons, List.all_cons, ih] <;> rfl
theorem any_map_id {α : Type} {f : α → Bool} {l : List α} : (l.map f).any id = l.any f := by
  induction l with
  | nil => rfl
  | cons a l ih => rw [List.map_cons, List.any_cons, List.any_cons, ih] <;> rfl
theorem sem_all {α : Type} {t : Option Addr} {f : α → Bool} {l : List α} : P.sem (.fn .all) [.lst t (l.map fun a => .bl (f a))] = .ok (rB (l.all f)) := by
  show (match blsOf (l.map fun a => .bl (f a)) with
    | some bs => mb (bs.all id)
    | none => .no) = _
  rw [blsOf_map]
  show mb ((l.map f).all id) = _
  rw [all_map_id] <;> rfl
theorem sem_any {α : Type} {t : Option Addr} {f : α → Bool} {l : List α} : P.sem (.fn .any) [.lst t (l.map fun a => .bl (f a))] = .ok (rB (l.any f)) := by
  show (match blsOf (l.map fun a => .bl (f a)) with
    | some bs => mb (bs.any id)
    | none => .no) = _
  rw [blsOf_map]
  show mb ((l.map f).any id) = _
  rw [any_map_id] <;> rfl
theorem sem_sum {α : Type} {t : Option Addr} {f : α → Int} {l : List α} : P.sem (.fn .sum) [.lst t (l.map fun a => .int (f a))] = .ok (rZ (l.map f).sum) := by
  show (match intsOf (l.map fun a => .int (f a)) with
    | some is => mi is.sum
    | none => .no) = _
  rw [intsOf_map] <;> rfl
/-! join, count, find of one sign -/
theorem join_cS {ws : List (List Nat)} : Txt.join (cS []) (ws.map cS) = cS ws.flatten := by
  rw [TL.join_eq]
  refine TL.ext_tl ?_
  rw [TL.tl_join]
  show TL.joinL [] ((ws.map cS).map TL.tl) = ws.flatten
  rw [List.map_map]
  have e : (TL.tl ∘ cS) = fun l : List Nat => l := rfl
  rw [e, List.map_id']
  induction ws with
  | nil => rfl
  | cons w ws ih =>
    cases ws with
    | nil => show w = w ++ []; rw [List.append_nil]
    | cons v ws =>
      have e2 : TL.joinL [] (w :: v :: ws) = w ++ ([] ++ TL.joinL [] (v :: ws)) := rfl
      rw [e2, ih] <;> rfl
theorem mt_joinS {α : Type} {t : Option Addr} {f : α → List Nat} {l : List α} (h : (l.map f).flatten.length ≤ LIM) : semMt .join [dS [], .lst t (l.map fun a => dS (f a))] = .ok (rS (l.map f).flatten) := by
  show (match strsOf (l.map fun a => .str (cS (f a))) with
    | some ss => if (ss.map Str.length).sum + ss.length * (cS []).length ≤ LIM then ms (Txt.join (cS []) ss) else .no
    | none => .no) = _
  rw [strsOf_map]
  show (if ((l.map fun a => cS (f a)).map Str.length).sum + (l.map fun a => cS (f a)).length * 0 ≤ LIM then ms (Txt.join (cS []) (l.map fun a => cS (f a))) else .no) = _
  have e1 : (l.map fun a => cS (f a)) = (l.map f).map cS := by rw [List.map_map]; rfl
  have e2 : ((l.map fun a => cS (f a)).map Str.length).sum = (l.map f).flatten.length := by
    rw [List.length_flatten, List.map_map, List.map_map]
    congr 1
  rw [e2, if_pos (by omega), e1, join_cS] <;> rfl
theorem count_cS {l : List Nat} {c : Nat} : Txt.count (cS l) (cS [c]) = (l.count c : Int) := by
  rw [show cS [c] = ⟨#[c]⟩ from rfl, count_is]
  show cnt c l = _
  induction l with
  | nil => rfl
  | cons a l ih =>
    rw [cnt_cons, ih, List.count_cons]
    by_cases h : a = c
    · subst h; simp; omega
    · have : (a == c) = false := by simpa using h
      rw [if_neg h, this]; simp
theorem mt_countS {l : List Nat} {c : Nat} : semMt .count [dS l, dC c] = .ok (rZ (l.count c)) := by
  show mi (Txt.count (cS l) (cS [c])) = _
  rw [count_cS] <;> rfl
end FH
set_option Elab.async false
set_option linter.all false
set_option maxRecDepth 100000
set_option maxHeartbeats 2000000
namespace FH
open PySem PySem.Spec PyProof.Rows L2
/-- f's answer at this data -/
def Fv (Φ : FT) (f : Str) (ds : List D) (r : R) : Prop := ∃ g, Φ f = some g ∧ ∀ rs : List R, rs.map R.d = ds → ∃ outs, g rs = .ok (r, outs)
/-- f's answer, its first argument lent -/
def Fo (Φ : FT) (f : Str) (r : R) (ds : List D) (q r' : R) : Prop := ∃ g, Φ f = some g ∧ ∀ rs : List R, rs.map R.d = ds → ∃ outs, g (r :: rs) = .ok (q, some r' :: outs)
/-- f raises -/
def Fe (Φ : FT) (f : Str) (ds : List D) (c : Str) (d : D) : Prop := ∃ g, Φ f = some g ∧ ∀ rs : List R, rs.map R.d = ds → g rs = .ex c d
theorem okM_ex {α : Type} {m : M α} {P : α → Prop} (h : OkM m P NoX) : ∃ a, m = .ok a ∧ P a := by
  cases m with
  | ok b => exact ⟨b, rfl, h⟩
  | ex c d => exact h.elim
  | no => exact h.elim
section
variable {tab : List DT} {n : Nat} {f : Str} {d : DT} {ds : List D} {r : R}
theorem fv_of (h : findT tab f = some d) (hi : d.io = []) (hl : ds.length = d.ps.length) (e : Wp (PT tab n) d.B NoX ((ds.map fun x => some (.sh x)) ++ List.replicate (d.N.length - d.ps.length) none) (Ans r)) : Fv (PT tab (n + 1)) f ds r :=
  ⟨_, PT_eq h, fun rs hr => ⟨_, by rw [hi]; exact dG_eq hr hl e⟩⟩
/-- one answer of many -/
theorem fv_ex {P : R → Prop} (h : findT tab f = some d) (hi : d.io = []) (hl : ds.length = d.ps.length) (e : Wp (PT tab n) d.B NoX ((ds.map fun x => some (.sh x)) ++ List.replicate (d.N.length - d.ps.length) none) (fun o => ∃ q env, o = .rt q env ∧ P q)) : ∃ r, Fv (PT tab (n + 1)) f ds r ∧ P r := by
  obtain ⟨o, e1, q, env, rfl, hp⟩ := okM_ex e
  refine ⟨q, fv_of h hi hl ?_, hp⟩
  show OkM _ _ _
  rw [e1]
  exact rfl
/-- a def whose first argument is lent -/
def AnsO (q r' : R) : Out → Prop := fun o => ∃ env, o = .rt q env ∧ env[0]? = some (some r')
theorem outs_0 {m : Nat} {env : En} {r' : R} (h : env[0]? = some (some r')) : ∃ outs, outsOf [0] (m + 1) env = some r' :: outs := by
  unfold outsOf
  rw [List.range_succ_eq_map]
  exact ⟨_, by rw [List.map_cons, if_pos (by decide), h] <;> rfl⟩
theorem frz_0 {r : R} {rs : List R} : frz [0] 0 (r :: rs) = r :: (rs.map R.d).map R.sh := by
  have key : ∀ {rs : List R} {j : Nat}, 0 < j → frz [0] j rs = (rs.map R.d).map R.sh := by
    intro rs
    induction rs with
    | nil => intro j _; rfl
    | cons a rs ih =>
      intro j hj
      show (if j ∈ [0] then a else sh1 a) :: frz [0] (j + 1) rs = _
      rw [if_neg (by simp; omega), ih (by omega)] <;> rfl
  show (if 0 ∈ [0] then r else sh1 r) :: frz [0] 1 rs = _
  rw [if_pos (by decide), key (by decide)]
theorem fo_of {q r' : R} (h : findT tab f = some d) (hi : d.io = [0]) (hl : ds.length + 1 = d.ps.length) (e : Wp (PT tab n) d.B NoX (some r :: (ds.map fun x => some (.sh x)) ++ List.replicate (d.N.length - d.ps.length) none) (AnsO q r')) : Fo (PT tab (n + 1)) f r ds q r' := by
  refine ⟨_, PT_eq h, fun rs hr => ?_⟩
  subst hr
  rw [List.length_map] at hl
  have key : OkM (dG (PT tab n) d.N.length d.ps.length d.io d.B (r :: rs)) (fun c => ∃ outs, c = (q, some r' :: outs)) NoX := by
    refine dG_ok hl ?_
    rw [hi, frz_0]
    have e2 : ((r :: (rs.map R.d).map R.sh).map some) = some r :: ((rs.map R.d).map fun x => some (.sh x)) := by rw [List.map_cons, List.map_map] <;> rfl
    rw [e2]
    refine Wp.imp e fun o z => ?_
    obtain ⟨env, rfl, h0⟩ := z
    obtain ⟨outs, ho⟩ := outs_0 (m := rs.length) h0
    refine ⟨outs, ?_⟩
    rw [← hl, ← ho] <;> rfl
  obtain ⟨c, e1, outs, rfl⟩ := okM_ex key
  exact ⟨outs, e1⟩
theorem fo_ex {P : R → R → Prop} (h : findT tab f = some d) (hi : d.io = [0]) (hl : ds.length + 1 = d.ps.length) (e : Wp (PT tab n) d.B NoX (some r :: (ds.map fun x => some (.sh x)) ++ List.replicate (d.N.length - d.ps.length) none) (fun o => ∃ q r' env, o = .rt q env ∧ env[0]? = some (some r') ∧ P q r')) : ∃ q r', Fo (PT tab (n + 1)) f r ds q r' ∧ P q r' := by
  obtain ⟨o, e1, q, r', env, rfl, h0, hp⟩ := okM_ex e
  refine ⟨q, r', fo_of h hi hl ?_, hp⟩
  show OkM _ _ _
  rw [e1]
  exact ⟨env, rfl, h0⟩
end
section
variable {Φ : FT} {env : En} {X : Str → D → Prop} {K : R → En → Prop} {Q : Out → Prop}
/-- arguments by their data -/
def EvD (Φ : FT) (es : T) (env : En) (ds : List D) : Prop := ∃ rs, EvN Φ es env rs ∧ rs.map R.d = ds
theorem EvD.nil : EvD Φ .nil env [] := ⟨[], EvN.nil, rfl⟩
theorem EvD.cons {e es : T} {r : R} {d : D} {ds : List D} (hm : notMv e = true) (h : Ev Φ e env r) (hd : r.d = d) (k : EvD Φ es env ds) : EvD Φ (.cons e es) env (d :: ds) := by
  obtain ⟨rs, k1, k2⟩ := k
  exact ⟨r :: rs, EvN.cons hm h k1, by rw [List.map_cons, hd, k2]⟩
theorem Ev.fv {f : Str} {es : T} {ds : List D} {r : R} (h : Fv Φ f ds r) (k : EvD Φ es env ds) : Ev Φ (.call f es) env r := by
  obtain ⟨g, h1, h2⟩ := h
  obtain ⟨rs, k, hd⟩ := k
  obtain ⟨outs, h3⟩ := h2 rs hd
  exact Ev.call h1 k h3
theorem We.lent {f : Str} {es : T} {i : Nat} {r q r' : R} {ds : List D} (h : Fo Φ f r ds q r') (hr : env[i]? = some (some r)) (ha : EvD Φ es (env.set i none) ds) (k : K q (env.set i (some r'))) : We Φ (.call f (.cons (.mv i) es)) X env K := by
  obtain ⟨g, h1, h2⟩ := h
  obtain ⟨rs, ha, hd⟩ := ha
  obtain ⟨outs, h3⟩ := h2 rs hd
  refine We.call h1 (Wa.cons (We.mv hr (Wa.of ha ?_)))
  rw [h3]
  show K q (backs (some r' :: outs) (some i :: bkOf es) (env.set i none))
  show K q (backs outs (bkOf es) ((env.set i none).set i (some r')))
  rw [backs_none ha.2, List.set_set]
  exact k
theorem We.primN {p : P} {es : T} (hb : (bkOf es).all (·.isNone) = true) (h : Wa Φ es X env fun rs e1 => ∃ r, p.sem (rs.map R.d) = .ok r ∧ okRes rs r = true ∧ K r e1) : We Φ (.prim p es) X env K := by
  refine We.prim (OkM.imp h fun a q => ?_)
  obtain ⟨r, h1, h2, h3⟩ := q
  exact ⟨r, h1, h2, by rw [backs_none hb]; exact h3⟩
theorem We.sval {e : T} (h : We Φ e X env fun r e1 => ∃ xs, itemsOf r.d = some xs ∧ xs.length ≤ LIM ∧ K (.sh (.lst none xs)) e1) : We Φ (.sval e) X env K := by
  unfold We
  show OkM (one1 ((one1 (ev Φ e env)).bind _)) _ _
  rw [one1_bind]
  refine OkM.bind (OkM.imp h fun a q => ?_)
  obtain ⟨xs, h1, h2, h3⟩ := q
  simp only [h1]
  show OkM (one1 (if xs.length ≤ LIM then _ else _)) _ _
  rw [if_pos h2]
  exact h3
/-- a def's call, its data known -/
theorem We.callD {f : Str} {es : T} {g : Sem1} {ds : List D} (hf : Φ f = some g) (h : EvD Φ es env ds) (k : ∀ rs : List R, rs.map R.d = ds → OkM (g rs) (fun c => K c.1 env) X) : We Φ (.call f es) X env K := by
  obtain ⟨rs, h1, h2⟩ := h
  refine We.call hf (OkM.of h1.1 (OkM.imp (k rs h2) fun c q => ?_))
  show K c.1 (backs c.2 (bkOf es) env)
  rw [backs_none h1.2]
  exact q
theorem Wa.lit {v : V} {es : T} {KA : List R → En → Prop} (k : Wa Φ es X env fun rs e2 => KA (.sh (dV v) :: rs) e2) : Wa Φ (.cons (.lit v) es) X env KA := Wa.consV Ev.lit k
end
/-! ### cells -/
/-- a cell's box with takes left -/
def Bx (n : Nat) (r : R) : Prop := ∃ a b c : Int, r = .ow (.lst none [.int a, .int b, .int c]) ∧ 0 ≤ b ∧ b < 2147483648 ∧ 0 ≤ c ∧ c + n ≤ 1000000
theorem Bx.le {m n : Nat} {r : R} (h : Bx n r) (e : m ≤ n) : Bx m r := by obtain ⟨a, b, c, h1, h2, h3, h4, h5⟩ := h; exact ⟨a, b, c, h1, h2, h3, h4, by omega⟩
def STake (Φ : FT) : Prop := ∀ n r many, Bx (n + 1) r → 0 < many → many < 1073741824 → ∃ v r', Fo Φ "_law_take" r [.int many] (rZ v) r' ∧ 0 ≤ v ∧ v < many ∧ Bx n r'
def SBox (Φ : FT) : Prop := ∀ c : Int, ∃ r, Fv Φ "_law_box" [.int c] r ∧ Bx 1000000 r
def SCell (Φ : FT) : Prop := ∀ (ns : List Int) (k : Nat), k < 100 → ∃ v : Int, Fv Φ "_law_cell" [.scr ns, .int k] (rZ v)
section
variable {Φ : FT} {env : En} {X : Str → D → Prop} {K : R → En → Prop} {Q : Out → Prop}
theorem We.take {i n : Nat} {e : T} {many : Int} {r : R} (S : STake Φ) (hr : env[i]? = some (some r)) (b : Bx (n + 1) r) (hm : notMv e = true) (ha : Ev Φ e (env.set i none) (rZ many)) (h0 : 0 < many) (h1 : many < 1073741824) (k : ∀ v r', 0 ≤ v → v < many → Bx n r' → K (rZ v) (env.set i (some r'))) :
    We Φ (.call "_law_take" (.cons (.mv i) (.cons e .nil))) X env K := by
  obtain ⟨v, r', h, g0, g1, b'⟩ := S n r many b h0 h1
  exact We.lent h hr (EvD.cons hm ha rfl EvD.nil) (k v r' g0 g1 b')
end
end FH
set_option Elab.async false
set_option linter.all false
set_option maxRecDepth 100000
set_option maxHeartbeats 2000000
namespace FH
open PySem PySem.Spec PyProof.Rows L2
mutual
/-- fit to be shown and compared -/
def shw : D → Bool
  | .non => true
  | .bl _ => true
  | .int i => decide (i.natAbs.log2 < 1920)
  | .str s => PyData.strOk s
  | .lst _ xs => shws xs
  | .tup xs => shws xs
  | .scr _ => false
  | .dic _ _ => false
  | .obj _ _ => false
def shws : List D → Bool
  | [] => true
  | d :: ds => shw d && shws ds
end
mutual
/-- a bound of the shown text's length -/
def wD : D → Nat
  | .non => 4
  | .bl _ => 5
  | .int _ => 640
  | .str s => 10 * s.length + 2
  | .lst _ xs => wDs xs + 4
  | .tup xs => wDs xs + 4
  | _ => 0
def wDs : List D → Nat
  | [] => 0
  | d :: ds => wD d + 2 + wDs ds
end
mutual
def dpt : D → Nat
  | .lst _ xs => dpts xs + 1
  | .tup xs => dpts xs + 1
  | _ => 0
def dpts : List D → Nat
  | [] => 0
  | d :: ds => max (dpt d) (dpts ds)
end
mutual
theorem shw_py : ∀ d : D, shw d = true → ∃ x, toPy d = some x ∧ x.canLay0 = true ∧ x.showable = true ∧ x.depth = dpt d
  | .non, _ => ⟨_, rfl, rfl, rfl, rfl⟩
  | .bl b, _ => ⟨_, rfl, rfl, rfl, rfl⟩
  | .int i, h => ⟨_, rfl, rfl, by unfold PyData.showable; unfold shw at h; exact h, rfl⟩
  | .str s, h => ⟨_, rfl, by unfold PyData.canLay0; unfold shw at h; exact h, rfl, rfl⟩
  | .lst t xs, h => by
    unfold shw at h
    obtain ⟨ys, h1, h2, h3, h4⟩ := shws_py xs h
    exact ⟨.list ys, by unfold toPy; rw [h1] <;> rfl, by unfold PyData.canLay0; exact h2, by unfold PyData.showable; exact h3, by unfold PyData.depth dpt; rw [h4]⟩
  | .tup xs, h => by
    unfold shw at h
    obtain ⟨ys, h1, h2, h3, h4⟩ := shws_py xs h
    exact ⟨.tuple ys, by unfold toPy; rw [h1] <;> rfl, by unfold PyData.canLay0; exact h2, by unfold PyData.showable; exact h3, by unfold PyData.depth dpt; rw [h4]⟩
  | .scr _, h => by unfold shw at h; cases h
  | .dic _ _, h => by unfold shw at h; cases h
  | .obj _ _, h => by unfold shw at h; cases h
theorem shws_py : ∀ ds : List D, shws ds = true → ∃ xs, toPys ds = some xs ∧ PyData.canLayAll0 xs = true ∧ PyData.showableAll xs = true ∧ PyData.depthAll xs = dpts ds
  | [], _ => ⟨[], rfl, rfl, rfl, rfl⟩
  | d :: ds, h => by
    unfold shws at h
    obtain ⟨a, b⟩ := Bool.and_eq_true_iff.mp h
    obtain ⟨x, h1, h2, h3, h4⟩ := shw_py d a
    obtain ⟨xs, k1, k2, k3, k4⟩ := shws_py ds b
    exact ⟨x :: xs, by unfold toPys; rw [h1, k1], by unfold PyData.canLayAll0; rw [h2, k2] <;> rfl, by unfold PyData.showableAll; rw [h3, k3] <;> rfl, by unfold PyData.depthAll dpts; rw [h4, k4]⟩
end
theorem eqD_self {d : D} (h : shw d = true) (hd : dpt d ≤ 40) : eqD d d = some true := by
  have deep : eqDeep d d = some true := by
    obtain ⟨x, h1, h2, h3, h4⟩ := shw_py d h
    unfold eqDeep
    rw [h1]
    have s : SeqAt.shaped x = true := by
      unfold SeqAt.shaped
      rw [h2, h4]
      simp
      omega
    simp only [s, Bool.and_self, if_true]
    rw [SeqAt.eqv_refl x h2]
  cases d <;> first
    | exact deep
    | (show some _ = _; simp)
    | rfl
theorem int_len {i : Int} (h : i.natAbs.log2 < 1920) : (Str.ofString (toString i)).length ≤ 640 := by
  have big : i.natAbs < 10 ^ 600 := by
    by_cases h0 : i.natAbs = 0
    · rw [h0]; decide +kernel
    · exact Nat.lt_trans ((Nat.log2_lt h0).mp h) (show 2 ^ 1920 < 10 ^ 600 by decide +kernel)
  have nat : ∀ n : Nat, n < 10 ^ 600 → (Str.ofString (toString ((n : Nat) : Int))).length ≤ 600 := fun n hn => by
    rw [TL.len_tl, TL.tl_num]
    exact TL.numL_len (by decide) hn
  cases i with
  | ofNat n => exact Nat.le_trans (nat n big) (by decide)
  | negSucc n =>
    have e : toString (Int.negSucc n) = "-" ++ toString (n + 1) := rfl
    have e2 : (Str.ofString (toString (Int.negSucc n))).length = 1 + (Str.ofString (toString (((n + 1 : Nat)) : Int))).length := by
      rw [TL.len_tl, TL.len_tl, TL.tl_ofString, TL.tl_ofString, e]
      rw [String.toList_append, List.map_append, List.length_append]
      rfl
    have := nat (n + 1) big
    omega
theorem shown_str {s : Str} (h : PyData.strOk s = true) : (reprText s).length ≤ 10 * s.length + 2 := StrLaws.reprText_len s fun c hc => by
  have h2 : c < 0x110000 := by
    unfold PyData.strOk at h
    rw [Array.all_eq_true'] at h
    exact of_decide_eq_true (h c (Array.mem_toList_iff.mp hc))
  omega
mutual
theorem shown_le : ∀ (d : D) (x : PyData), toPy d = some x → shw d = true → x.shown.length ≤ wD d
  | .non, x, e, _ => by cases e; decide +kernel
  | .bl b, x, e, _ => by cases e; cases b <;> decide +kernel
  | .int i, x, e, h => by cases e; unfold shw at h; exact int_len (of_decide_eq_true h)
  | .str s, x, e, h => by cases e; unfold shw at h; exact shown_str h
  | .lst t xs, x, e, h => by
    unfold shw at h
    unfold toPy at e
    cases q : toPys xs with
    | none => rw [q] at e; cases e
    | some ys =>
      rw [q] at e
      cases e
      have := shown_les xs ys q h
      have e2 : (PyData.shown (.list ys)).length = (textFrom 0 "[" (PyData.shownAll ys)).length + 1 := by
        unfold PyData.shown listText
        rw [strLen_append] <;> rfl
      rw [e2]
      unfold wD
      cases hz : PyData.shownAll ys with
      | nil => exact Nat.le_trans (show _ ≤ 2 by decide) (by omega)
      | cons t ts =>
        rw [hz, piled_cons] at this
        show (textFrom (0 + 1) _ ts).length + 1 ≤ _
        rw [textFrom_length_pos _ _ _ (by decide), strLen_append, strLen_append]
        have a1 : ((("[" : String) : Str)).length = 1 := rfl
        have a2 : ((if 0 > 0 then ", " else "" : String) : Str).length = 0 := rfl
        rw [a1, a2]
        omega
  | .tup xs, x, e, h => by
    unfold shw at h
    unfold toPy at e
    cases q : toPys xs with
    | none => rw [q] at e; cases e
    | some ys =>
      rw [q] at e
      cases e
      have := shown_les xs ys q h
      have e2 : (PyData.shown (.tuple ys)).length ≤ 1 + (Str.join ", " (PyData.shownAll ys)).length + 2 := by
        unfold PyData.shown tupleText
        rw [strLen_append, strLen_append]
        have : ((if (PyData.shownAll ys).length == 1 then ",)" else ")" : String) : Str).length ≤ 2 := by split <;> decide
        have a1 : ((("(" : String) : Str)).length = 1 := rfl
        omega
      unfold wD
      by_cases hz : PyData.shownAll ys = []
      · rw [hz] at e2
        have : (Str.join ", " []).length = 0 := rfl
        omega
      · have := join_length_add _ hz
        omega
  | .scr _, x, e, h => by unfold shw at h; cases h
  | .dic _ _, x, e, h => by unfold shw at h; cases h
  | .obj _ _, x, e, h => by unfold shw at h; cases h
theorem shown_les : ∀ (ds : List D) (xs : List PyData), toPys ds = some xs → shws ds = true → piled (PyData.shownAll xs) ≤ wDs ds
  | [], xs, e, _ => by cases e; exact Nat.zero_le _
  | d :: ds, xs, e, h => by
    unfold shws at h
    obtain ⟨a, b⟩ := Bool.and_eq_true_iff.mp h
    unfold toPys at e
    cases q : toPy d with
    | none => rw [q] at e; cases e
    | some x =>
      cases q2 : toPys ds with
      | none => rw [q, q2] at e; cases e
      | some ys =>
        rw [q, q2] at e
        cases e
        have h1 := shown_le d x q a
        have h2 := shown_les ds ys q2 b
        show piled (x.shown :: PyData.shownAll ys) ≤ _
        rw [piled_cons]
        unfold wDs
        omega
end
/-- a datum can be shown -/
theorem sem_repr {d : D} (h : shw d = true) (hd : dpt d ≤ 40) (hw : wD d ≤ LIM) : ∃ s : Str, s.length ≤ LIM ∧ P.sem (.fn .repr) [d] = .ok (.sh (.str s)) := by
  obtain ⟨x, h1, h2, h3, h4⟩ := shw_py d h
  have h5 := shown_le d x h1 h
  refine ⟨x.shown, by omega, ?_⟩
  show (match toPy d with
    | some x => if x.canLay0 && (x.showable && (decide (x.depth ≤ 40) && decide (x.shown.length ≤ LIM))) then ms x.shown else .no
    | none => .no) = _
  rw [h1]
  show (if _ then _ else _) = _
  rw [if_pos]
  · rfl
  · rw [h2, h3, decide_eq_true (show x.depth ≤ 40 by omega), decide_eq_true (show x.shown.length ≤ LIM by omega)] <;> rfl
theorem shws_map {α : Type} {f : α → D} {l : List α} (h : ∀ a, a ∈ l → shw (f a) = true) : shws (l.map f) = true := by
  induction l with
  | nil => rfl
  | cons a l ih =>
    show shws (f a :: l.map f) = true
    unfold shws
    rw [h a List.mem_cons_self, ih fun b hb => h b (List.mem_cons_of_mem _ hb)] <;> rfl
theorem wDs_map {α : Type} {f : α → D} {l : List α} {k : Nat} (h : ∀ a, a ∈ l → wD (f a) + 2 ≤ k) : wDs (l.map f) ≤ l.length * k := by
  induction l with
  | nil => exact Nat.zero_le _
  | cons a l ih =>
    show wDs (f a :: l.map f) ≤ _
    unfold wDs
    have h1 := h a List.mem_cons_self
    have h2 := ih fun b hb => h b (List.mem_cons_of_mem _ hb)
    rw [List.length_cons, Nat.succ_mul]
    omega
theorem dpts_map {α : Type} {f : α → D} {l : List α} {k : Nat} (h : ∀ a, a ∈ l → dpt (f a) ≤ k) : dpts (l.map f) ≤ k := by
  induction l with
  | nil => exact Nat.zero_le _
  | cons a l ih =>
    show dpts (f a :: l.map f) ≤ _
    unfold dpts
    have h1 := h a List.mem_cons_self
    have h2 := ih fun b hb => h b (List.mem_cons_of_mem _ hb)
    omega
end FH
set_option Elab.async false
set_option linter.all false
set_option maxRecDepth 100000
set_option maxHeartbeats 4000000
namespace Fl
open PySem PySem.Spec PyProof.Rows L2 FH
def is_integerB : FH.S := (.seq (.ret (.and (.prim (.isi ["int"]) (.cons (.var 0) .nil)) (.and (.not (.prim (.isi ["bool"]) (.cons (.var 0) .nil))) (.one (.chain .LtE .LtE (.var 1) (.var 0) (.var 2))))))
  .nil)
def is_integerT : DT := ⟨"is_integer", ["value", "low", "high"], ["value", "low", "high"], [], is_integerB⟩
def is_made_ofB : FH.S := (.seq (.ret (.and (.prim (.isi ["str"]) (.cons (.var 0) .nil)) (.and (.chain .LtE .LtE (.lit (.int 1)) (.prim (.fn .len) (.cons (.var 0) .nil)) (.var 2)) (.one (.prim (.fn .all) (.cons (.comp [("sign", 3)] (.prim (.cmp .In) (.cons (.var 3) (.cons (.var 1) .nil))) (.nm 3) (.sval (.var 0)) .nil) .nil))))))
  .nil)
def is_made_ofT : DT := ⟨"is_made_of", ["value", "signs", "most", "sign"], ["value", "signs", "most"], [], is_made_ofB⟩
def is_wordB : FH.S := (.seq (.ret (.call "is_made_of" (.cons (.var 0) (.cons (.glb "LETTERS" (.str "abcdefghijklmnopqrstuvwxyz")) (.cons (.glb "LONGEST_WORD" (.int 40)) .nil)))))
  .nil)
def is_wordT : DT := ⟨"is_word", ["value"], ["value"], [], is_wordB⟩
def is_messageB : FH.S := (.seq (.ret (.call "is_made_of" (.cons (.var 0) (.cons (.glb "LETTERS" (.str "abcdefghijklmnopqrstuvwxyz")) (.cons (.glb "LONGEST_MESSAGE" (.int 200)) .nil)))))
  .nil)
def is_messageT : DT := ⟨"is_message", ["value"], ["value"], [], is_messageB⟩
def x_law_cellB (a b : Int) : FH.S := (.seq (.ifs (.prim (.cmp .Lt) (.cons (.var 1) (.cons (.prim (.fn .len) (.cons (.var 0) .nil)) .nil))) (.seq (.ret (.prim .idx (.cons (.var 0) (.cons (.var 1) .nil))))
  .nil) .nil)
  (.seq (.ret (.prim (.bin .Add) (.cons (.prim (.bin .Mult) (.cons (.lit (.int b)) (.cons (.var 1) .nil))) (.cons (.lit (.int a)) .nil))))
  .nil))
def x_law_cellT (a b : Int) : DT := ⟨"_law_cell", ["script", "k"], ["script", "k"], [], x_law_cellB a b⟩
def x_law_boxB : FH.S := (.seq (.ret (.lst (.cons (.prim (.fn .max2) (.cons (.lit (.int 0)) (.cons (.prim (.bin .Sub) (.cons (.var 0) (.cons (.prim (.bin .Pow) (.cons (.lit (.int 10)) (.cons (.lit (.int 18)) .nil))) .nil))) .nil))) (.cons (.prim (.bin .Mod) (.cons (.var 0) (.cons (.lit (.int 2147483629)) .nil))) (.cons (.lit (.int 0)) .nil)))))
  .nil)
def x_law_boxT : DT := ⟨"_law_box", ["cell"], ["cell"], [], x_law_boxB⟩
def x_law_takeB (a : Int) : FH.S := (.seq (.ifs (.prim (.cmp .Gt) (.cons (.prim .idx (.cons (.mv 0) (.cons (.lit (.int 0)) .nil))) (.cons (.lit (.int 0)) .nil))) (.seq (.asg 4 (.prim (.bin .Mod) (.cons (.prim .idx (.cons (.mv 0) (.cons (.lit (.int 0)) .nil))) (.cons (.var 1) .nil))))
  (.seq (.setx 0 (.lit (.int 0)) (.prim (.bin .FloorDiv) (.cons (.prim .idx (.cons (.mv 0) (.cons (.lit (.int 0)) .nil))) (.cons (.var 1) .nil))))
  (.seq (.ret (.var 4))
  .nil))) .nil)
  (.seq (.setx 0 (.lit (.int 2)) (.prim (.bin .Add) (.cons (.prim .idx (.cons (.mv 0) (.cons (.lit (.int 2)) .nil))) (.cons (.lit (.int 1)) .nil))))
  (.seq (.asg 2 (.prim (.bin .Mod) (.cons (.prim (.bin .Pow) (.cons (.prim (.bin .Add) (.cons (.prim (.bin .Add) (.cons (.prim .idx (.cons (.mv 0) (.cons (.lit (.int 1)) .nil))) (.cons (.prim (.bin .Mult) (.cons (.lit (.int 7919)) (.cons (.prim .idx (.cons (.mv 0) (.cons (.lit (.int 2)) .nil))) .nil))) .nil))) (.cons (.lit (.int a)) .nil))) (.cons (.lit (.int 5)) .nil))) (.cons (.lit (.int 2147483647)) .nil))))
  (.seq (.asg 3 (.prim (.bin .Mod) (.cons (.prim (.bin .Pow) (.cons (.prim (.bin .Add) (.cons (.prim (.bin .Add) (.cons (.prim (.bin .FloorDiv) (.cons (.var 2) (.cons (.lit (.int 8)) .nil))) (.cons (.prim (.bin .Mult) (.cons (.prim (.bin .Mult) (.cons (.lit (.int 104729)) (.cons (.prim .idx (.cons (.mv 0) (.cons (.lit (.int 2)) .nil))) .nil))) (.cons (.prim .idx (.cons (.mv 0) (.cons (.lit (.int 2)) .nil))) .nil))) .nil))) (.cons (.lit (.int 11)) .nil))) (.cons (.lit (.int 3)) .nil))) (.cons (.lit (.int 2147483587)) .nil))))
  (.seq (.ret (.prim (.bin .Mod) (.cons (.prim (.bin .Add) (.cons (.prim (.bin .FloorDiv) (.cons (.var 2) (.cons (.lit (.int 4)) .nil))) (.cons (.prim (.bin .Mult) (.cons (.lit (.int 536870909)) (.cons (.prim (.bin .FloorDiv) (.cons (.var 3) (.cons (.lit (.int 4)) .nil))) .nil))) .nil))) (.cons (.var 1) .nil))))
  .nil)))))
def x_law_takeT (a : Int) : DT := ⟨"_law_take", ["box", "many", "one", "two", "digit"], ["box", "many"], [0], x_law_takeB a⟩
def x_law_evenB : FH.S := (.seq (.ret (.and (.prim (.cmp .Eq) (.cons (.var 0) (.cons (.var 1) .nil))) (.one (.prim (.cmp .Eq) (.cons (.prim (.fn .repr) (.cons (.var 0) .nil)) (.cons (.prim (.fn .repr) (.cons (.var 1) .nil)) .nil))))))
  .nil)
def x_law_evenT : DT := ⟨"_law_even", ["told", "due"], ["told", "due"], [], x_law_evenB⟩
def x_law_oddB : FH.S := (.seq (.asg 1 (.lst (.cons (.lit .non) (.cons (.lit (.bl true)) (.cons (.lit (.bl false)) (.cons (.lit (.int 0)) (.cons (.prim .neg (.cons (.lit (.int 1)) .nil)) (.cons (.lit (.int 4)) (.cons (.lit (.int 41)) (.cons (.prim (.bin .Pow) (.cons (.lit (.int 10)) (.cons (.lit (.int 29)) .nil))) (.cons (.prim (.bin .Sub) (.cons (.lit (.int 0)) (.cons (.prim (.bin .Pow) (.cons (.lit (.int 10)) (.cons (.lit (.int 29)) .nil))) .nil))) (.cons (.lit (.str "")) (.cons (.lit (.str "a")) (.cons (.lit (.str "A")) (.cons (.lit (.str "1")) (.cons (.lit (.str "a1")) (.cons (.lit (.str "a?")) (.cons (.lit (.str "anna")) (.cons (.lit (.str "an na")) .nil)))))))))))))))))))
  (.seq (.asg 1 (.prim (.bin .Add) (.cons (.var 1) (.cons (.lst (.cons (.lst .nil) (.cons (.lst (.cons (.lit (.str "a")) .nil)) (.cons (.lst (.cons (.lit (.int 1)) .nil)) (.cons (.tup .nil) (.cons (.tup (.cons (.lit (.str "a")) .nil)) (.cons (.tup (.cons (.lit (.int 1)) .nil)) (.cons (.dic .nil) (.cons (.dic (.cons (.lit (.str "a")) (.cons (.tup (.cons (.lit (.str "b")) .nil)) .nil))) (.cons (.dic (.cons (.lit (.int 7)) (.cons (.lit (.int 1)) .nil))) (.cons (.lst (.cons (.lst (.cons (.lst (.cons (.lit (.str "a")) .nil)) .nil)) .nil)) (.cons (.tup (.cons (.lit (.str "spell")) (.cons (.lit (.str "a")) .nil))) .nil)))))))))))) .nil))))
  (.seq (.asg 1 (.prim (.bin .Add) (.cons (.var 1) (.cons (.lst (.cons (.prim (.bin .Mult) (.cons (.lit (.str "a")) (.cons (.lit (.int 41)) .nil))) (.cons (.prim (.bin .Mult) (.cons (.lit (.str "a")) (.cons (.lit (.int 201)) .nil))) (.cons (.lit (.str "locker 1 3 7")) (.cons (.lit (.str "0")) (.cons (.lit (.str "an\n")) .nil)))))) .nil))))
  (.seq (.ret (.prim .idx (.cons (.var 1) (.cons (.call "_law_take" (.cons (.mv 0) (.cons (.prim (.fn .len) (.cons (.var 1) .nil)) .nil))) .nil))))
  .nil))))
def x_law_oddT : DT := ⟨"_law_odd", ["box", "some"], ["box"], [0], x_law_oddB⟩
end Fl
set_option Elab.async false
set_option linter.all false
set_option maxRecDepth 100000
set_option maxHeartbeats 4000000
namespace Fl
open PySem PySem.Spec PyProof.Rows L2 FH
/-- the values that the laws hand: no object, texts not too long -/
def okD : FH.D → Bool
  | .str s => decide (s.length ≤ 5000)
  | .obj _ _ => false
  | _ => true
def madeOf (z : List Nat) (m : Int) : FH.D → Bool
  | .str s => decide (1 ≤ s.length) && decide ((s.length : Int) ≤ m) && s.cps.toList.all fun c => decide (c ∈ z)
  | _ => false
local macro_rules | `(tactic| decreasing_tactic) => `(tactic| repeat (first
  | exact Ev.lit | exact Ev.glb | exact Ev.var rfl | exact EvN.nil | exact EvA.nil
  | refine EvN.cons rfl ?_ ?_ | refine EvA.cons rfl ?_ ?_ | refine EvA.mv rfl ?_ (by decide)
  | refine Ev.one ?_ | refine Ev.not ?_))
theorem is_made_of_val {Φ : FT} {v : FH.D} {z : List Nat} {m : Int} (hv : okD v = true) (hz : z.length ≤ 5000) : Wp Φ is_made_ofB NoX [some (.sh v), some (rS z), some (rZ m), none] (Ans (rB (madeOf z m v))) := by
  refine Wp.retV (v := rB (madeOf z m v)) ?_ rfl
  by_cases hs : ∃ s, v = .str s
  · obtain ⟨s, rfl⟩ := hs
    have hl : s.length ≤ LIM := Nat.le_trans (of_decide_eq_true hv) (by decide)
    refine Ev.of (Ev.and (s := true) (t := (decide (1 ≤ (s.length : Int)) && decide ((s.length : Int) ≤ m)) && s.cps.toList.all fun c => decide (c ∈ z)) (Ev.prim (EvA.cons rfl (Ev.var rfl) EvA.nil) rfl rfl) fun _ => ?_) ?_
    · refine Ev.and (Ev.chain Ev.lit (Ev.prim (EvA.cons rfl (Ev.var rfl) EvA.nil) (if_pos hl) rfl) rfl fun _ => ⟨_, Ev.var rfl, rfl⟩) fun _ => Ev.one (Ev.prim (EvA.cons rfl (Ev.comp (enc := dC) (l := s.cps.toList) (fun c => [some (.sh (.str s)), some (rS z), some (rZ m), some (.sh (dC c))]) (fun c => rB (decide (c ∈ z))) (EvI.val (Ev.var rfl) rfl ?_) ?_ rfl rfl (fun _ => rfl) fun c _ => ?_) EvA.nil) sem_all rfl)
      · show (strItems s).length ≤ LIM
        unfold strItems
        simpa [Str.length] using hl
      · simpa [Str.length] using hl
      · exact Ev.prim (EvA.cons rfl (Ev.var rfl) (EvA.cons rfl (Ev.var rfl) EvA.nil)) rfl rfl
    · show rB (true && _) = rB (decide (1 ≤ s.length) && decide ((s.length : Int) ≤ m) && _)
      have : decide (1 ≤ (s.length : Int)) = decide (1 ≤ s.length) := by rw [decide_eq_decide]; omega
      rw [Bool.true_and, this]
  · have : madeOf z m v = (false && false) := by
      cases v <;> first
        | rfl
        | exact absurd ⟨_, rfl⟩ hs
    rw [this]
    refine Ev.and (Ev.prim (rs := [.sh v]) (EvA.cons rfl (Ev.var rfl) EvA.nil) ?_ rfl) fun z => nomatch z
    cases v <;> first
      | rfl
      | exact absurd ⟨_, rfl⟩ hs
      | cases hv
end Fl
set_option Elab.async false
set_option linter.all false
set_option maxRecDepth 100000
set_option maxHeartbeats 4000000
namespace Fl
open PySem PySem.Spec PyProof.Rows L2 FH
section
variable {tab : List DT} {n : Nat}
def SMade (Φ : FT) : Prop := ∀ v z m, okD v = true → z.length ≤ 5000 → Fv Φ "is_made_of" [v, dS z, .int m] (rB (madeOf z m v))
def SWord (Φ : FT) : Prop := ∀ v, okD v = true → Fv Φ "is_word" [v] (rB (madeOf ABC 40 v))
def SMess (Φ : FT) : Prop := ∀ v, okD v = true → Fv Φ "is_message" [v] (rB (madeOf ABC 200 v))
def isInt (v : FH.D) (lo hi : Int) : Bool := match v with
  | .int i => decide (lo ≤ i) && decide (i ≤ hi)
  | _ => false
def SInt (Φ : FT) : Prop := ∀ v lo hi, okD v = true → Fv Φ "is_integer" [v, .int lo, .int hi] (rB (isInt v lo hi))
theorem SMade.of (h : findT tab "is_made_of" = some is_made_ofT) : SMade (PT tab (n + 1)) := fun v z m hv hz => fv_of h rfl rfl (is_made_of_val hv hz)
theorem SWord.of (h : findT tab "is_word" = some is_wordT) (S : SMade (PT tab n)) : SWord (PT tab (n + 1)) := fun v hv => fv_of h rfl rfl (by
  refine Wp.retV (Ev.fv (S v ABC 40 hv (by decide)) ?_) rfl
  exact EvD.cons rfl (Ev.var rfl) rfl (EvD.cons rfl (Ev.glbS abc_eq) rfl (EvD.cons rfl Ev.glb rfl EvD.nil)))
theorem SMess.of (h : findT tab "is_message" = some is_messageT) (S : SMade (PT tab n)) : SMess (PT tab (n + 1)) := fun v hv => fv_of h rfl rfl (by
  refine Wp.retV (Ev.fv (S v ABC 200 hv (by decide)) ?_) rfl
  exact EvD.cons rfl (Ev.var rfl) rfl (EvD.cons rfl (Ev.glbS abc_eq) rfl (EvD.cons rfl Ev.glb rfl EvD.nil)))
theorem SInt.of (h : findT tab "is_integer" = some is_integerT) : SInt (PT tab (n + 1)) := fun v lo hi hv => fv_of h rfl rfl (by
  refine Wp.retV (v := rB (isInt v lo hi)) ?_ rfl
  have nb : ∀ x : Bool, (∀ i, v ≠ .int i) → isInt v lo hi = false := fun _ z => by
    cases v <;> first
      | rfl
      | exact absurd rfl (z _)
  cases v with
  | int i =>
    refine Ev.and (s := true) (Ev.prim (rs := [.sh (.int i)]) (EvA.cons rfl (Ev.var rfl) EvA.nil) rfl rfl) fun _ => ?_
    refine Ev.and (s := true) (Ev.not (s := false) (Ev.prim (rs := [.sh (.int i)]) (EvA.cons rfl (Ev.var rfl) EvA.nil) rfl rfl)) fun _ => ?_
    exact Ev.one (Ev.chain (Ev.var rfl) (Ev.var rfl) rfl fun _ => ⟨_, Ev.var rfl, rfl⟩)
  | bl b =>
    refine Ev.and (s := true) (Ev.prim (rs := [.sh (.bl b)]) (EvA.cons rfl (Ev.var rfl) EvA.nil) rfl rfl) fun _ => ?_
    exact Ev.and (s := false) (t := false) (Ev.not (s := true) (Ev.prim (rs := [.sh (.bl b)]) (EvA.cons rfl (Ev.var rfl) EvA.nil) rfl rfl)) fun z => nomatch z
  | obj C fs => cases hv
  | _ => exact Ev.and (s := false) (t := false) (Ev.prim (EvA.cons rfl (Ev.var rfl) EvA.nil) rfl rfl) fun z => nomatch z)
/-! ### cells -/
theorem SCell.of {a b : Int} (h : findT tab "_law_cell" = some (x_law_cellT a b)) : SCell (PT tab (n + 1)) := fun ns k hk => by
  have key := fv_ex (ds := [.scr ns, .int k]) (P := fun r => ∃ v : Int, r = rZ v) h rfl rfl (n := n) (by
    refine Wp.if1 (t := decide ((k : Int) < ns.length)) ?_ (fun ht => ?_) fun _ => ?_
    · exact Ev.prim (EvA.cons rfl (Ev.var rfl) (EvA.cons rfl (Ev.prim (EvA.cons rfl (Ev.var rfl) EvA.nil) rfl rfl) EvA.nil)) rfl rfl
    · have ht' : (k : Int) < ns.length := of_decide_eq_true ht
      refine Wp.retV (v := rZ (ns[k]'(by omega))) (Ev.prim (EvA.cons rfl (Ev.var rfl) (EvA.cons rfl (Ev.var rfl) EvA.nil)) ?_ rfl) ⟨_, _, rfl, _, rfl⟩
      show mopt ((atI ns (k : Int)).map .int) = _
      rw [atI_nat' (by omega)] <;> rfl
    · refine Wp.retV (Ev.prim (EvA.cons rfl (Ev.prim (EvA.cons rfl Ev.lit (EvA.cons rfl (Ev.var rfl) EvA.nil)) (r := rZ (b * k)) ?_ rfl) (EvA.cons rfl Ev.lit EvA.nil)) rfl rfl) ⟨_, _, rfl, _, rfl⟩
      exact sem_mulC (.inr ⟨by omega, by omega⟩))
  obtain ⟨r, e, v, rfl⟩ := key
  exact ⟨v, e⟩
theorem SBox.of (h : findT tab "_law_box" = some x_law_boxT) : SBox (PT tab (n + 1)) := fun c => by
  refine ⟨.ow (.lst none [.int (if c - 10 ^ (18 : Int).toNat > 0 then c - 10 ^ (18 : Int).toNat else 0), .int (c % 2147483629), .int 0]), fv_of h rfl rfl ?_, _, _, _, rfl, Int.emod_nonneg _ (by decide), ?_, Int.le_refl 0, by decide⟩
  · refine Wp.retV (Ev.lst (rs := [rZ _, rZ _, rZ _]) (EvN.cons rfl ?_ (EvN.cons rfl ?_ (EvN.cons rfl Ev.lit EvN.nil)))) rfl
    · refine Ev.prim (EvA.cons rfl Ev.lit (EvA.cons rfl (Ev.prim (EvA.cons rfl (Ev.var rfl) (EvA.cons rfl (Ev.prim (EvA.cons rfl Ev.lit (EvA.cons rfl Ev.lit EvA.nil)) (r := rZ (10 ^ (18 : Int).toNat)) ?_ rfl) EvA.nil)) rfl rfl) EvA.nil)) rfl rfl
      exact sem_pow (by decide) (by decide) (by decide)
    · exact Ev.prim (EvA.cons rfl (Ev.var rfl) (EvA.cons rfl Ev.lit EvA.nil)) (sem_mod (by decide)) rfl
  · have := Int.emod_lt_of_pos c (show (0 : Int) < 2147483629 by decide)
    omega
end
end Fl
set_option Elab.async false
set_option linter.all false
set_option maxRecDepth 100000
set_option maxHeartbeats 4000000
namespace Fl
open PySem PySem.Spec PyProof.Rows L2 FH
abbrev bx (a b c : Int) : R := .ow (.lst none [.int a, .int b, .int c])
theorem at_envS {Φ : FT} {r : FH.S} {X : Str → FH.D → Prop} {e e' : En} {Q : Out → Prop} (h : wS Φ r X e' Q) (q : e = e') : wS Φ r X e Q := by rw [q]; exact h
theorem take_ok {Φ : FT} {X : Str → FH.D → Prop} {k a b c many : Int} {K : R × List (Option R) → Prop} (k0 : 0 ≤ k) (k1 : k < 1000) (h1 : 0 < many) (h2 : many < 1073741824) (h3 : 0 ≤ b) (h4 : b < 2147483648) (h5 : 0 ≤ c) (h6 : c < 1000000)
    (hK : ∀ v a' c', 0 ≤ v → v < many → 0 ≤ c' → c' ≤ c + 1 → K (.sh (.int v), [some (bx a' b c'), none])) : OkM (dG Φ 5 2 [0] (x_law_takeB k) [bx a b c, .sh (.int many)]) K X := by
  refine okIf rfl ?_
  show OkM (runF Φ 5 [0] (x_law_takeB k) [bx a b c, .sh (.int many)]) K X
  refine runF_ok (K := fun r o => K (r, o)) ?_
  refine Exists.intro _ (And.intro rfl ?_)
  refine And.intro (fun h => ?_) (fun h => ?_)
  · refine Exists.intro _ (And.intro rfl ?_)
    refine And.intro h1 ?_
    refine at_envS (e' := [some (.ow (.lst _ [.int _, .int _, .int _])), some (.sh (.int _)), none, none, some (.sh (.int _))]) ?_ rfl
    refine Exists.intro _ (And.intro rfl ?_)
    refine And.intro ⟨h1, h2⟩ ?_
    refine Exists.intro _ (And.intro rfl ?_)
    refine at_envS (e' := [some (.ow (.lst _ [.int _, .int _, .int _])), some (.sh (.int _)), none, none, some (.sh (.int _))]) ?_ rfl
    exact hK (a % many) (a / many) c (Int.emod_nonneg _ (by omega)) (Int.emod_lt_of_pos _ h1) h5 (by omega)
  · refine at_envS (e' := [some (.ow (.lst _ [.int _, .int _, .int _])), some (.sh (.int _)), none, none, none]) ?_ rfl
    refine Exists.intro _ (And.intro rfl ?_)
    refine Exists.intro _ (And.intro rfl ?_)
    refine at_envS (e' := [some (.ow (.lst _ [.int _, .int _, .int _])), some (.sh (.int _)), none, none, none]) ?_ rfl
    -- one
    refine Exists.intro _ (And.intro rfl ?_)
    refine Exists.intro _ (And.intro rfl ?_)
    refine And.intro (by simp [small]) ?_
    refine And.intro (show _ ∧ _ ∧ (b + 7919 * (c + 1) + k).natAbs < 2 ^ 64 from ⟨by decide, by decide, by omega⟩) ?_
    refine And.intro (show (0 : Int) < 2147483647 by decide) ?_
    refine at_envS (e' := [some (.ow (.lst _ [.int _, .int _, .int _])), some (.sh (.int _)), some (.sh (.int _)), none, none]) ?_ rfl
    generalize hu : (b + 7919 * (c + 1) + k) ^ Int.toNat 5 % 2147483647 = u
    have hu0 : 0 ≤ u := by rw [← hu]; exact Int.emod_nonneg _ (by decide)
    have hu1 : u < 2147483647 := by rw [← hu]; exact Int.emod_lt_of_pos _ (by decide)
    clear hu
    -- two
    refine And.intro ⟨by decide, by decide⟩ ?_
    refine Exists.intro _ (And.intro rfl ?_)
    refine And.intro (by simp [small]) ?_
    refine Exists.intro _ (And.intro rfl ?_)
    refine And.intro (show (small (104729 * (c + 1)) || small (c + 1)) = true by simp [small]; omega) ?_
    refine And.intro (show _ ∧ _ ∧ (u / 8 + 104729 * (c + 1) * (c + 1) + 11).natAbs < 2 ^ 64 from ⟨by decide, by decide, ?_⟩) ?_
    · have e1 : 104729 * (c + 1) * (c + 1) ≤ 104729 * 1000000 * 1000000 := Int.mul_le_mul (by omega) (by omega) (by omega) (by omega)
      have e2 : 0 ≤ 104729 * (c + 1) * (c + 1) := Int.mul_nonneg (by omega) (by omega)
      generalize 104729 * (c + 1) * (c + 1) = z at e1 e2
      omega
    refine And.intro (show (0 : Int) < 2147483587 by decide) ?_
    refine at_envS (e' := [some (.ow (.lst _ [.int _, .int _, .int _])), some (.sh (.int _)), some (.sh (.int _)), some (.sh (.int _)), none]) ?_ rfl
    generalize (u / 8 + 104729 * (c + 1) * (c + 1) + 11) ^ Int.toNat 3 % 2147483587 = w
    refine And.intro ⟨by decide, by decide⟩ ?_
    refine And.intro ⟨by decide, by decide⟩ ?_
    refine And.intro (by simp [small]) ?_
    refine And.intro h1 ?_
    exact hK ((u / 4 + 536870909 * (w / 4)) % many) a (c + 1) (Int.emod_nonneg _ (by omega)) (Int.emod_lt_of_pos _ h1) (by omega) (by omega)
theorem STake.of {tab : List DT} {n : Nat} {k : Int} (h : findT tab "_law_take" = some (x_law_takeT k)) (k0 : 0 ≤ k) (k1 : k < 1000) : STake (PT tab (n + 1)) := by
  intro m r many hb h0 h1
  obtain ⟨a, b, c, rfl, b0, b1, c0, c1⟩ := hb
  refine ?_
  have key : ∀ q : R, q.d = .int many → OkM (dG (PT tab n) 5 2 [0] (x_law_takeB k) [bx a b c, q]) (fun z => ∃ v r', z = (rZ v, [some r', none]) ∧ 0 ≤ v ∧ v < many ∧ Bx m r') NoX := fun q hq => by
    have e : dG (PT tab n) 5 2 [0] (x_law_takeB k) [bx a b c, q] = dG (PT tab n) 5 2 [0] (x_law_takeB k) [bx a b c, .sh (.int many)] := by
      show (if _ then runF _ _ _ _ [bx a b c, .sh q.d] else _) = _
      rw [hq] <;> rfl
    rw [e]
    exact take_ok k0 k1 h0 h1 b0 b1 c0 (by omega) fun v a' c' v0 v1 d0 d1 => ⟨v, _, rfl, v0, v1, a', b, c', rfl, b0, b1, d0, by omega⟩
  obtain ⟨z, e, v, r', rfl, v0, v1, br⟩ := okM_ex (key (.sh (.int many)) rfl)
  refine ⟨v, r', ⟨_, PT_eq h, fun rs hr => ?_⟩, v0, v1, br⟩
  have hq : ∃ q, rs = [q] ∧ q.d = .int many := by
    cases rs with
    | nil => cases hr
    | cons q r => cases r with
      | nil => exact ⟨q, rfl, List.singleton_inj.mp hr⟩
      | cons a b => simp at hr
  obtain ⟨q, rfl, hq⟩ := hq
  refine ⟨_, Eq.trans ?_ e⟩
  show (if _ then runF _ _ _ _ [bx a b c, .sh q.d] else _) = _
  rw [hq] <;> rfl
end Fl
set_option Elab.async false
set_option linter.all false
set_option maxRecDepth 100000
set_option maxHeartbeats 4000000
namespace Fl
open PySem PySem.Spec PyProof.Rows L2 FH
def SEven (Φ : FT) : Prop := ∀ d, shw d = true → dpt d ≤ 40 → wD d ≤ LIM → Fv Φ "_law_even" [d, d] (rB true)
theorem SEven.of {tab : List DT} {n : Nat} (h : findT tab "_law_even" = some x_law_evenT) : SEven (PT tab (n + 1)) := fun d h1 h2 h3 => fv_of h rfl rfl (by
  obtain ⟨s, hs, hr⟩ := sem_repr h1 h2 h3
  refine Wp.retV (Ev.and (s := true) (t := true) (Ev.prim (EvA.cons rfl (Ev.var rfl) (EvA.cons rfl (Ev.var rfl) EvA.nil)) ?_ rfl) fun _ => ?_) rfl
  · show mbo (eqD d d) = _
    rw [eqD_self h1 h2] <;> rfl
  · have e : Ev (FH.PT tab n) (.prim (.fn .repr) (.cons (.var 0) .nil)) [some (.sh d), some (.sh d)] (.sh (.str s)) := Ev.prim (EvA.cons rfl (Ev.var rfl) EvA.nil) hr rfl
    have e' : Ev (FH.PT tab n) (.prim (.fn .repr) (.cons (.var 1) .nil)) [some (.sh d), some (.sh d)] (.sh (.str s)) := Ev.prim (EvA.cons rfl (Ev.var rfl) EvA.nil) hr rfl
    refine Ev.one (Ev.prim (EvA.cons rfl e (EvA.cons rfl e' EvA.nil)) ?_ rfl)
    show M.ok (R.sh (.bl (decide (s = s)))) = _
    rw [decide_eq_true rfl])
theorem shw_bools {a b c : Bool} : shw (.lst none [.bl a, .bl b, .bl c]) = true := rfl
def odd1 : List FH.D := [.non, .bl true, .bl false, .int 0, .int (-1), .int 4, .int 41, .int 100000000000000000000000000000, .int (-100000000000000000000000000000), .str "", .str "a", .str "A", .str "1", .str "a1", .str "a?", .str "anna", .str "an na"]
def odd2 : List FH.D := odd1 ++ [.lst none [], .lst none [.str "a"], .lst none [.int 1], .tup [], .tup [.str "a"], .tup [.int 1], .dic none [], .dic none [(.inr "a", .tup [.str "b"])], .dic none [(.inl 7, .int 1)], .lst none [.lst none [.lst none [.str "a"]]], .tup [.str "spell", .str "a"]]
def odd3 : List FH.D := odd2 ++ [.str (strRep "a" 41), .str (strRep "a" 201), .str "locker 1 3 7", .str "0", .str "an\n"]
def hdS : FH.S → FH.S
  | .seq s _ => s
  | s => s
def tlS : FH.S → FH.S
  | .seq _ r => r
  | s => s
theorem odd_1 {Φ : FT} {r : R} : ex Φ (hdS x_law_oddB) [some r, none] = .ok (.nx [some r, some (.ow (.lst none odd1))]) := by kernel_rfl
theorem odd_2 {Φ : FT} {r : R} : ex Φ (hdS (tlS x_law_oddB)) [some r, some (.ow (.lst none odd1))] = .ok (.nx [some r, some (.ow (.lst none odd2))]) := by kernel_rfl
theorem odd_3 {Φ : FT} {r : R} : ex Φ (hdS (tlS (tlS x_law_oddB))) [some r, some (.ow (.lst none odd2))] = .ok (.nx [some r, some (.ow (.lst none odd3))]) := by kernel_rfl
theorem odd3_len : odd3.length = 33 := by decide +kernel
theorem seq_run {Φ : FT} {X : Str → FH.D → Prop} {s r : FH.S} {env env' : En} {Q : Out → Prop} (h : ex Φ s env = .ok (.nx env')) (q : Wp Φ r X env' Q) : Wp Φ (.seq s r) X env Q := Wp.seq (OkM.of h q)
theorem atI_mem {α : Type} {xs : List α} {v : Int} (h0 : 0 ≤ v) (h1 : v < (xs.length : Int)) : ∃ d, atI xs v = some d ∧ d ∈ xs := ⟨_, atI_int h0 h1, List.getElem_mem _⟩
def SOdd (Φ : FT) : Prop := ∀ n r, Bx (n + 1) r → ∃ d r', Fo Φ "_law_odd" r [] (.sh d) r' ∧ d ∈ odd3 ∧ Bx n r'
theorem SOdd.of {tab : List DT} {n : Nat} (h : findT tab "_law_odd" = some x_law_oddT) (S : STake (PT tab n)) : SOdd (PT tab (n + 1)) := by
  intro m r hb
  have key := fo_ex (r := r) (ds := []) (P := fun q r' => ∃ d, q = .sh d ∧ d ∈ odd3 ∧ Bx m r') h rfl rfl (n := n) (by
    refine seq_run (s := hdS x_law_oddB) (r := tlS x_law_oddB) odd_1 ?_
    refine seq_run (s := hdS (tlS x_law_oddB)) (r := tlS (tlS x_law_oddB)) odd_2 ?_
    refine seq_run (s := hdS (tlS (tlS x_law_oddB))) (r := tlS (tlS (tlS x_law_oddB))) odd_3 ?_
    have ll := odd3_len
    generalize odd3 = L at ll
    have e1 : Ev (FH.PT tab n) (.prim (.fn .len) (.cons (.var 1) .nil)) [none, some (.sh (.lst none L))] (rZ L.length) := Ev.prim (EvA.cons rfl (Ev.var rfl) EvA.nil) rfl rfl
    refine Wp.ret (We.prim (Wa.cons ?_))
    refine OkM.of (a := (.sh (.lst none L), [some r, some (.sh (.lst none L))])) rfl ?_
    refine Wa.cons (We.take S (i := 0) rfl hb rfl e1 (by omega) (by omega) fun v r' v0 v1 b => Wa.nil ?_)
    obtain ⟨d, d1, d2⟩ := atI_mem v0 v1
    exact ⟨.sh d, sem_idxL d1, rfl, _, r', _, rfl, rfl, d, rfl, d2, b⟩)
  obtain ⟨q, r', h1, d, rfl, h2, h3⟩ := key
  exact ⟨d, r', h1, h2, h3⟩
end Fl
set_option Elab.async false
set_option linter.all false
set_option maxRecDepth 100000
set_option maxHeartbeats 0
namespace K01
open PySem PySem.Spec PyProof.Rows L2 FH
def x_law_textB : FH.S := (.seq (.asg 1 (.lit (.str "abcdefghijklmnopqrstuvwxyz")))
  (.seq (.ifs (.prim (.cmp .Eq) (.cons (.call "_law_take" (.cons (.mv 0) (.cons (.lit (.int 3)) .nil))) (.cons (.lit (.int 0)) .nil))) (.seq (.asg 1 (.prim (.bin .Add) (.cons (.var 1) (.cons (.lit (.str "AZ1? -\n")) .nil))))
  .nil) .nil)
  (.seq (.asg 2 (.prim .idx (.cons (.lst (.cons (.call "_law_take" (.cons (.mv 0) (.cons (.lit (.int 8)) .nil))) (.cons (.prim (.bin .Add) (.cons (.lit (.int 38)) (.cons (.call "_law_take" (.cons (.mv 0) (.cons (.lit (.int 5)) .nil))) .nil))) (.cons (.prim (.bin .Add) (.cons (.lit (.int 199)) (.cons (.call "_law_take" (.cons (.mv 0) (.cons (.lit (.int 3)) .nil))) .nil))) .nil)))) (.cons (.call "_law_take" (.cons (.mv 0) (.cons (.lit (.int 3)) .nil))) .nil))))
  (.seq (.asg 3 (.mth .join (.lit (.str "")) (.cons (.comp [("k", 4)] (.prim .idx (.cons (.var 1) (.cons (.call "_law_take" (.cons (.mv 0) (.cons (.prim (.fn .len) (.cons (.var 1) .nil)) .nil))) .nil))) (.nm 4) (.srng (.cons (.prim (.fn .min2) (.cons (.var 2) (.cons (.lit (.int 9)) .nil))) .nil)) .nil) .nil)))
  (.seq (.ret (.prim (.sl false true) (.cons (.prim (.bin .Add) (.cons (.var 3) (.cons (.prim (.bin .Mult) (.cons (.lit (.str "q")) (.cons (.lit (.int 210)) .nil))) .nil))) (.cons (.var 2) .nil))))
  .nil)))))
def x_law_textT : DT := ⟨"_law_text", ["box", "signs", "many", "drawn", "k"], ["box"], [0], x_law_textB⟩
def x_law_dueB : FH.S := (.seq (.asg 3 (.and (.prim (.isi ["int"]) (.cons (.var 0) .nil)) (.and (.not (.prim (.isi ["bool"]) (.cons (.var 0) .nil))) (.and (.prim (.cmp .GtE) (.cons (.var 0) (.cons (.var 1) .nil))) (.one (.prim (.cmp .LtE) (.cons (.var 0) (.cons (.var 2) .nil))))))))
  (.seq (.asg 4 (.and (.prim (.isi ["str"]) (.cons (.var 0) .nil)) (.one (.prim (.cmp .Eq) (.cons (.comp [("sign", 5)] (.var 5) (.nm 5) (.sval (.var 0)) (.prim (.cmp .NotIn) (.cons (.var 5) (.cons (.lit (.str "abcdefghijklmnopqrstuvwxyz")) .nil)))) (.cons (.lst .nil) .nil))))))
  (.seq (.ret (.lst (.cons (.var 3) (.cons (.and (.var 4) (.one (.chain .Lt .Lt (.lit (.int 0)) (.prim (.fn .len) (.cons (.var 0) .nil)) (.lit (.int 41))))) (.cons (.and (.var 4) (.one (.chain .Lt .Lt (.lit (.int 0)) (.prim (.fn .len) (.cons (.var 0) .nil)) (.lit (.int 201))))) .nil)))))
  .nil)))
def x_law_dueT : DT := ⟨"_law_due", ["value", "low", "high", "whole", "clean", "sign"], ["value", "low", "high"], [], x_law_dueB⟩
def lawB : FH.S := (.seq (.for (.nm 1) (.srng (.cons (.prim (.fn .max2) (.cons (.lit (.int 2)) (.cons (.prim (.fn .min2) (.cons (.lit (.int 30)) (.cons (.prim (.fn .len) (.cons (.var 0) .nil)) .nil))) .nil))) .nil)) (.seq (.asg 2 (.call "_law_box" (.cons (.call "_law_cell" (.cons (.var 0) (.cons (.var 1) .nil))) .nil)))
  (.seq (.asg 3 (.prim .idx (.cons (.lst (.cons (.prim (.bin .Sub) (.cons (.call "_law_take" (.cons (.mv 2) (.cons (.lit (.int 41)) .nil))) (.cons (.lit (.int 20)) .nil))) (.cons (.call "_law_take" (.cons (.mv 2) (.cons (.prim (.bin .Pow) (.cons (.lit (.int 10)) (.cons (.lit (.int 9)) .nil))) .nil))) (.cons (.prim (.bin .Pow) (.cons (.lit (.int 10)) (.cons (.lit (.int 28)) .nil))) .nil)))) (.cons (.call "_law_take" (.cons (.mv 2) (.cons (.lit (.int 3)) .nil))) .nil))))
  (.seq (.asg 4 (.prim (.bin .Add) (.cons (.var 3) (.cons (.prim .idx (.cons (.lst (.cons (.prim (.bin .Sub) (.cons (.call "_law_take" (.cons (.mv 2) (.cons (.lit (.int 9)) .nil))) (.cons (.lit (.int 2)) .nil))) (.cons (.call "_law_take" (.cons (.mv 2) (.cons (.prim (.bin .Pow) (.cons (.lit (.int 10)) (.cons (.lit (.int 9)) .nil))) .nil))) (.cons (.prim (.bin .Pow) (.cons (.lit (.int 10)) (.cons (.lit (.int 29)) .nil))) .nil)))) (.cons (.call "_law_take" (.cons (.mv 2) (.cons (.lit (.int 3)) .nil))) .nil))) .nil))))
  (.seq (.for (.nm 5) (.sval (.lst (.cons (.prim (.bin .Sub) (.cons (.var 3) (.cons (.lit (.int 1)) .nil))) (.cons (.var 3) (.cons (.var 4) (.cons (.prim (.bin .Add) (.cons (.var 4) (.cons (.lit (.int 1)) .nil))) (.cons (.call "_law_text" (.cons (.mv 2) .nil)) (.cons (.call "_law_odd" (.cons (.mv 2) .nil)) (.cons (.lst (.cons (.var 3) .nil)) (.cons (.prim (.bin .Mult) (.cons (.lit (.str "a")) (.cons (.prim (.bin .Add) (.cons (.lit (.int 39)) (.cons (.call "_law_take" (.cons (.mv 2) (.cons (.lit (.int 3)) .nil))) .nil))) .nil))) .nil)))))))))) (.seq (.ifs (.not (.call "_law_even" (.cons (.lst (.cons (.call "is_integer" (.cons (.var 5) (.cons (.var 3) (.cons (.var 4) .nil)))) (.cons (.call "is_word" (.cons (.var 5) .nil)) (.cons (.call "is_message" (.cons (.var 5) .nil)) .nil)))) (.cons (.call "_law_due" (.cons (.var 5) (.cons (.var 3) (.cons (.var 4) .nil)))) .nil)))) (.seq (.ret (.lit (.bl false)))
  .nil) .nil)
  .nil))
  .nil)))))
  (.seq (.ret (.and (.prim (.cmp .Is) (.cons (.call "is_word" (.cons (.lit (.str "q")) .nil)) (.cons (.lit (.bl true)) .nil))) (.one (.prim (.cmp .Is) (.cons (.call "is_integer" (.cons (.lit (.int 5)) (.cons (.lit (.int 5)) (.cons (.lit (.int 5)) .nil)))) (.cons (.lit (.bl true)) .nil))))))
  .nil))
def lawT : DT := ⟨"law", ["script", "k", "box", "low", "high", "value"], ["script"], [], lawB⟩
def top (i : Nat) : Stmt := PySem.Challenge.pw_flaghoists_k01_words_and_messages.main.body.getD i (.Pass ⟨0, 0, 0, 0⟩)
def gsL : List (Str × V) := [("LETTERS", (.str "abcdefghijklmnopqrstuvwxyz")), ("LONGEST_WORD", (.int 40)), ("LONGEST_MESSAGE", (.int 200))]
def tab : List (DT × Stmt) := [(Fl.is_integerT, top 4), (Fl.is_made_ofT, top 5), (Fl.is_wordT, top 6), (Fl.is_messageT, top 7), ((Fl.x_law_cellT 15 32452867), top 9), (Fl.x_law_boxT, top 10), ((Fl.x_law_takeT 15), top 11), (Fl.x_law_evenT, top 12), (Fl.x_law_oddT, top 13), (x_law_textT, top 14), (x_law_dueT, top 15), (lawT, top 16)]
abbrev Φ (n : Nat) : FT := PT (tab.map (·.1)) n
theorem fit0 : FitD gsL Fl.is_integerT (top 4) := ⟨by decide +kernel, by decide +kernel, fun _ _ _ _ _ _ us hl => match us, hl with | [_, _, _], _ => rfl⟩
theorem fit1 : FitD gsL Fl.is_made_ofT (top 5) := ⟨by decide +kernel, by decide +kernel, fun _ _ _ _ _ _ us hl => match us, hl with | [_, _, _], _ => rfl⟩
theorem fit2 : FitD gsL Fl.is_wordT (top 6) := ⟨by decide +kernel, by decide +kernel, fun _ _ _ _ _ _ us hl => match us, hl with | [_], _ => rfl⟩
theorem fit3 : FitD gsL Fl.is_messageT (top 7) := ⟨by decide +kernel, by decide +kernel, fun _ _ _ _ _ _ us hl => match us, hl with | [_], _ => rfl⟩
theorem fit4 : FitD gsL (Fl.x_law_cellT 15 32452867) (top 9) := ⟨by decide +kernel, by decide +kernel, fun _ _ _ _ _ _ us hl => match us, hl with | [_, _], _ => rfl⟩
theorem fit5 : FitD gsL Fl.x_law_boxT (top 10) := ⟨by decide +kernel, by decide +kernel, fun _ _ _ _ _ _ us hl => match us, hl with | [_], _ => rfl⟩
theorem fit6 : FitD gsL (Fl.x_law_takeT 15) (top 11) := ⟨by decide +kernel, by decide +kernel, fun _ _ _ _ _ _ us hl => match us, hl with | [_, _], _ => rfl⟩
theorem fit7 : FitD gsL Fl.x_law_evenT (top 12) := ⟨by decide +kernel, by decide +kernel, fun _ _ _ _ _ _ us hl => match us, hl with | [_, _], _ => rfl⟩
theorem fit8 : FitD gsL Fl.x_law_oddT (top 13) := ⟨by decide +kernel, by decide +kernel, fun _ _ _ _ _ _ us hl => match us, hl with | [_], _ => rfl⟩
theorem fit9 : FitD gsL x_law_textT (top 14) := ⟨by decide +kernel, by decide +kernel, fun _ _ _ _ _ _ us hl => match us, hl with | [_], _ => rfl⟩
theorem fit10 : FitD gsL x_law_dueT (top 15) := ⟨by decide +kernel, by decide +kernel, fun _ _ _ _ _ _ us hl => match us, hl with | [_, _, _], _ => rfl⟩
theorem fit11 : FitD gsL lawT (top 16) := ⟨by decide +kernel, by decide +kernel, fun _ _ _ _ _ _ us hl => match us, hl with | [_], _ => rfl⟩
theorem f_is_integer : findT (tab.map (·.1)) "is_integer" = some Fl.is_integerT := by kernel_rfl
theorem f_is_made_of : findT (tab.map (·.1)) "is_made_of" = some Fl.is_made_ofT := by kernel_rfl
theorem f_is_word : findT (tab.map (·.1)) "is_word" = some Fl.is_wordT := by kernel_rfl
theorem f_is_message : findT (tab.map (·.1)) "is_message" = some Fl.is_messageT := by kernel_rfl
theorem f_x_law_cell : findT (tab.map (·.1)) "_law_cell" = some (Fl.x_law_cellT 15 32452867) := by kernel_rfl
theorem f_x_law_box : findT (tab.map (·.1)) "_law_box" = some Fl.x_law_boxT := by kernel_rfl
theorem f_x_law_take : findT (tab.map (·.1)) "_law_take" = some (Fl.x_law_takeT 15) := by kernel_rfl
theorem f_x_law_even : findT (tab.map (·.1)) "_law_even" = some Fl.x_law_evenT := by kernel_rfl
theorem f_x_law_odd : findT (tab.map (·.1)) "_law_odd" = some Fl.x_law_oddT := by kernel_rfl
theorem f_x_law_text : findT (tab.map (·.1)) "_law_text" = some x_law_textT := by kernel_rfl
theorem f_x_law_due : findT (tab.map (·.1)) "_law_due" = some x_law_dueT := by kernel_rfl
theorem f_law : findT (tab.map (·.1)) "law" = some lawT := by kernel_rfl
theorem fits : FitAll gsL tab := ⟨fit0, fit1, fit2, fit3, fit4, fit5, fit6, fit7, fit8, fit9, fit10, fit11, trivial⟩
def loose : List PySem.Str := (["LETTERS", "LONGEST_WORD", "LONGEST_MESSAGE", "is_integer", "is_made_of", "is_word", "is_message", "_law_cell", "_law_box", "_law_take", "_law_even", "_law_odd", "_law_text", "_law_due"] : List PySem.Str)
abbrev Rw : PySem.W.OpenRow := PySem.W.OpenLaw.row PySem.Challenge.rw_flaghoists_k01_words_and_messages
abbrev qv : Program := PySem.W.view Rw.prog [16]
abbrev hk : PySem.W.Hook := He.hookD 5 (faOf tab gsL) (fnOfT tab)
def ob (s : PySem.W.SharedT) : He.AlD := He.obsDG 5 (faOf tab gsL) (fnOfT tab) (HandSHeadRun.getT s)
theorem ob_eq (s : PySem.W.SharedT) : ob s = hk.obs s.abs := He.obsDG_eq (HandSHeadRun.getT_eq s)
theorem run (w : World) : HandSHeadRun.RunEq Rw qv hk ob 2000 loose w := by
  intro os
  kernel_rfl
end K01
set_option Elab.async false
set_option linter.all false
set_option maxRecDepth 100000
set_option maxHeartbeats 4000000
namespace K01
open PySem PySem.Spec PyProof.Rows L2 FH Fl
def okV : FH.D → Bool
  | .str s => decide (s.length ≤ 5000) && PyData.strOk s
  | .obj _ _ => false
  | _ => true
theorem okV_D {v : FH.D} (h : okV v = true) : okD v = true := by
  cases v <;> first
    | rfl
    | exact (Bool.and_eq_true_iff.mp h).1
    | cases h
theorem toPys_strs : ∀ ss : List Str, toPys (ss.map .str) = some (ss.map PyData.str)
  | [] => rfl
  | s :: ss => by
    show toPys (.str s :: ss.map .str) = _
    unfold toPys
    rw [toPys_strs ss]
    rfl
theorem eqv_strs (ss : List Str) : PyData.eqv (.list (ss.map PyData.str)) (.list []) = ss.isEmpty := by
  cases ss with
  | nil => decide +kernel
  | cons s ss =>
    show PyData.eqv (.list (.str s :: ss.map PyData.str)) (.list []) = false
    unfold PyData.eqv
    rfl
theorem eq_strs {ss : List Str} (h : ∀ s, s ∈ ss → PyData.strOk s = true) : eqD (.lst none (ss.map .str)) (.lst none []) = some ss.isEmpty := by
  have s0 : shw (.lst none (ss.map .str)) = true := by unfold shw; exact shws_map h
  have s1 : dpt (.lst none (ss.map .str)) ≤ 1 := by unfold dpt; have := dpts_map (f := FH.D.str) (l := ss) (k := 0) fun _ _ => Nat.le_refl _; omega
  obtain ⟨x, h1, h2, h3, h4⟩ := shw_py _ s0
  have e1 : toPy (.lst none (ss.map .str)) = some (.list (ss.map PyData.str)) := by
    unfold toPy
    rw [toPys_strs] <;> rfl
  rw [e1] at h1
  cases h1
  show eqDeep _ _ = _
  unfold eqDeep
  rw [e1, show toPy (.lst none []) = some (.list []) from rfl]
  have s1 : SeqAt.shaped (.list (ss.map PyData.str)) = true := by
    unfold SeqAt.shaped
    rw [h2, h4]
    simp
    omega
  have s2 : SeqAt.shaped (.list []) = true := by decide +kernel
  simp only [s1, s2, Bool.and_self, if_true]
  rw [eqv_strs]
def clean : FH.D → Bool
  | .str s => s.cps.toList.all fun c => decide (c ∈ ABC)
  | _ => false
def SDue (Φ : FT) : Prop := ∀ v lo hi, okV v = true → Fv Φ "_law_due" [v, .int lo, .int hi] (.ow (.lst none [.bl (isInt v lo hi), .bl (madeOf ABC 40 v), .bl (madeOf ABC 200 v)]))
theorem filter_empty {α : Type} {p : α → Bool} {l : List α} : (l.filter fun a => !p a).isEmpty = l.all p := by
  induction l with
  | nil => rfl
  | cons a l ih =>
    rw [List.filter_cons, List.all_cons]
    cases p a with
    | true => exact ih
    | false => rfl
theorem SDue.of {tab : List DT} {n : Nat} (h : findT tab "_law_due" = some x_law_dueT) : SDue (PT tab (n + 1)) := fun v lo hi hv => fv_of h rfl rfl (by
  refine Wp.asgV (v := rB (isInt v lo hi)) ?_ (Wp.asgV (v := rB (clean v)) ?_ ?_)
  · cases v with
    | int i =>
      refine Ev.and (s := true) (Ev.prim (rs := [.sh (.int i)]) (EvA.cons rfl (Ev.var rfl) EvA.nil) rfl rfl) fun _ => ?_
      refine Ev.and (s := true) (Ev.not (s := false) (Ev.prim (rs := [.sh (.int i)]) (EvA.cons rfl (Ev.var rfl) EvA.nil) rfl rfl)) fun _ => ?_
      exact Ev.and (Ev.prim (EvA.cons rfl (Ev.var rfl) (EvA.cons rfl (Ev.var rfl) EvA.nil)) rfl rfl) fun _ => Ev.one (Ev.prim (EvA.cons rfl (Ev.var rfl) (EvA.cons rfl (Ev.var rfl) EvA.nil)) rfl rfl)
    | bl b =>
      refine Ev.and (s := true) (Ev.prim (rs := [.sh (.bl b)]) (EvA.cons rfl (Ev.var rfl) EvA.nil) rfl rfl) fun _ => ?_
      exact Ev.and (s := false) (t := false) (Ev.not (s := true) (Ev.prim (rs := [.sh (.bl b)]) (EvA.cons rfl (Ev.var rfl) EvA.nil) rfl rfl)) fun z => nomatch z
    | obj C fs => cases hv
    | _ => exact Ev.and (s := false) (t := false) (Ev.prim (EvA.cons rfl (Ev.var rfl) EvA.nil) rfl rfl) fun z => nomatch z
  · cases v with
    | str s =>
      obtain ⟨v1, v2⟩ := Bool.and_eq_true_iff.mp hv
      have hl : s.cps.toList.length ≤ LIM := by
        have := of_decide_eq_true v1
        have e : s.length = s.cps.toList.length := TL.len_tl s
        unfold LIM
        omega
      refine Ev.and (s := true) (Ev.prim (rs := [.sh (.str s)]) (EvA.cons rfl (Ev.var rfl) EvA.nil) rfl rfl) fun _ => ?_
      refine Ev.one (Ev.prim (EvA.cons rfl (Ev.compIf (enc := dC) (l := s.cps.toList) (fun c => [some (.sh (.str s)), some (rZ lo), some (rZ hi), some (rB (isInt (.str s) lo hi)), none, some (.sh (dC c))]) (fun c => !decide (c ∈ ABC)) (fun c => .sh (dC c)) rfl (EvI.val (Ev.var rfl) rfl ?_) hl rfl rfl (fun _ => rfl) (fun c _ => ?_) fun c _ _ => Ev.var rfl) (EvA.cons rfl (Ev.lst EvN.nil) EvA.nil)) ?_ rfl)
      · rw [List.length_map]
        exact hl
      · exact Ev.prim (EvA.cons rfl (Ev.var rfl) (EvA.cons rfl (Ev.litS abc_eq) EvA.nil)) rfl rfl
      · show mbo (eqD (.lst none ((s.cps.toList.filter fun c => !decide (c ∈ ABC)).map dC)) (.lst none [])) = _
        have e : ((s.cps.toList.filter fun c => !decide (c ∈ ABC)).map dC) = ((s.cps.toList.filter fun c => !decide (c ∈ ABC)).map fun c => cS [c]).map FH.D.str := by rw [List.map_map] <;> rfl
        rw [e, eq_strs]
        · rw [List.isEmpty_map, filter_empty] <;> rfl
        · intro z hz
          obtain ⟨c, hc, rfl⟩ := List.mem_map.mp hz
          have hc2 := (List.mem_filter.mp hc).1
          unfold PyData.strOk at v2 ⊢
          rw [Array.all_eq_true'] at v2
          have := v2 c (Array.mem_toList_iff.mp hc2)
          simpa using this
    | obj C fs => cases hv
    | _ => exact Ev.and (s := false) (t := false) (Ev.prim (EvA.cons rfl (Ev.var rfl) EvA.nil) rfl rfl) fun z => nomatch z
  · have tail : ∀ m : Int, Ev (FH.PT tab n) (.and (.var 4) (.one (.chain .Lt .Lt (.lit (.int 0)) (.prim (.fn .len) (.cons (.var 0) .nil)) (.lit (.int (m + 1)))))) [some (.sh v), some (rZ lo), some (rZ hi), some (rB (isInt v lo hi)), some (rB (clean v)), none] (rB (madeOf ABC m v)) := by
      intro m
      cases v with
      | str s =>
        have hl : s.length ≤ LIM := Nat.le_trans (of_decide_eq_true (Bool.and_eq_true_iff.mp hv).1) (by decide)
        refine Ev.of (Ev.and (Ev.var rfl) fun _ => Ev.one (Ev.chain Ev.lit (Ev.prim (EvA.cons rfl (Ev.var rfl) EvA.nil) (if_pos hl) rfl) rfl fun _ => ⟨_, Ev.lit, rfl⟩)) ?_
        show rB (s.cps.toList.all (fun c => decide (c ∈ ABC)) && (decide (0 < (s.length : Int)) && decide ((s.length : Int) < m + 1))) = rB (decide (1 ≤ s.length) && decide ((s.length : Int) ≤ m) && _)
        have e1 : decide (0 < (s.length : Int)) = decide (1 ≤ s.length) := by rw [decide_eq_decide]; omega
        have e2 : decide ((s.length : Int) < m + 1) = decide ((s.length : Int) ≤ m) := by rw [decide_eq_decide]; omega
        rw [e1, e2, Bool.and_comm]
      | obj C fs => cases hv
      | _ => exact Ev.and (s := false) (t := false) (Ev.var rfl) fun z => nomatch z
    exact Wp.retV (Ev.lst (EvN.cons rfl (Ev.var rfl) (EvN.cons rfl (tail 40) (EvN.cons rfl (tail 200) EvN.nil)))) rfl)
end K01
set_option Elab.async false
set_option linter.all false
set_option maxRecDepth 100000
set_option maxHeartbeats 4000000
namespace K01
open PySem PySem.Spec PyProof.Rows L2 FH Fl
def SText (Φ : FT) : Prop := ∀ n r, Bx (n + 20) r → ∃ l r', Fo Φ "_law_text" r [] (rS l) r' ∧ l.length ≤ 300 ∧ (∀ c, c ∈ l → c < 256) ∧ Bx n r'
theorem sgn_eq : Str.ofString "AZ1? -\n" = cS [65, 90, 49, 63, 32, 45, 10] := by decide +kernel
theorem q_eq : Str.ofString "q" = cS [113] := by decide +kernel
theorem flat_one {α : Type} {w : List α} : (w.map fun c => [c]).flatten = w := by
  induction w with
  | nil => rfl
  | cons a w ih => rw [List.map_cons, List.flatten_cons, ih] <;> rfl
theorem SText.of {tab : List DT} {n : Nat} (h : findT tab "_law_text" = some x_law_textT) (S : STake (PT tab n)) : SText (PT tab (n + 1)) := by
  intro m r hb
  have key := fo_ex (r := r) (ds := []) (P := fun q r' => ∃ l, q = rS l ∧ l.length ≤ 300 ∧ (∀ c, c ∈ l → c < 256) ∧ Bx m r') h rfl rfl (n := n) (by
    refine Wp.asgV (Ev.litS abc_eq) ?_
    -- what follows the choice of signs
    have rest : ∀ (sg : List Nat) (r1 : R), Bx (m + 19) r1 → 0 < sg.length → sg.length ≤ 40 → (∀ c, c ∈ sg → c < 256) → Wp (FH.PT tab n) (tlS (tlS x_law_textB)) NoX [some r1, some (rS sg), none, none, none] (fun o => ∃ q r' env, o = .rt q env ∧ env[0]? = some (some r') ∧ ∃ l, q = rS l ∧ l.length ≤ 300 ∧ (∀ c, c ∈ l → c < 256) ∧ Bx m r') := by
      intro sg r1 b1 g0 g1 g2
      -- many
      refine Wp.asg (We.primN rfl (Wa.cons (We.lst (Wa.cons (We.take S (i := 0) rfl b1 rfl Ev.lit (by decide) (by decide) fun v1 r2 v10 v11 b2 => ?_)))))
      refine Wa.cons (We.primN rfl (Wa.lit (Wa.cons (We.take S (i := 0) rfl b2 rfl Ev.lit (by decide) (by decide) fun v2 r3 v20 v21 b3 => Wa.nil ⟨_, rfl, rfl, ?_⟩))))
      refine Wa.cons (We.primN rfl (Wa.lit (Wa.cons (We.take S (i := 0) rfl b3 rfl Ev.lit (by decide) (by decide) fun v3 r4 v30 v31 b4 => Wa.nil ⟨_, rfl, rfl, Wa.nil ?_⟩))))
      refine Wa.cons (We.take S (i := 0) rfl b4 rfl Ev.lit (by decide) (by decide) fun v4 r5 v40 v41 b5 => Wa.nil ?_)
      have pick : ∃ k : Int, atI [FH.D.int v1, .int (38 + v2), .int (199 + v3)] v4 = some (.int k) ∧ 0 ≤ k ∧ k ≤ 201 := by
        obtain ⟨d, d1, d2⟩ := atI_mem (xs := [FH.D.int v1, .int (38 + v2), .int (199 + v3)]) v40 v41
        rcases List.mem_cons.mp d2 with rfl | d2
        · exact ⟨_, d1, v10, by omega⟩
        rcases List.mem_cons.mp d2 with rfl | d2
        · exact ⟨_, d1, by omega, by omega⟩
        rcases List.mem_cons.mp d2 with rfl | d2
        · exact ⟨_, d1, by omega, by omega⟩
        · cases d2
      obtain ⟨k, k1, k2, k3⟩ := pick
      refine ⟨rZ k, sem_idxL k1, rfl, ?_⟩
      refine Wp.at_env (e := [some r5, some (rS sg), some (rZ k), none, none]) ?_ rfl
      -- drawn
      have hmn : ∃ j : Nat, j ≤ 9 ∧ (if (9 : Int) < k then (9 : Int) else k) = j := by
        split
        · exact ⟨9, by decide, rfl⟩
        · exact ⟨k.toNat, by omega, by omega⟩
      obtain ⟨j, j1, j2⟩ := hmn
      refine Wp.asg (We.mth (We.of Ev.lit ⟨rfl, Wa.cons (We.comp (enc := fun i : Nat => FH.D.int (0 + (i : Int))) (l := List.range j) (fun done ys e => ∃ (w : List Nat) (r' : R), ys = w.map dC ∧ w.length = done.length ∧ (∀ c, c ∈ w → c < 256) ∧ e = [some r', some (rS sg), some (rZ k), none, none] ∧ Bx (m + (15 - done.length)) r') ?_ ?_)⟩))
      · refine We.of (Ev.of (EvI.rng1 (n := j) (EvN.cons rfl (Ev.prim (EvA.cons rfl (Ev.var rfl) (EvA.cons rfl Ev.lit EvA.nil)) (r := rZ j) ?_ rfl) EvN.nil) (by unfold LIM; omega) (by unfold LIM; omega)) rfl) ⟨?_, ?_, ?_, ?_⟩
        · show mi (if (9 : Int) < k then (9 : Int) else k) = _
          rw [j2] <;> rfl
        · show R.sh (.lst none (rngD 0 j)) = _
          unfold rngD
          rw [show ((j : Int) - 0).toNat = j by omega]
        · rw [List.length_range]; unfold LIM; omega
        · exact ⟨[], r5, rfl, rfl, (fun _ h => nomatch h), rfl, b5⟩
        · rintro ys e2 ⟨w, r', rfl, w1, w2, rfl, b6⟩
          refine Wa.nil ⟨rS w, ?_, rfl, ?_⟩
          · have := mt_joinS (t := none) (f := fun c : Nat => [c]) (l := w) (by rw [flat_one]; rw [List.length_range] at w1; unfold LIM; omega)
            rw [flat_one] at this
            show semMt .join [.str (Str.ofString ""), .lst none (w.map dC)] = _
            rw [emp_eq]
            exact this
          · rw [List.length_range] at w1 b6
            refine Wp.at_env (e := [some r', some (rS sg), some (rZ k), some (rS w), none]) ?_ rfl
            refine Wp.retV (Ev.prim (EvA.cons rfl (Ev.prim (EvA.cons rfl (Ev.var rfl) (EvA.cons rfl (Ev.prim (EvA.cons rfl (Ev.litS q_eq) (EvA.cons rfl Ev.lit EvA.nil)) (sem_mulS (by decide) (by decide) (by decide)) rfl) EvA.nil)) (sem_addS ?_) rfl) (EvA.cons rfl (Ev.var rfl) EvA.nil)) (sem_slS ?_ k2) rfl) ⟨_, r', _, rfl, rfl, _, rfl, ?_, ?_, b6.le (by omega)⟩
            · have : (List.replicate (210 : Int).toNat [113]).flatten.length = 210 := by decide +kernel
              rw [this, w1]; unfold LIM; omega
            · have : (List.replicate (210 : Int).toNat [113]).flatten.length = 210 := by decide +kernel
              rw [List.length_append, this, w1]; unfold LIM; omega
            · rw [List.length_take]; omega
            · intro c hc
              rcases List.mem_append.mp (List.mem_of_mem_take hc) with z | z
              · exact w2 c z
              · have : (List.replicate (210 : Int).toNat [113]).flatten.all (fun c => decide (c < 256)) = true := by decide +kernel
                exact of_decide_eq_true (List.all_eq_true.mp this c z)
      · rintro done a rst ys e hl ⟨w, r', rfl, w1, w2, rfl, b6⟩
        have hd : done.length < j := by
          have := congrArg List.length hl
          rw [List.length_range, List.length_append, List.length_cons] at this
          omega
        refine ⟨_, rfl, We.primN rfl (Wa.consV (Ev.var rfl) (Wa.cons (We.take S (i := 0) (n := m + (15 - (done.length + 1))) rfl (b6.le (by omega)) rfl (Ev.prim (EvA.cons rfl (Ev.var rfl) EvA.nil) (sem_lenS (by unfold LIM; omega)) rfl) (by omega) (by omega) fun v r7 v0 v1 b7 => Wa.nil ?_)))⟩
        obtain ⟨c, c1, c2⟩ := atI_mem v0 v1
        refine ⟨_, sem_idxS (by unfold LIM; omega) c1, rfl, w ++ [c], r7, ?_, ?_, ?_, rfl, ?_⟩
        · rw [List.map_append] <;> rfl
        · rw [List.length_append, List.length_append, w1] <;> rfl
        · intro x hx
          rcases List.mem_append.mp hx with z | z
          · exact w2 x z
          · rw [List.mem_singleton.mp z]; exact g2 c c2
        · rw [List.length_append]; exact b7
    refine Wp.ifs (We.primN rfl (Wa.cons (We.take S (i := 0) rfl hb rfl Ev.lit (by decide) (by decide) fun v r1 v0 v1 b1 => Wa.lit (Wa.nil ⟨_, rfl, rfl, _, rfl, fun _ => ?_, fun _ => ?_⟩))))
    · refine Wp.asgV (Ev.prim (EvA.cons rfl (Ev.var rfl) (EvA.cons rfl (Ev.litS sgn_eq) EvA.nil)) (sem_addS (by decide)) rfl) (Wp.nil ?_)
      exact rest _ r1 b1 (by decide) (by decide) (by decide)
    · exact rest _ r1 b1 (by decide) (by decide) (by decide))
  obtain ⟨q, r', h1, l, rfl, h2, h3, h4⟩ := key
  exact ⟨l, r', h1, h2, h3, h4⟩
end K01
set_option Elab.async false
set_option linter.all false
set_option maxRecDepth 100000
set_option maxHeartbeats 4000000
namespace K01
open PySem PySem.Spec PyProof.Rows L2 FH Fl
theorem q1_eq : Str.ofString "q" = cS [113] := by decide +kernel
theorem a1_eq : Str.ofString "a" = cS [97] := by decide +kernel
theorem odd3_ok : odd3.all okV = true := by decide +kernel
theorem okV_cS {l : List Nat} (h : l.length ≤ 5000) (k : ∀ c, c ∈ l → c < 256) : okV (dS l) = true := by
  refine Bool.and_eq_true_iff.mpr ⟨decide_eq_true (by rw [cS_len]; exact h), ?_⟩
  unfold PyData.strOk
  rw [Array.all_eq_true']
  intro c hc
  have := k c (Array.mem_toList_iff.mpr hc)
  simp
  omega
/-- the law's answer -/
def Yes (P : FH.D) : Out → Prop := fun o => ∃ e, o = .rt (.sh P) e
theorem law_wp {Φ : FT} {ns : List Int} (s1 : SCell Φ) (s2 : SBox Φ) (s3 : STake Φ) (s4 : SEven Φ) (s5 : SOdd Φ) (s6 : SText Φ) (s7 : SDue Φ) (s8 : SInt Φ) (s9 : SWord Φ) (s10 : SMess Φ) :
    Wp Φ lawB NoX [some (.sh (.scr ns)), none, none, none, none, none] (Yes (.bl true)) := by
  -- the number of turns
  have hmn : ∃ j : Nat, j ≤ 30 ∧ (if (if (ns.length : Int) < 30 then (ns.length : Int) else 30) > 2 then (if (ns.length : Int) < 30 then (ns.length : Int) else 30) else 2) = j := by
    refine ⟨max 2 (min 30 ns.length), by omega, ?_⟩
    split <;> split <;> omega
  obtain ⟨j, j1, j2⟩ := hmn
  refine Wp.forV (enc := fun i : Nat => FH.D.int (0 + (i : Int))) (l := List.range j) (fun done e => ∃ a b c d f, e = [some (.sh (.scr ns)), a, b, c, d, f]) ?_ ⟨_, _, _, _, _, rfl⟩ ?_ ?_
  · have := EvI.rng1 (Φ := Φ) (n := j) (env := [some (.sh (.scr ns)), none, none, none, none, none]) (EvN.cons (e := .prim (.fn .max2) (.cons (.lit (.int 2)) (.cons (.prim (.fn .min2) (.cons (.lit (.int 30)) (.cons (.prim (.fn .len) (.cons (.var 0) .nil)) .nil))) .nil))) rfl (Ev.prim (EvA.cons rfl Ev.lit (EvA.cons rfl (Ev.prim (EvA.cons rfl Ev.lit (EvA.cons rfl (Ev.prim (EvA.cons rfl (Ev.var rfl) EvA.nil) rfl rfl) EvA.nil)) (r := rZ (if (ns.length : Int) < 30 then (ns.length : Int) else 30)) rfl rfl) EvA.nil)) (r := rZ j) ?_ rfl) EvN.nil) (by unfold LIM; omega) (by unfold LIM; omega)
    · unfold rngD at this
      rw [show ((j : Int) - 0).toNat = j by omega] at this
      exact this
    · show mi (if (if (ns.length : Int) < 30 then (ns.length : Int) else 30) > 2 then (if (ns.length : Int) < 30 then (ns.length : Int) else 30) else 2) = _
      rw [j2] <;> rfl
  · rintro done i rst e hl ⟨a, b, c, d, f, rfl⟩
    have hi : i < 30 := by
      have : i ∈ List.range j := by rw [hl]; simp
      have := List.mem_range.mp this
      omega
    refine ⟨_, rfl, Wp.at_env (e := [some (.sh (.scr ns)), some (rZ i), b, c, d, f]) ?_ (by show [some (.sh (.scr ns)), some (.sh (.int (0 + (i : Int)))), b, c, d, f] = _; rw [Int.zero_add])⟩
    -- box
    obtain ⟨v, hv⟩ := s1 ns i (by omega)
    obtain ⟨bx0, hb0, b0⟩ := s2 v
    refine Wp.asgV (Ev.fv hb0 (EvD.cons rfl (Ev.fv hv (EvD.cons rfl (Ev.var rfl) rfl (EvD.cons rfl (Ev.var rfl) rfl EvD.nil))) rfl EvD.nil)) ?_
    refine Wp.at_env (e := [some (.sh (.scr ns)), some (rZ i), some bx0, c, d, f]) ?_ rfl
    have P9 : ∀ {env : En}, Ev Φ (.prim (.bin .Pow) (.cons (.lit (.int 10)) (.cons (.lit (.int 9)) .nil))) env (rZ (10 ^ (9 : Int).toNat)) := Ev.prim (EvA.cons rfl Ev.lit (EvA.cons rfl Ev.lit EvA.nil)) (sem_pow (by decide) (by decide) (by decide)) rfl
    have P28 : ∀ {env : En}, Ev Φ (.prim (.bin .Pow) (.cons (.lit (.int 10)) (.cons (.lit (.int 28)) .nil))) env (rZ (10 ^ (28 : Int).toNat)) := Ev.prim (EvA.cons rfl Ev.lit (EvA.cons rfl Ev.lit EvA.nil)) (sem_pow (by decide) (by decide) (by decide)) rfl
    have P29 : ∀ {env : En}, Ev Φ (.prim (.bin .Pow) (.cons (.lit (.int 10)) (.cons (.lit (.int 29)) .nil))) env (rZ (10 ^ (29 : Int).toNat)) := Ev.prim (EvA.cons rfl Ev.lit (EvA.cons rfl Ev.lit EvA.nil)) (sem_pow (by decide) (by decide) (by decide)) rfl
    -- low
    refine Wp.asg (We.primN rfl (Wa.cons (We.lst (Wa.cons (We.primN rfl (Wa.cons (We.take s3 (i := 2) (n := 999999) rfl b0 rfl Ev.lit (by decide) (by decide) fun v1 r1 v10 v11 b1 => Wa.lit (Wa.nil ⟨_, rfl, rfl, ?_⟩)))))))) 
    refine Wa.cons (We.take s3 (i := 2) (n := 999998) rfl b1 rfl P9 (by decide) (by decide) fun v2 r2 v20 v21 b2 => Wa.consV P28 (Wa.nil ?_))
    refine Wa.cons (We.take s3 (i := 2) (n := 999997) rfl b2 rfl Ev.lit (by decide) (by decide) fun v3 r3 v30 v31 b3 => Wa.nil ?_)
    have pick : ∃ k : Int, atI [FH.D.int (v1 - 20), .int v2, .int (10 ^ (28 : Int).toNat)] v3 = some (.int k) := by
      obtain ⟨d, d1, d2⟩ := atI_mem (xs := [FH.D.int (v1 - 20), .int v2, .int (10 ^ (28 : Int).toNat)]) v30 v31
      rcases List.mem_cons.mp d2 with rfl | d2
      · exact ⟨_, d1⟩
      rcases List.mem_cons.mp d2 with rfl | d2
      · exact ⟨_, d1⟩
      rcases List.mem_cons.mp d2 with rfl | d2
      · exact ⟨_, d1⟩
      · cases d2
    obtain ⟨low, l1⟩ := pick
    refine ⟨rZ low, sem_idxL l1, rfl, ?_⟩
    refine Wp.at_env (e := [some (.sh (.scr ns)), some (rZ i), some r3, some (rZ low), d, f]) ?_ rfl
    -- high
    refine Wp.asg (We.primN rfl (Wa.consV (Ev.var rfl) (Wa.cons (We.primN rfl (Wa.cons (We.lst (Wa.cons (We.primN rfl (Wa.cons (We.take s3 (i := 2) (n := 999996) rfl b3 rfl Ev.lit (by decide) (by decide) fun v1 r1 v10 v11 b1 => Wa.lit (Wa.nil ⟨_, rfl, rfl, ?_⟩)))))))))))
    refine Wa.cons (We.take s3 (i := 2) (n := 999995) rfl b1 rfl P9 (by decide) (by decide) fun v2 r2 v20 v21 b2 => Wa.consV P29 (Wa.nil ?_))
    refine Wa.cons (We.take s3 (i := 2) (n := 999994) rfl b2 rfl Ev.lit (by decide) (by decide) fun v3 r4 v30 v31 b4 => Wa.nil ?_)
    have pick : ∃ k : Int, atI [FH.D.int (v1 - 2), .int v2, .int (10 ^ (29 : Int).toNat)] v3 = some (.int k) := by
      obtain ⟨d, d1, d2⟩ := atI_mem (xs := [FH.D.int (v1 - 2), .int v2, .int (10 ^ (29 : Int).toNat)]) v30 v31
      rcases List.mem_cons.mp d2 with rfl | d2
      · exact ⟨_, d1⟩
      rcases List.mem_cons.mp d2 with rfl | d2
      · exact ⟨_, d1⟩
      rcases List.mem_cons.mp d2 with rfl | d2
      · exact ⟨_, d1⟩
      · cases d2
    obtain ⟨hi0, l2⟩ := pick
    refine ⟨rZ hi0, sem_idxL l2, rfl, Wa.nil ⟨rZ (low + hi0), rfl, rfl, ?_⟩⟩
    generalize low + hi0 = high
    refine Wp.at_env (e := [some (.sh (.scr ns)), some (rZ i), some r4, some (rZ low), some (rZ high), f]) ?_ rfl
    -- the values
    refine Wp.forE (We.sval (We.lst ?_))
    refine Wa.consV (Ev.prim (EvA.cons rfl (Ev.var rfl) (EvA.cons rfl Ev.lit EvA.nil)) rfl rfl) (Wa.consV (Ev.var rfl) (Wa.consV (Ev.var rfl) (Wa.consV (Ev.prim (EvA.cons rfl (Ev.var rfl) (EvA.cons rfl Ev.lit EvA.nil)) rfl rfl) ?_)))
    obtain ⟨w, r5, w1, w2, w3, b5⟩ := s6 999974 r4 b4
    refine Wa.cons (We.lent (i := 2) w1 rfl EvD.nil ?_)
    obtain ⟨od, r6, o1, o2, b6⟩ := s5 999973 r5 b5
    refine Wa.cons (We.lent (i := 2) o1 rfl EvD.nil ?_)
    refine Wa.consV (Ev.lst (EvN.cons rfl (Ev.var rfl) EvN.nil)) (Wa.cons (We.primN rfl (Wa.consV (Ev.litS a1_eq) (Wa.cons (We.primN rfl (Wa.lit (Wa.cons (We.take s3 (i := 2) (n := 999972) rfl b6 rfl Ev.lit (by decide) (by decide) fun v1 r7 v10 v11 b7 => Wa.nil ⟨_, rfl, rfl, ?_⟩))))))))
    refine Wa.nil ⟨_, sem_mulS (by omega) (by omega) (by show 1 * _ ≤ LIM; unfold LIM; omega), rfl, Wa.nil ?_⟩
    refine ⟨_, rfl, by show 8 ≤ LIM; decide, _, fun _ e => ∃ g, e = [some (.sh (.scr ns)), some (rZ i), some r7, some (rZ low), some (rZ high), g], rfl, ⟨_, rfl⟩, ?_, ?_⟩
    · rintro done x rst e hx ⟨g, rfl⟩
      have hm : x ∈ done ++ x :: rst := by simp
      rw [← hx] at hm
      have okx : okV x = true := by
        rcases List.mem_cons.mp hm with rfl | hm
        · rfl
        rcases List.mem_cons.mp hm with rfl | hm
        · rfl
        rcases List.mem_cons.mp hm with rfl | hm
        · rfl
        rcases List.mem_cons.mp hm with rfl | hm
        · rfl
        rcases List.mem_cons.mp hm with rfl | hm
        · exact okV_cS (by omega) w3
        rcases List.mem_cons.mp hm with rfl | hm
        · exact List.all_eq_true.mp odd3_ok _ o2
        rcases List.mem_cons.mp hm with rfl | hm
        · rfl
        rcases List.mem_cons.mp hm with rfl | hm
        · refine okV_cS ?_ ?_
          · have : (List.replicate (39 + v1).toNat [97]).flatten.length = (39 + v1).toNat := by rw [List.length_flatten]; simp
            rw [this]; omega
          · intro c hc
            obtain ⟨l, l1, l2⟩ := List.mem_flatten.mp hc
            rw [List.eq_of_mem_replicate l1] at l2
            rw [List.mem_singleton.mp l2]; decide
        · cases hm
      clear hm hx
      refine ⟨_, rfl, Wp.at_env (e := [some (.sh (.scr ns)), some (rZ i), some r7, some (rZ low), some (rZ high), some (.sh x)]) ?_ rfl⟩
      refine Wp.if1 (t := false) ?_ (fun z => nomatch z) fun _ => Wp.nil ⟨_, rfl⟩
      have vx : Ev Φ (.var 5) [some (.sh (.scr ns)), some (rZ i), some r7, some (rZ low), some (rZ high), some (.sh x)] (.sh x) := Ev.var rfl
      have e1 := Ev.fv (s8 x low high (okV_D okx)) (EvD.cons rfl vx rfl (EvD.cons (e := .var 3) (es := .cons (.var 4) .nil) rfl (Ev.var rfl) rfl (EvD.cons (e := .var 4) rfl (Ev.var rfl) rfl EvD.nil)))
      have e2 := Ev.fv (s9 x (okV_D okx)) (EvD.cons rfl vx rfl EvD.nil)
      have e3 := Ev.fv (s10 x (okV_D okx)) (EvD.cons rfl vx rfl EvD.nil)
      have e4 := Ev.fv (s7 x low high okx) (EvD.cons rfl vx rfl (EvD.cons (e := .var 3) (es := .cons (.var 4) .nil) rfl (Ev.var rfl) rfl (EvD.cons (e := .var 4) rfl (Ev.var rfl) rfl EvD.nil)))
      exact Ev.not (s := true) (Ev.fv (s4 (.lst none [.bl (isInt x low high), .bl (madeOf ABC 40 x), .bl (madeOf ABC 200 x)]) rfl (show 1 ≤ 40 by decide) (show 25 ≤ LIM by decide)) (EvD.cons rfl (Ev.lst (EvN.cons rfl e1 (EvN.cons rfl e2 (EvN.cons rfl e3 EvN.nil)))) rfl (EvD.cons rfl e4 rfl EvD.nil)))
    · rintro e ⟨g, rfl⟩
      exact Wp.nil ⟨_, _, _, _, _, rfl⟩
  · rintro e ⟨a, b, c, d, f, rfl⟩
    refine Wp.retV (v := rB true) (Ev.and (s := true) (t := true) (Ev.prim (EvA.cons rfl (Ev.fv (s9 (dS [113]) rfl) (EvD.cons rfl (Ev.litS q1_eq) rfl EvD.nil)) (EvA.cons rfl Ev.lit EvA.nil)) ?_ rfl) fun _ => Ev.one (Ev.prim (EvA.cons rfl (Ev.fv (s8 (.int 5) 5 5 rfl) (EvD.cons rfl Ev.lit rfl (EvD.cons rfl Ev.lit rfl (EvD.cons rfl Ev.lit rfl EvD.nil)))) (EvA.cons rfl Ev.lit EvA.nil)) rfl rfl)) ⟨_, rfl⟩
    show P.sem (.cmp .Is) [.bl (madeOf ABC 40 (dS [113])), .bl true] = _
    rw [show madeOf ABC 40 (dS [113]) = true by decide +kernel] <;> rfl
end K01
set_option Elab.async false
set_option linter.all false
set_option maxRecDepth 100000
set_option maxHeartbeats 400000
namespace K01
open PySem PySem.Spec PyProof.Rows L2 FH Fl
theorem specs (n : Nat) (ns : List Int) : Wp (PT (tab.map (·.1)) (n + 4)) lawB NoX [some (.sh (.scr ns)), none, none, none, none, none] (Yes (.bl true)) := by
  have t : ∀ n, STake (PT (tab.map (·.1)) (n + 1)) := fun n => STake.of f_x_law_take (by decide) (by decide)
  have m : ∀ n, SMade (PT (tab.map (·.1)) (n + 1)) := fun n => SMade.of f_is_made_of
  exact law_wp (SCell.of f_x_law_cell) (SBox.of f_x_law_box) (t _) (SEven.of f_x_law_even) (SOdd.of f_x_law_odd (t _)) (SText.of f_x_law_text (t _)) (SDue.of f_x_law_due) (SInt.of f_is_integer) (SWord.of f_is_word (m _)) (SMess.of f_is_message (m _))
theorem law_true (ns : List Int) (h : ns.length ≤ 63) : ∃ outs, dG (PT (tab.map (·.1)) 4) lawT.N.length 1 lawT.io lawT.B [.sh (.scr ns)] = .ok (.sh (.bl true), outs) := by
  have w := specs 0 ns
  have key : OkM (dG (PT (tab.map (·.1)) 4) lawT.N.length 1 lawT.io lawT.B [.sh (.scr ns)]) (fun c => ∃ outs, c = (.sh (.bl true), outs)) NoX := by
    refine dG_ok rfl (Wp.imp w fun o q => ?_)
    obtain ⟨e, rfl⟩ := q
    exact ⟨_, rfl⟩
  obtain ⟨c, e, outs, rfl⟩ := okM_ex key
  exact ⟨outs, e⟩
end K01
set_option Elab.async false
set_option linter.all false
set_option maxRecDepth 100000
set_option maxHeartbeats 0
open PySem PySem.W PySem.Calls PyProof.Rows
theorem PySem.Challenge.cw_flaghoists_k01_words_and_messages_holds : PySem.Challenge.rw_flaghoists_k01_words_and_messages.Holds := by
  w_on; o_law
  refine HandSHeadRun.head_any (r := OpenLaw.row PySem.Challenge.rw_flaghoists_k01_words_and_messages) (q := K01.qv) (H := K01.hk) (ob := K01.ob) (M := 2000) (loose := K01.loose) (d := HandSHeadRun.topDef (OpenLaw.row PySem.Challenge.rw_flaghoists_k01_words_and_messages).prog 16) (kwd := []) K01.ob_eq
    (by kernel_rfl) (fun s => by kernel_rfl) K01.run (by kernel_rfl) (by kernel_rfl) (by kernel_rfl) (by rfl) (by first | assumption | decide +kernel) (by decide +kernel) ⟨rfl, rfl, rfl, rfl, rfl, by decide +kernel⟩ ?hw ?hc
  case hw => w_witness2
  case hc =>
    refine FH.walk_G (l := PySem.Challenge.rw_flaghoists_k01_words_and_messages) (n := 63) (k := 4 + 2) (x := "script") rfl (by decide) (by kernel_rfl) (by decide) ?F
    intro w mg fa h Y G hmg0
    obtain ⟨K, KX, c⟩ := Y
    have hmg : mg ("law" : PySem.Str) = some (.ref fa) := by
      have e : (HandSHeadRun.topDef (OpenLaw.row PySem.Challenge.rw_flaghoists_k01_words_and_messages).prog 16).name = ("law" : PySem.Str) := by kernel_rfl
      rw [← e]
      exact hmg0
    obtain ⟨fd, hb, hF⟩ := FH.law_facts (P := (PySem.Challenge.rw_flaghoists_k01_words_and_messages).prog) (w := w) KX G c (by decide +kernel) K01.fits hmg (d := K01.lawT) (st := K01.top 16) (x := "script") (by simp [K01.tab]) rfl rfl 4
    refine ⟨K, fd, _, KX, hb, fun H a ns hl oH sH => ?_, fun base _ _ => hF base⟩
    exact FH.spD_law rfl oH sH (K01.law_true ns hl)
