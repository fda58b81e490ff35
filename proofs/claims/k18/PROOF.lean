import PyProof.Rows.All
import Wide.All
import OpenK.AllK
import Wide.FinOn
import HandS.ForMost
import HandS.ForExc
import HandS.TryMany
import HandS.ExcInit
import HandS.CallSlots
import HandS.IsInst
import HandS.Style
import HandS.Flow
import HandS.Deep
import HandS.Conv
import HandS.StrMore
import OpenK.KCls
import HandS.HeadHook2
import KE.KIsAll
import PyProof.StrWalks
import PyProof.Rows.SetFrom
import PyProof.Rows.SortShellAny
import HandS.Base
import HandS.Call
import HandS.List
import HandS.Set
import HandS.Strs
import HandS.WideBits
import HandS.More
import HandS.TryOnly
import HandS.Small
import HandS.HeadEnd
import HandS.Defaults
import HandS.Head0
import HandS.Head1
import HandS.Head2
import HandS.HeadHook1
import PySem.Challenge.RW_flaghoists_k18_what_it_can_be
set_option Elab.async false
set_option linter.all false
set_option maxRecDepth 100000
set_option maxHeartbeats 2000000
namespace FH
open PySem PySem.Spec PyProof.Rows L2
inductive D where
  | non | bl (b : Bool) | int (i : Int) | str (s : Str)
  | scr (ns : List Int) | lst (t : Option Addr) (xs : List D) | tup (xs : List D) | dic (t : Option Addr) (kvs : List (Key × D)) | obj (C : Str) (fs : List (Str × D))
/-! ### data in a heap -/
/-- the classes' addresses, the written part -/
structure Cs where
  ad : Str → Addr
  K : PySem.W.Frag
mutual
def Rep (ca : Cs) (F : Hp) : D → V → Prop
  | .non, v => v = .non
  | .bl b, v => v = .bl b
  | .int i, v => v = .int i
  | .str s, v => v = .str s
  | .scr ns, v => ∃ a, v = .ref a ∧ SqL ca.K F a (ns.map V.int)
  | .lst t xs, v => ∃ a vs, v = .ref a ∧ F a = some (.lst vs) ∧ (t = none ∨ t = some a) ∧ Reps ca F xs vs
  | .tup xs, v => ∃ a vs, v = .ref a ∧ F a = some (.tup vs) ∧ Reps ca F xs vs
  | .dic t kvs, v => ∃ a vs, v = .ref a ∧ F a = some (.dK vs) ∧ (t = none ∨ t = some a) ∧ RepK ca F kvs vs
  | .obj C fs, v => ∃ a dx vs, v = .ref a ∧ F a = some (.ins (ca.ad C) dx vs) ∧ RepF ca F fs vs
def Reps (ca : Cs) (F : Hp) : List D → List V → Prop
  | [], vs => vs = []
  | d :: ds, vs => ∃ v r, vs = v :: r ∧ Rep ca F d v ∧ Reps ca F ds r
def RepK (ca : Cs) (F : Hp) : List (Key × D) → List (Key × V) → Prop
  | [], vs => vs = []
  | (k, d) :: ds, vs => ∃ v r, vs = (k, v) :: r ∧ Rep ca F d v ∧ RepK ca F ds r
def RepF (ca : Cs) (F : Hp) : List (Str × D) → List (Str × V) → Prop
  | [], vs => vs = []
  | (k, d) :: ds, vs => ∃ v r, vs = (k, v) :: r ∧ Rep ca F d v ∧ RepF ca F ds r
end
def Sub (F G : Hp) : Prop := ∀ a o, F a = some o → G a = some o
theorem Sub.refl (F : Hp) : Sub F F := fun _ _ h => h
theorem Sub.trans {F G H : Hp} (a : Sub F G) (b : Sub G H) : Sub F H := fun x o h => b x o (a x o h)
mutual
theorem Rep.mono {ca : Cs} {F G : Hp} (e : Sub F G) : ∀ (d : D) (v : V), Rep ca F d v → Rep ca G d v
  | .non, v, h => by unfold Rep at h ⊢; exact h
  | .bl b, v, h => by unfold Rep at h ⊢; exact h
  | .int i, v, h => by unfold Rep at h ⊢; exact h
  | .str s, v, h => by unfold Rep at h ⊢; exact h
  | .scr ns, v, h => by
    unfold Rep at h ⊢
    obtain ⟨a, h1, h2⟩ := h
    exact ⟨a, h1, Same.seq e h2⟩
  | .lst t xs, v, h => by
    unfold Rep at h ⊢
    obtain ⟨a, vs, h1, h2, h3, h4⟩ := h
    exact ⟨a, vs, h1, e _ _ h2, h3, Reps.mono e xs vs h4⟩
  | .tup xs, v, h => by
    unfold Rep at h ⊢
    obtain ⟨a, vs, h1, h2, h4⟩ := h
    exact ⟨a, vs, h1, e _ _ h2, Reps.mono e xs vs h4⟩
  | .dic t kvs, v, h => by
    unfold Rep at h ⊢
    obtain ⟨a, vs, h1, h2, h3, h4⟩ := h
    exact ⟨a, vs, h1, e _ _ h2, h3, RepK.mono e kvs vs h4⟩
  | .obj C fs, v, h => by
    unfold Rep at h ⊢
    obtain ⟨a, dx, vs, h1, h2, h4⟩ := h
    exact ⟨a, dx, vs, h1, e _ _ h2, RepF.mono e fs vs h4⟩
theorem Reps.mono {ca : Cs} {F G : Hp} (e : Sub F G) : ∀ (ds : List D) (vs : List V), Reps ca F ds vs → Reps ca G ds vs
  | [], vs, h => by unfold Reps at h ⊢; exact h
  | d :: ds, vs, h => by
    unfold Reps at h ⊢
    obtain ⟨v, r, h1, h2, h3⟩ := h
    exact ⟨v, r, h1, Rep.mono e d v h2, Reps.mono e ds r h3⟩
theorem RepK.mono {ca : Cs} {F G : Hp} (e : Sub F G) : ∀ (ds : List (Key × D)) (vs : List (Key × V)), RepK ca F ds vs → RepK ca G ds vs
  | [], vs, h => by unfold RepK at h ⊢; exact h
  | (k, d) :: ds, vs, h => by
    unfold RepK at h ⊢
    obtain ⟨v, r, h1, h2, h3⟩ := h
    exact ⟨v, r, h1, Rep.mono e d v h2, RepK.mono e ds r h3⟩
theorem RepF.mono {ca : Cs} {F G : Hp} (e : Sub F G) : ∀ (ds : List (Str × D)) (vs : List (Str × V)), RepF ca F ds vs → RepF ca G ds vs
  | [], vs, h => by unfold RepF at h ⊢; exact h
  | (k, d) :: ds, vs, h => by
    unfold RepF at h ⊢
    obtain ⟨v, r, h1, h2, h3⟩ := h
    exact ⟨v, r, h1, Rep.mono e d v h2, RepF.mono e ds r h3⟩
end
section
variable {ca : Cs} {F G : Hp}
theorem Reps.length : ∀ {ds : List D} {vs : List V}, Reps ca F ds vs → vs.length = ds.length
  | [], vs, h => by unfold Reps at h; subst h; rfl
  | d :: ds, vs, h => by
    unfold Reps at h
    obtain ⟨v, r, h1, h2, h3⟩ := h
    subst h1
    rw [List.length_cons, List.length_cons, Reps.length h3]
theorem Reps.get : ∀ {ds : List D} {vs : List V} {i : Nat} {d : D}, Reps ca F ds vs → ds[i]? = some d → ∃ v, vs[i]? = some v ∧ Rep ca F d v
  | [], vs, i, d, h, e => by simp at e
  | d :: ds, vs, 0, d', h, e => by
    unfold Reps at h
    obtain ⟨v, r, h1, h2, h3⟩ := h
    subst h1
    simp at e
    subst e
    exact ⟨v, rfl, h2⟩
  | d :: ds, vs, i + 1, d', h, e => by
    unfold Reps at h
    obtain ⟨v, r, h1, h2, h3⟩ := h
    subst h1
    obtain ⟨v', e1, e2⟩ := Reps.get (i := i) (d := d') h3 (by simpa using e)
    exact ⟨v', by simpa using e1, e2⟩
theorem Reps.get' : ∀ {ds : List D} {vs : List V} {i : Nat} {v : V}, Reps ca F ds vs → vs[i]? = some v → ∃ d, ds[i]? = some d ∧ Rep ca F d v
  | [], vs, i, d, h, e => by unfold Reps at h; subst h; simp at e
  | d :: ds, vs, 0, d', h, e => by
    unfold Reps at h
    obtain ⟨v, r, h1, h2, h3⟩ := h
    subst h1
    simp at e
    subst e
    exact ⟨d, rfl, h2⟩
  | d :: ds, vs, i + 1, d', h, e => by
    unfold Reps at h
    obtain ⟨v, r, h1, h2, h3⟩ := h
    subst h1
    obtain ⟨v', e1, e2⟩ := Reps.get' (i := i) (v := d') h3 (by simpa using e)
    exact ⟨v', by simpa using e1, e2⟩
theorem Reps.append : ∀ {ds es : List D} {vs us : List V}, Reps ca F ds vs → Reps ca F es us → Reps ca F (ds ++ es) (vs ++ us)
  | [], es, vs, us, h, k => by unfold Reps at h; subst h; exact k
  | d :: ds, es, vs, us, h, k => by
    unfold Reps at h
    obtain ⟨v, r, h1, h2, h3⟩ := h
    subst h1
    show Reps ca F (d :: (ds ++ es)) (v :: (r ++ us))
    unfold Reps
    exact ⟨v, _, rfl, h2, Reps.append h3 k⟩
theorem Reps.nil : Reps ca F [] [] := by unfold Reps; rfl
theorem Reps.cons {d : D} {ds : List D} {v : V} {vs : List V} (h : Rep ca F d v) (k : Reps ca F ds vs) : Reps ca F (d :: ds) (v :: vs) := by
  unfold Reps; exact ⟨v, vs, rfl, h, k⟩
theorem Reps.of_get : ∀ {ds : List D} {vs : List V}, vs.length = ds.length → (∀ (i : Nat) (d : D) (v : V), ds[i]? = some d → vs[i]? = some v → Rep ca F d v) → Reps ca F ds vs
  | [], [], _, _ => .nil
  | d :: ds, v :: vs, hl, h => .cons (h 0 d v rfl rfl) (Reps.of_get (by simpa using hl) fun i d' v' e1 e2 => h (i + 1) d' v' (by simpa using e1) (by simpa using e2))
  | [], v :: vs, hl, _ => by simp at hl
  | d :: ds, [], hl, _ => by simp at hl
theorem Reps.set {ds : List D} {vs : List V} {i : Nat} {d : D} {v : V} (h : Reps ca F ds vs) (k : Rep ca F d v) : Reps ca F (ds.set i d) (vs.set i v) := by
  refine Reps.of_get (by simp [h.length]) fun j d' v' e1 e2 => ?_
  by_cases hj : i = j
  · subst hj
    by_cases hlt : i < ds.length
    · rw [List.getElem?_set_self hlt] at e1
      rw [List.getElem?_set_self (by rw [h.length]; exact hlt)] at e2
      cases e1; cases e2
      exact k
    · rw [List.getElem?_eq_none (by simpa using hlt)] at e1
      cases e1
  · rw [List.getElem?_set_ne hj] at e1 e2
    obtain ⟨v2, e3, r⟩ := h.get e1
    rw [e2] at e3; cases e3
    exact r
theorem Reps.eraseIdx {ds : List D} {vs : List V} {j : Nat} (h : Reps ca F ds vs) : Reps ca F (ds.eraseIdx j) (vs.eraseIdx j) := by
  refine Reps.of_get (by rw [List.length_eraseIdx, List.length_eraseIdx, h.length]) fun i d v e1 e2 => ?_
  rw [List.getElem?_eraseIdx] at e1 e2
  split at e1
  · rename_i hi
    rw [if_pos hi] at e2
    obtain ⟨v', g1, g2⟩ := h.get e1
    rw [g1] at e2
    cases e2
    exact g2
  · rename_i hi
    rw [if_neg hi] at e2
    obtain ⟨v', g1, g2⟩ := h.get e1
    rw [g1] at e2
    cases e2
    exact g2
theorem Reps.take {ds : List D} {vs : List V} (n : Nat) (h : Reps ca F ds vs) : Reps ca F (ds.take n) (vs.take n) := by
  refine Reps.of_get (by simp [h.length]) fun j d' v' e1 e2 => ?_
  rw [List.getElem?_take] at e1 e2
  split at e1
  · rename_i hj
    rw [if_pos hj] at e2
    obtain ⟨v2, e3, r⟩ := h.get e1
    rw [e2] at e3; cases e3
    exact r
  · cases e1
theorem Reps.drop {ds : List D} {vs : List V} (n : Nat) (h : Reps ca F ds vs) : Reps ca F (ds.drop n) (vs.drop n) := by
  refine Reps.of_get (by simp [h.length]) fun j d' v' e1 e2 => ?_
  rw [List.getElem?_drop] at e1 e2
  obtain ⟨v2, e3, r⟩ := h.get e1
  rw [e2] at e3; cases e3
  exact r
theorem Reps.reverse {ds : List D} {vs : List V} (h : Reps ca F ds vs) : Reps ca F ds.reverse vs.reverse := by
  refine Reps.of_get (by simp [h.length]) fun j d' v' e1 e2 => ?_
  have hj : j < ds.length := by
    have := (List.getElem?_eq_some_iff.mp e1).1
    simpa using this
  rw [List.getElem?_reverse (by omega)] at e1
  rw [List.getElem?_reverse (by rw [h.length]; omega), h.length] at e2
  obtain ⟨v2, e3, r⟩ := h.get e1
  rw [e2] at e3; cases e3
  exact r
end
/-! ### owners -/
/-- who owns an address: a slot of the frame, a temporary; its component -/
inductive Lab where
  | s (i c : Nat) | t (k c : Nat)
  deriving DecidableEq
abbrev Own := Addr → Option Lab
/-- a result: shared, an owned root, a fresh tuple -/
inductive R where
  | sh (d : D) | ow (d : D) | tp (cs : List (Bool × D))
def R.d : R → D
  | .sh d => d
  | .ow d => d
  | .tp cs => .tup (cs.map (·.2))
/-- an owned root: the object stands in H, what it holds is frozen -/
def RepO (ca : Cs) (F H : Hp) (O : Own) (l : Lab) : D → V → Prop
  | .lst t xs, v => ∃ a vs, v = .ref a ∧ H a = some (.lst vs) ∧ O a = some l ∧ (t = none ∨ t = some a) ∧ Reps ca F xs vs
  | .dic t kvs, v => ∃ a vs, v = .ref a ∧ H a = some (.dK vs) ∧ O a = some l ∧ (t = none ∨ t = some a) ∧ RepK ca F kvs vs
  | .obj C fs, v => ∃ a dx vs, v = .ref a ∧ H a = some (.ins (ca.ad C) dx vs) ∧ O a = some l ∧ RepF ca F fs vs
  | d, v => Rep ca F d v
def labC (l : Nat → Lab) : Nat → Lab := l
/-- the components of a fresh tuple -/
def RepC (ca : Cs) (F H : Hp) (O : Own) (l : Nat → Lab) : Nat → List (Bool × D) → List V → Prop
  | _, [], vs => vs = []
  | c, (true, d) :: r, vs => ∃ v w, vs = v :: w ∧ RepO ca F H O (l c) d v ∧ RepC ca F H O l (c + 1) r w
  | c, (false, d) :: r, vs => ∃ v w, vs = v :: w ∧ Rep ca F d v ∧ RepC ca F H O l (c + 1) r w
def RepR (ca : Cs) (F H : Hp) (O : Own) (l : Nat → Lab) : R → V → Prop
  | .sh d, v => Rep ca F d v
  | .ow d, v => RepO ca F H O (l 0) d v
  | .tp cs, v => ∃ a vs, v = .ref a ∧ F a = some (.tup vs) ∧ RepC ca F H O l 1 cs vs
section
variable {ca : Cs} {F F' H H' : Hp} {O O' : Own} {l : Nat → Lab}
theorem RepO.mono {l : Lab} {d : D} {v : V} (h : RepO ca F H O l d v) (e : Sub F F') (k : ∀ a o, O a = some l → H a = some o → H' a = some o ∧ O' a = some l) : RepO ca F' H' O' l d v := by
  cases d with
  | lst t xs =>
    obtain ⟨a, vs, h1, h2, h3, h4, h5⟩ := h
    obtain ⟨k1, k2⟩ := k a _ h3 h2
    exact ⟨a, vs, h1, k1, k2, h4, Reps.mono e _ _ h5⟩
  | dic t xs =>
    obtain ⟨a, vs, h1, h2, h3, h4, h5⟩ := h
    obtain ⟨k1, k2⟩ := k a _ h3 h2
    exact ⟨a, vs, h1, k1, k2, h4, RepK.mono e _ _ h5⟩
  | obj C fs =>
    obtain ⟨a, dx, vs, h1, h2, h3, h5⟩ := h
    obtain ⟨k1, k2⟩ := k a _ h3 h2
    exact ⟨a, dx, vs, h1, k1, k2, RepF.mono e _ _ h5⟩
  | _ => exact Rep.mono e _ _ h
theorem RepC.mono {cs : List (Bool × D)} : ∀ {c : Nat} {vs : List V}, RepC ca F H O l c cs vs → Sub F F' → (∀ j a o, O a = some (l j) → H a = some o → H' a = some o ∧ O' a = some (l j)) → RepC ca F' H' O' l c cs vs := by
  induction cs with
  | nil => intro c vs h e k; unfold RepC at h ⊢; exact h
  | cons x r ih =>
    obtain ⟨b, d⟩ := x
    intro c vs h e k
    cases b with
    | true =>
      unfold RepC at h ⊢
      obtain ⟨v, w, h1, h2, h3⟩ := h
      exact ⟨v, w, h1, h2.mono e (k c), ih h3 e k⟩
    | false =>
      unfold RepC at h ⊢
      obtain ⟨v, w, h1, h2, h3⟩ := h
      exact ⟨v, w, h1, Rep.mono e _ _ h2, ih h3 e k⟩
theorem RepR.mono {r : R} {v : V} (h : RepR ca F H O l r v) (e : Sub F F') (k : ∀ j a o, O a = some (l j) → H a = some o → H' a = some o ∧ O' a = some (l j)) : RepR ca F' H' O' l r v := by
  cases r with
  | sh d => exact Rep.mono e _ _ h
  | ow d => exact RepO.mono h e (k 0)
  | tp cs =>
    obtain ⟨a, vs, h1, h2, h3⟩ := h
    exact ⟨a, vs, h1, e _ _ h2, h3.mono e k⟩
end
/-! ### steps -/
/-- not owned by a slot -/
def Prot (O : Own) (a : Addr) : Prop := ∀ i c, O a ≠ some (.s i c)
structure Step (F : Hp) (O : Own) (H F' : Hp) (O' : Own) (H' : Hp) : Prop where
  ext : Sub F F'
  keep : ∀ a o, H a = some o → Prot O a → H' a = some o
  lab : ∀ a o, H a = some o → Prot O a → O' a = O a
  frz : ∀ a o, H a = some o → Prot O a → F a = none → F' a = none
  dom : ∀ a o, H a = some o → ∃ o', H' a = some o'
theorem Step.refl (F : Hp) (O : Own) (H : Hp) : Step F O H F O H := ⟨Sub.refl _, fun _ _ h _ => h, fun _ _ _ _ => rfl, fun _ _ _ _ h => h, fun _ o h => ⟨o, h⟩⟩
theorem Step.trans {F F1 F2 H H1 H2 : Hp} {O O1 O2 : Own} (a : Step F O H F1 O1 H1) (b : Step F1 O1 H1 F2 O2 H2) : Step F O H F2 O2 H2 := by
  have pr : ∀ x o, H x = some o → Prot O x → Prot O1 x := fun x o h p i c e => p i c (by rw [← a.lab x o h p]; exact e)
  exact ⟨a.ext.trans b.ext, fun x o h p => b.keep x o (a.keep x o h p) (pr x o h p), fun x o h p => (b.lab x o (a.keep x o h p) (pr x o h p)).trans (a.lab x o h p),
    fun x o h p n => b.frz x o (a.keep x o h p) (pr x o h p) (a.frz x o h p n), fun x o h => let ⟨o1, e⟩ := a.dom x o h; b.dom x o1 e⟩
theorem Step.fresh {F F1 H H1 : Hp} {O O1 : Own} (a : Step F O H F1 O1 H1) {p : Addr} (h : H1 p = none) : H p = none := by
  cases q : H p with
  | none => rfl
  | some o =>
    obtain ⟨o', e⟩ := a.dom p o q
    rw [h] at e; cases e
abbrev En := List (Option R)
/-- the frame's slots hold these results -/
structure AE (ca : Cs) (F : Hp) (O : Own) (env : En) (σ : L2.St) (H : Hp) : Prop where
  sub : Sub F H
  dis : ∀ a l, O a = some l → F a = none
  own : ∀ a l, O a = some l → ∃ o, H a = some o
  slot : ∀ i r, env[i]? = some (some r) → ∃ v, σ[i]? = some (some v) ∧ RepR ca F H O (.s i) r v
/-- temporaries from k on are free -/
def Below (O : Own) (k : Nat) : Prop := ∀ a j c, O a = some (.t j c) → j < k
end FH
set_option Elab.async false
set_option linter.all false
set_option maxRecDepth 100000
set_option maxHeartbeats 2000000
namespace FH
open PySem PySem.Spec PyProof.Rows L2
/-- what the written part says of the base -/
structure BasI (K : PySem.W.Frag) (B : Addr) : Prop where
  ga : PySem.W.specialIn K (.ref B) "__getattribute__" = some (some (.builtin "type.__getattribute__"))
  rd : PySem.W.readsIn K B (.type "type") = true
  at_ : PySem.W.findCls K (.ref B) (.type "type") "__init__" = some (.val (.builtin "ValueError.__init__"))
section
variable {X : Cx} {e : Expr} {es : List Expr} {ta : TA} {p1 p2 pos : Pos} {x : Str} {B : Addr}
theorem pe_basI {pl : Sem Bool} (hg : Gl X x) (hm : X.mg x = some (.ref B)) (b : BasI X.K B) (ha : PA X (e :: es) ta) (hdb : (x == ("__debug__" : Str)) = false)
    (hc : eval (.Call (.Attribute (.Name x p1) "__init__" p2) (e :: es) [] pos) X.env = (do
      let ov ← eval (.Name x p1) X.env
      standAt p2.atName
      let (f, first) ← holding [ov] (getMethod ov "__init__" pl)
      callWith pos f first (backTo pos (starEach (e :: es) X.env)) (backToKw pos (keywordEach [] X.env))))
    (he : starEach (e :: es) X.env = (false, eval e X.env) :: starEach es X.env := by rfl) (hpl : (backTo pos (starEach es X.env)).any (·.1) = false := by rfl) :
    PE X (.Call (.Attribute (.Name x p1) "__init__" p2) (e :: es) [] pos) (tVeI X.K ta) := by
  refine ⟨fun pins s σ H Q I h => ?_⟩
  refine PySem.W.methodCall_KW (ld_glob I hg hm ?_ hdb) hc
  refine PySem.W.method_cls I.kIn b.ga (PySem.W.cls_value I.kIn b.rd b.at_ (by rfl) ?_)
  show wpAny _ _ (callWith pos (Value.builtin "ValueError.__init__") [] (backTo pos (starEach (e :: es) X.env)) []) _ _ _
  refine PyProof.Rows.callWith_method1 (thn (ha.run pos pins _ σ H _ (I.tok _) h) fun us s1 ⟨vs, H1, I1, r1, a, C, ws, ev, hl, T, ea, q⟩ => ?_) he hpl
  subst ev
  cases r1 with
  | @cons _ u0 _ ur ra rw' =>
    obtain rfl : u0 = Value.ref a := ra
    have hlen : ur.length ≤ sizeLine := by
      rw [← Paired.length rw', sizeLine_eq]
      omega
    exact oinit_ok T I1 ea hlen fun s' J => ⟨.non, H1, J, rfl, q⟩
end
end FH
set_option Elab.async false
set_option linter.all false
set_option maxRecDepth 100000
set_option maxHeartbeats 2000000
namespace FH
open PySem PySem.Spec PyProof.Rows L2 PySem.HandSPX
/-- an own exception class over own classes over ValueError: what is asked of the written part -/
def oexShape (C : Addr) (ms : List Value) (sl : List (Option Value)) (hd dl : Bool) : Bool := match ms with
  | .ref A :: bm => (match sl with
    | [_, _, _, _, some (.builtin n), _] => decide (A = C) && (n == "ValueError.__new__") && hd && !dl && refsVE bm
    | _ => false)
  | _ => false
def oexcB (K : PySem.W.Frag) (C : Addr) : Bool := (match K.lookup C with
  | some o => (match o.cls, o.data with
    | .type t, .cls cd => (t == "type") && oexShape C cd.mro o.slots.toList cd.hasDict cd.hasDel
    | _, _ => false)
  | none => false) && decide (PySem.W.findIn K (.ref C) "__setattr__" = some (some (.builtin "object.__setattr__"))) && decide (PySem.W.subIn K (.ref C) (.type "BaseException") = some true) &&
  decide (PySem.W.typeIn K (.ref C) = some (.type "type")) && PySem.W.keepIn K (.ref C)
theorem oexShape_ok {C : Addr} {ms : List Value} {sl : List (Option Value)} {hd dl : Bool} (h : oexShape C ms sl hd dl = true) : ∃ bm k0 k1 k2 k3 k5, ms = .ref C :: bm ∧ sl = [k0, k1, k2, k3, some (.builtin "ValueError.__new__"), k5] ∧ hd = true ∧ dl = false ∧ refsVE bm = true := by
  unfold oexShape at h
  split at h
  · split at h
    · simp only [Bool.and_eq_true, beq_iff_eq, decide_eq_true_eq, Bool.not_eq_true'] at h
      obtain ⟨⟨⟨⟨rfl, rfl⟩, h3⟩, h4⟩, h5⟩ := h
      exact ⟨_, _, _, _, _, _, rfl, rfl, h3, h4, h5⟩
    · cases h
  · cases h
theorem oexcB_ok {K : PySem.W.Frag} {C : Addr} (h : oexcB K C = true) : OexC K C := by
  unfold oexcB at h
  simp only [Bool.and_eq_true, decide_eq_true_eq] at h
  obtain ⟨⟨⟨⟨h1, h2⟩, h3⟩, h4⟩, h5⟩ := h
  refine ⟨?_, h2, h3, h4, h5⟩
  cases e : K.lookup C with
  | none => rw [e] at h1; cases h1
  | some o =>
    rw [e] at h1
    obtain ⟨c, d, dt, sl⟩ := o
    cases c <;> first
      | (cases h1; done)
      | skip
    cases dt <;> first
      | (cases h1; done)
      | skip
    rename_i t cd
    obtain ⟨g1, g2⟩ := Bool.and_eq_true_iff.mp h1
    have ht : t = "type" := by simpa using g1
    subst ht
    obtain ⟨bm, k0, k1, k2, k3, k5, q1, q2, q3, q4, q5⟩ := oexShape_ok g2
    obtain ⟨nm, bs, mro, ns, qn, hd, sn, sub, ab, col, del⟩ := cd
    obtain ⟨sl⟩ := sl
    dsimp only at q1 q2 q3 q4
    subst q1 q2 q3 q4
    exact ⟨nm, qn, ns, bs, bm, sn, sub, ab, col, d, k0, k1, k2, k3, k5, rfl, q5⟩
def basB (K : PySem.W.Frag) (B : Addr) : Bool := decide (PySem.W.specialIn K (.ref B) "__getattribute__" = some (some (.builtin "type.__getattribute__"))) && PySem.W.readsIn K B (.type "type")
def basF (K : PySem.W.Frag) (B : Addr) : Bool := match PySem.W.findCls K (.ref B) (.type "type") "__init__" with
  | some (.val (.builtin n)) => n == "ValueError.__init__"
  | _ => false
theorem bas_ok {K : PySem.W.Frag} {B : Addr} (h : basB K B = true) (k : basF K B = true) : BasI K B := by
  unfold basB at h
  simp only [Bool.and_eq_true, decide_eq_true_eq] at h
  refine ⟨h.1, h.2, ?_⟩
  unfold basF at k
  split at k
  · rename_i n e
    rw [e, show n = "ValueError.__init__" by simpa using k]
  · cases k
/-- an instance's type is its class -/
structure OwnI (K : PySem.W.Frag) (C : Addr) : Prop where
  ha : PySem.W.findIn K (.ref C) "__class__" = some (some (.builtin "object.__class__"))
  hn : PySem.W.specialIn K (.builtin "object.__class__") "__get__" = some (some (.builtin "getset_descriptor.__get__"))
  tk : PySem.W.takesIn K (.builtin "object.__class__") = some true
  hm : PySem.W.mroIn K C (.type "object") = some true
def ownB (K : PySem.W.Frag) (C : Addr) : Bool := decide (PySem.W.findIn K (.ref C) "__class__" = some (some (.builtin "object.__class__"))) && (decide (PySem.W.specialIn K (.builtin "object.__class__") "__get__" = some (some (.builtin "getset_descriptor.__get__"))) &&
  (decide (PySem.W.takesIn K (.builtin "object.__class__") = some true) && decide (PySem.W.mroIn K C (.type "object") = some true)))
theorem ownB_ok {K : PySem.W.Frag} {C : Addr} (h : ownB K C = true) : OwnI K C := by
  unfold ownB at h
  simp only [Bool.and_eq_true, decide_eq_true_eq] at h
  exact ⟨h.1, h.2.1, h.2.2.1, h.2.2.2⟩
def tyNames : List String := ["NoneType", "bool", "int", "str", "list", "tuple", "dict"]
def ownKit (K : PySem.W.Frag) (C : Addr) : Bool := tyNames.all fun t => decide (PySem.W.kitOne K (.type t) (.ref C) = some false)
theorem ownKit_ok {K : PySem.W.Frag} {C : Addr} (h : ownKit K C = true) {t : String} (m : t ∈ tyNames) : PySem.W.kitOne K (.type t) (.ref C) = some false := of_decide_eq_true (List.all_eq_true.mp h t m)
/-- facts that a head may tell besides the kit's -/
inductive XF where
  | oexc (x : Str)
  | basi (x : Str)
  | inst (x : Str)
  | kit (x y : Str) (b : Bool)
def XF.ok (K : PySem.W.Frag) : XF → Bool
  | .oexc x => oexcB K (He.ga K x)
  | .basi x => basB K (He.ga K x) && basF K (He.ga K x)
  | .inst x => ownB K (He.ga K x) && ownKit K (He.ga K x)
  | .kit x y b => decide (PySem.W.kitOne K (.ref (He.ga K x)) (.ref (He.ga K y)) = some b)
def obsE (fa : List He.Fa) (fn : List He.DefD) (xs : List XF) (K : PySem.W.Frag) : He.AlD := ((fa.all fun f => f.ok K) && ((fn.all fun d => d.ok K) && xs.all fun x => x.ok K), fn.map fun d => He.fnW K d.at_)
def SaysE (fa : List He.Fa) (fn : List He.DefD) (xs : List XF) (K : PySem.W.Frag) : Prop := obsE fa fn xs K = He.valD fn
theorem SaysE.d {fa : List He.Fa} {fn : List He.DefD} {xs : List XF} {K : PySem.W.Frag} (h : SaysE fa fn xs K) : He.SaysD fa fn K := by
  have h1 : ((fa.all fun f => f.ok K) && ((fn.all fun d => d.ok K) && xs.all fun x => x.ok K)) = true := congrArg (fun z : He.AlD => z.1) h
  have h2 : (fn.map fun d => He.fnW K d.at_) = fn.map He.DefD.val := congrArg (fun z : He.AlD => z.2) h
  simp only [Bool.and_eq_true] at h1
  show ((fa.all fun f => f.ok K) && fn.all fun d => d.ok K, fn.map fun d => He.fnW K d.at_) = (true, fn.map He.DefD.val)
  rw [h1.1, h1.2.1, h2] <;> rfl
theorem SaysE.x {fa : List He.Fa} {fn : List He.DefD} {xs : List XF} {K : PySem.W.Frag} (h : SaysE fa fn xs K) : ∀ x, x ∈ xs → x.ok K = true := by
  have h1 : ((fa.all fun f => f.ok K) && ((fn.all fun d => d.ok K) && xs.all fun x => x.ok K)) = true := congrArg (fun z : He.AlD => z.1) h
  simp only [Bool.and_eq_true] at h1
  exact fun x hx => List.all_eq_true.mp h1.2.2 x hx
def obsEG (n : Nat) (fa : List He.Fa) (fn : List He.DefD) (xs : List XF) (g : Addr → Option Obj) : He.AlD := obsE fa fn xs (He.frG g (He.asD g n))
def hookE (n : Nat) (fa : List He.Fa) (fn : List He.DefD) (xs : List XF) : PySem.W.Hook where
  α := He.AlD
  obs := fun s => obsEG n fa fn xs s.heap.get?
  val := fun _ => He.valD fn
  says := fun _ h => ∃ L : PySem.W.Frag, L.In h ∧ SaysE fa fn xs L
  of := fun _ _ e => Exists.intro _ (And.intro He.frG_in e)
  keeps := fun _ _ _ z k => Exists.imp (fun _ q => And.intro (PySem.W.Frag.In.keeps q.1 k) q.2) z
theorem obsEG_eq {n : Nat} {fa : List He.Fa} {fn : List He.DefD} {xs : List XF} {g : Addr → Option Obj} {s : Shared} (h : ∀ a, g a = s.heap.get? a) : obsEG n fa fn xs g = (hookE n fa fn xs).obs s :=
  congrArg (obsEG n fa fn xs) (funext h)
end FH
set_option Elab.async false
set_option linter.all false
set_option maxRecDepth 100000
set_option maxHeartbeats 3200000
namespace FH
open PySem PySem.Spec PyProof.Rows L2
/-- the text that a row of the table holds -/
def txtE (e : Int × Value) : Str := match e.2 with | .str x _ => x | _ => Str.empty
def RowT (w : World) (e : Int × Value) : Prop := ∃ x u, e.2 = Value.str x u ∧ e.1 = hashStr w x
/-- a set of texts at a: its members are those of M, it has at most m -/
structure SetX (w : World) (h : Heap) (a : Addr) (M : Str → Prop) (m : Nat) : Prop where
  ob : ∃ o es ep t, h.get? a = some o ∧ o.ExactSet ∧ o.data = .set es ep t ∧ (∀ e ∈ es.toList, RowT w e) ∧ (es.toList.map txtE).Nodup ∧ (∀ x, M x ↔ x ∈ es.toList.map txtE) ∧ es.size ≤ m ∧ t.fits es.size = true ∧ Ris t.place.toList ∧
    (w.params.followText "set-order" = true ∨ t.led = true)
  few : m < 4000
section
variable {P : Program} {w : World} {A : Around} {E : Value → Shared → Prop} {s : Shared} {a : Addr} {M : Str → Prop} {m : Nat}
theorem SetX.at_ {h h' : Heap} (R : SetX w h a M m) (k : ∀ o, h.get? a = some o → h'.get? a = some o) : SetX w h' a M m := by
  obtain ⟨⟨o, es, ep, t, g, r⟩, f⟩ := R
  exact ⟨⟨o, es, ep, t, k o g, r⟩, f⟩
theorem rowT_el {l : List (Int × Value)} (g : ∀ e ∈ l, RowT w e) : ElemsOf (PySem.strKind P w) l := fun e he => by
  obtain ⟨x, u, e1, e2⟩ := g e he
  exact ⟨⟨x, by rw [e1]; exact strKind_is _ _ _ _, e2⟩, by rw [e1] <;> rfl⟩
theorem rowT_is {e : Int × Value} (g : RowT w e) (x : Str) : (PySem.strKind P w).is x e.2 = true ↔ txtE e = x := by
  obtain ⟨y, u, e1, _⟩ := g
  unfold txtE
  rw [e1]
  constructor
  · intro q
    exact (PySem.strKind P w).inj _ _ _ (strKind_is P w y u) q
  · intro q
    subst q
    exact strKind_is P w y u
theorem rowT_mem {l : List (Int × Value)} (g : ∀ e ∈ l, RowT w e) (x : Str) : x ∈ l.map txtE ↔ ∃ e ∈ l, (PySem.strKind P w).is x e.2 = true := by
  rw [List.mem_map]
  exact ⟨fun ⟨e, he, q⟩ => ⟨e, he, (rowT_is (g e he) x).2 q⟩, fun ⟨e, he, q⟩ => ⟨e, he, (rowT_is (g e he) x).1 q⟩⟩
/-- what is done behind a new row -/
theorem setX_tail {gv : Bool → Sem Unit} (hgv : ∀ (b : Bool) (z : Shared) (Q' : Unit → Shared → Prop), Q' () z → wpAny (model P w) A (gv b) Q' E z) {o : Obj} {es : Array (Int × Value)} {ep : Nat} {t : SetTable}
    (ho : s.heap.get? a = some o) (hx : o.ExactSet) (hd : o.data = .set es ep t) {es1 : Array (Int × Value)} {t2 : SetTable} (q1 : ∀ e ∈ es1.toList, RowT w e) (q2 : (es1.toList.map txtE).Nodup) (q3 : ∀ x, M x ↔ x ∈ es1.toList.map txtE)
    (q4 : es1.size ≤ m) (few : m < 4000) (q5 : t2.fits es1.size = true) (q6 : Ris t2.place.toList) (q7 : w.params.followText "set-order" = true ∨ t2.led = true) {wd : Bool} {R : Option Bool → Shared → Prop}
    (fin : ∀ h', Heap.SameBut a s.heap h' → SetX w h' a M m → R (some true) { s with heap := h' }) :
    wpAny (model P w) A (do
        storeSet a es1 t2
        if (!wd && t2.tooFull) = true then do
            gv (relayAll t2 es1 (SetTable.grown es1.size)).2.2
            storeSet a (relayAll t2 es1 (SetTable.grown es1.size)).1 (relayAll t2 es1 (SetTable.grown es1.size)).2.1
            pure (some true)
          else pure (some true)) R E s := by
  have few1 : es1.size < scanBound := Nat.lt_of_le_of_lt q4 (Nat.lt_trans few (by unfold scanBound; decide))
  refine wpAny_bind (wpAny_storeSet_of ho hd ?_ (fits_of_scanBound few1))
  have o1 := store_at (es' := es1) (t' := t2) ho hd
  have b1 := Heap.SameBut.update s.heap a (Obj.putSet es1 t2)
  split
  case isFalse => exact wpAny_pure (fin _ b1 ⟨⟨_, es1, _, t2, o1, hx, rfl, q1, q2, q3, q4, q5, q6, q7⟩, few⟩)
  have w1 := relayAll_perm t2 es1 (SetTable.grown es1.size)
  have w2 := relayAll_fits t2 es1 (SetTable.grown es1.size)
  have w3 := relayAll_ris t2 es1 (SetTable.grown es1.size)
  have w4 := relayAll_led t2 es1 (SetTable.grown es1.size)
  generalize relayAll t2 es1 (SetTable.grown es1.size) = Z at w1 w2 w3 w4 ⊢
  obtain ⟨es2, t3, gave⟩ := Z
  dsimp only at w1 w2 w3 w4 ⊢
  have sz : es2.size = es1.size := by rw [← Array.length_toList, w1.length_eq, Array.length_toList]
  have few2 : es2.size < scanBound := by rw [sz]; exact few1
  refine wpAny_bind (hgv _ _ _ (wpAny_bind (wpAny_storeSet_of o1 rfl ?_ (fits_of_scanBound few2))))
  have o2 := store_at (es' := es2) (t' := t3) o1 rfl
  exact wpAny_pure (fin _ (b1.trans (Heap.SameBut.update _ a _)) ⟨⟨_, es2, _, t3, o2, hx, rfl, fun e he => q1 e (w1.mem_iff.mp he), (w1.map txtE).nodup_iff.mpr q2, fun x => (q3 x).trans (w1.map txtE).mem_iff.symm, by rw [sz]; exact q4, w2, w3,
    q7.imp id fun z => by rw [w4]; exact z⟩, few⟩)
/-- one more member -/
theorem setX_add {x : Str} {u : Tok} {Q : Bool → Shared → Prop} (R : SetX w s.heap a M m) (few : m + 1 < 4000) (fin : ∀ b h', Heap.SameBut a s.heap h' → SetX w h' a (fun y => M y ∨ y = x) (m + 1) → Q b { s with heap := h' }) :
    wpAny (model P w) A (setAddHashed a (.str x u) ((PySem.strKind P w).hash x)) Q E s := by
  obtain ⟨⟨o, es, ep, t, ho, hx, hd, q1, q2, q3, q4, q5, q6, q7⟩, _⟩ := R
  have isx : (PySem.strKind P w).is x (.str x u) = true := strKind_is _ _ _ _
  have scn : (Value.str x u).scannable = true := rfl
  have el : ElemsOf (PySem.strKind P w) es.toList := rowT_el q1
  have fb : es.size < scanBound := Nat.lt_of_le_of_lt q4 (Nat.lt_trans (Nat.lt_of_succ_lt few) (by unfold scanBound; decide))
  unfold setAddHashed setAddHashedIn
  refine wpAny_holding (wpAny_bind (wpAny_setState_of ho hd q5 ?_))
  dsimp only
  rw [byScan_of scn fb el]
  simp only [↓reduceIte]
  unfold setAddByScan
  refine wpAny_bind (wpAny_bind (wpAny_rule (wpAny_bind (wpAny_setScan_of isx ho hd q5 el ?_))))
  cases fi : List.findIdx? (fun e => (PySem.strKind P w).is x e.2) es.toList with
  | some j =>
    dsimp only
    obtain ⟨lt, pj, _⟩ := List.findIdx?_eq_some_iff_getElem.mp fi
    have mx : M x := (q3 x).2 ((rowT_mem (P := P) q1 x).2 ⟨es.toList[j], List.getElem_mem lt, pj⟩)
    refine wpAny_pure (wpAny_pure ?_)
    exact fin _ s.heap (Heap.SameBut.refl a s.heap) ⟨⟨o, es, ep, t, ho, hx, hd, q1, q2, fun y => ⟨fun z => z.elim (q3 y).1 fun e => (q3 y).1 (by rw [e]; exact mx), fun z => .inl ((q3 y).2 z)⟩, by omega, q5, q6, q7⟩, few⟩
  | none =>
    dsimp only
    have nx : x ∉ es.toList.map txtE := fun z => by
      obtain ⟨e, he, q⟩ := (rowT_mem (P := P) q1 x).1 z
      have c := List.findIdx?_eq_none_iff.mp fi e he
      rw [q] at c
      cases c
    have gvw : ∀ (b : Bool) {z : Shared} {Q' : Unit → Shared → Prop}, Q' () z → wpAny (model P w) A (match b with | true => rule "set.scan.the-table-gave-way" | false => pure ()) Q' E z := fun b z Q' q => by
      cases b
      · exact wpAny_pure q
      · exact wpAny_rule q
    have p1 := layNew_perm t es ((PySem.strKind P w).hash x) (.str x u)
    have p2 := layNew_fits t es ((PySem.strKind P w).hash x) (.str x u)
    have p3 := layNew_ris t es ((PySem.strKind P w).hash x) (.str x u) q6
    have p4 := layNew_led t es ((PySem.strKind P w).hash x) (.str x u)
    generalize layNew t es ((PySem.strKind P w).hash x) (.str x u) = Z at p1 p2 p3 p4 ⊢
    obtain ⟨es1, t1, wd, gave⟩ := Z
    dsimp only at p1 p2 p3 p4 ⊢
    rw [Array.toList_push] at p1
    have pc : es1.toList.Perm (((PySem.strKind P w).hash x, Value.str x u) :: es.toList) := p1.trans (List.perm_append_singleton _ _)
    have pk : (es1.toList.map txtE).Perm (x :: es.toList.map txtE) := pc.map txtE
    have r1 : ∀ e ∈ es1.toList, RowT w e := fun e he => (List.mem_cons.mp (pc.mem_iff.mp he)).elim (fun z => by rw [z]; exact ⟨x, u, rfl, rfl⟩) (q1 e)
    have r2 : (es1.toList.map txtE).Nodup := pk.nodup_iff.mpr (List.nodup_cons.mpr ⟨nx, q2⟩)
    have r3 : ∀ y, (M y ∨ y = x) ↔ y ∈ es1.toList.map txtE := fun y => by
      rw [q3 y, pk.mem_iff, List.mem_cons]
      exact Or.comm
    have sz : es1.size ≤ m + 1 := by
      rw [← Array.length_toList, pc.length_eq, List.length_cons, Array.length_toList]
      omega
    have led1 : w.params.followText "set-order" = true ∨ t1.led = true := q7.imp id fun z => by rw [p4]; exact z
    refine wpAny_bind (gvw _ ?_)
    split
    · refine wpAny_bind ?_
      rw [hashByValue_scannable 8 scn]
      refine wpAny_pure (setX_tail (M := fun y => M y ∨ y = x) (m := m + 1) ?_ ho hx hd r1 r2 r3 sz few ?_ ?_ ?_ ?_)
      · intro b z Q' q
        cases b
        · exact wpAny_pure q
        · exact wpAny_rule q
      · first
          | (split <;> first
              | exact p2
              | exact SetTable.fits_plain_off p2)
          | exact p2
      · first
          | (split <;> exact p3)
          | exact p3
      · first
          | (split <;> exact led1)
          | exact led1
      · intro h' sb r
        dsimp only
        exact wpAny_pure (fin _ h' sb r)
    · refine wpAny_bind (wpAny_pure ?_)
      simp only [↓reduceIte]
      refine setX_tail (M := fun y => M y ∨ y = x) (m := m + 1) ?_ ho hx hd r1 r2 r3 sz few p2 p3 led1 ?_
      · intro b z Q' q
        cases b
        · exact wpAny_pure q
        · exact wpAny_rule q
      · intro h' sb r
        dsimp only
        exact wpAny_pure (fin _ h' sb r)
end
/-! ### from a row of texts -/
section
variable {P : Program} {w : World} {A : Around} {R : Result → Shared → Prop} {I : Addr} {fp wr : List Addr} {G : Array GenState → Array GenState → Prop} {n : Nat} {Pv : Nat → Value → Prop} {St : Nat → Shared → Prop}
theorem setX_loop (W : WalksS P w A.in1 I fp wr G n Pv St) (S : Addr) (off : S ∉ fp) (xs : List Str) (len : xs.length = n) (few : n < 3900) (val : ∀ i v, Pv i v → ∃ u, v = .str (xs.getD i Str.empty) u) :
    ∀ (k i : Nat) (s : Shared), n - i = k → i ≤ n → St i s → SetX w s.heap S (fun y => y ∈ xs.take i) i →
      (∀ s', Moved (S :: wr) G s s' → SetX w s'.heap S (fun y => y ∈ xs) n → R (.ok (.ret .none)) s') → codeAny (model P w) A (.builtin "set.update.loop" ⟨[.ref S, .ref I], []⟩) R s := by
  have offw : S ∉ wr := fun h => off (W.sub _ h)
  have subw : ∀ b ∈ wr, b ∈ S :: wr := fun b hb => List.mem_cons_of_mem _ hb
  intro k
  induction k with
  | zero =>
    intro i s hk hi st hS fin
    obtain rfl : i = n := by omega
    refine codeAny_builtin PyProof.Rows.F.entry_set_update_loop ?_
    rw [Around.under_plainId PyProof.Rows.F.plain_set_update_loop _]
    show wpAny _ A.in1 (pyNext (.ref I) >>= _) _ _ s
    refine wpAny_bind (W.done s _ _ st fun s' mv => ?_)
    show wpAny _ A.in1 (ret Value.none) _ _ s'
    have hS' := hS.at_ fun o e => mv.heap S o offw e
    rw [← len, List.take_length] at hS'
    exact wpAny_pure (fin s' (mv.mono subw) (by rw [← len]; exact hS'))
  | succ k ih =>
    intro i s hk hi st hS fin
    have lt : i < n := by omega
    refine codeAny_builtin PyProof.Rows.F.entry_set_update_loop ?_
    rw [Around.under_plainId PyProof.Rows.F.plain_set_update_loop _]
    show wpAny _ A.in1 (pyNext (.ref I) >>= _) _ _ s
    refine wpAny_bind (W.item i s _ _ lt st fun v s' hP st' mv => ?_)
    obtain ⟨u, rfl⟩ := val i v hP
    have hS' := hS.at_ fun o e => mv.heap S o offw e
    show wpAny _ A.in1 (holding [Value.str (xs.getD i Str.empty) u] (setAdd S (.str (xs.getD i Str.empty) u)) >>= _) _ _ s'
    refine wpAny_bind (wpAny_holding ?_)
    unfold setAdd
    refine wpAny_holding (wpAny_bind ((PySem.strKind P w).pyHash (k := xs.getD i Str.empty) (strKind_is _ _ _ _) ?_))
    refine setX_add (P := P) (s := { s' with toks := s'.toks + 1 }) hS' (by omega) fun b h' sb hS2 => ?_
    have hS3 : SetX w h' S (fun y => y ∈ xs.take (i + 1)) (i + 1) := by
      refine ⟨?_, hS2.few⟩
      obtain ⟨o, es, ep, t, e1, e2, e3, e4, e5, e6, r⟩ := hS2.ob
      refine ⟨o, es, ep, t, e1, e2, e3, e4, e5, fun y => ?_, r⟩
      rw [← e6 y, List.take_add_one, List.mem_append]
      have lx : i < xs.length := by omega
      rw [List.getElem?_eq_getElem lx, List.getD_eq_getElem?_getD, List.getElem?_eq_getElem lx]
      simp
    refine wpAny_pure ⟨plainId_quiet PyProof.Rows.F.plain_set_update_loop _, ih (i + 1) _ (by omega) lt (W.frame _ s' _ _ st' (Nat.le_succ _) fun b hb o e => ?_) hS3 fun s'' mv2 hS'' => ?_⟩
    · rw [sb.2 b (fun z : b = S => off (by rw [← z]; exact hb))]
      exact e
    · refine fin s'' (Moved.trans W.gtrans ((mv.mono subw).then_heap (Nat.le_succ _) fun b o hb e => ?_) mv2) hS''
      rw [sb.2 b (fun z : b = S => hb (by rw [z]; exact List.mem_cons_self))]
      exact e
end
end FH
set_option Elab.async false
set_option linter.all false
set_option maxRecDepth 100000
set_option maxHeartbeats 6400000
namespace FH
open PySem PySem.Spec PyProof.Rows L2
section
variable {P : Program} {w : World} {A : Around} {E : Value → Shared → Prop} {s : Shared}
abbrev newX (w : World) : Obj := { cls := .type "set", dict := none, data := .set #[] 0 (.fresh 0 0 (!w.params.followText "set-order")) }
theorem setX_new1 (a : Value) {Q1 : Value → Shared → Prop} (h : Q1 (.ref s.heap.objs.size) { s with heap := s.heap.push (newX w) }) : codeAny (model P w) A (.call (.builtin "set.__new__") ⟨[.type "set", a], []⟩) (wants Q1 E) s := by
  refine codeAny_of_tree ?_
  show wpAny _ A.in1 (do checkBuiltinCall "set.__new__" ⟨[.type "set", a], []⟩; again (.builtin "set.__new__" ⟨[.type "set", a], []⟩)) _ _ s
  refine wpAny_bind (wpAny_of_eq (PySem.F.newCall_set_1 a) (wpAny_pure ⟨plainId_quiet PySem.F.plain_set_new _, codeAny_builtin PySem.F.entry_set_new ?_⟩))
  rw [Around.under_plainId PySem.F.plain_set_new _]
  unfold Builtin.«set.__new__» Builtin.Frozenset.newClass
  have sub1 := sub_set_self
  obtain ⟨hp, g, d, tk, os⟩ := s
  dsimp only
  wp_walk
  refine wpAny_askSetting (wpAny_pure ?_)
  dsimp only
  simp only [newObj]
  exact wpAny_bind (wpAny_alloc (wpAny_pure (wpAny_pure h)))
theorem setX_fresh {h : Heap} : SetX w (h.push (newX w)) h.objs.size (fun _ => False) 0 := by
  refine ⟨⟨_, #[], 0, _, Heap.get?_push_size _ rfl, ⟨rfl, rfl, rfl⟩, rfl, (fun e he => by simp at he), (by simp), (fun k => by simp), (by decide), (by rfl), List.Pairwise.nil, ?_⟩, by decide⟩
  show _ ∨ (!w.params.followText "set-order") = true
  cases w.params.followText "set-order" <;> simp
theorem setX_call (arg : Value) {M : Str → Prop} {m : Nat} {Q : Value → Shared → Prop}
    (body : ∀ (B : Around) (Pf : PySem.Fin → Shared → Prop), B.handled = A.handled → (∀ h' tk, SetX w h' s.heap.objs.size M m → (∀ b o, b < s.heap.objs.size → s.heap.get? b = some o → h'.get? b = some o) → Pf (.done (.ret .none)) { s with heap := h', toks := tk }) →
      wpAny (model P w) B (Builtin.«set.__init__» ⟨[.ref s.heap.objs.size, arg], []⟩) Pf E { s with heap := s.heap.push (newX w) })
    (fin : ∀ h' tk, SetX w h' s.heap.objs.size M m → (∀ b o, b < s.heap.objs.size → s.heap.get? b = some o → h'.get? b = some o) → Q (.ref s.heap.objs.size) { s with heap := h', toks := tk }) :
    wpAny (model P w) A (call (.type "set") [arg]) Q E s := by
  obtain ⟨c, tl, k0⟩ := PySem.F.called_set.mro
  have k1 := PySem.F.called_set.made
  have k2 := PySem.F.called_set.sub
  refine wpAny_call (codeAny_of_tree ?_)
  show wpAny _ _ (callAny (.type "set") _) _ _ _
  refine wpAny_pure ⟨Code.quiet_builtin _ (by decide +kernel), codeAny_builtin PySem.F.entry_type_call ?_⟩
  rw [Around.under_plain (weight_type_call_type "set" [arg] []) rfl]
  have k3 := PySem.F.called_set.notType
  have k4 := PySem.F.called_set.canCreate
  have k5 := PySem.F.typeCall_set_1 arg
  repeat (any_goals (first | assumption | wp_step))
  refine codeAny_mono (setX_new1 arg (E := E) (Q1 := fun v z => v = .ref s.heap.objs.size ∧ z = { s with heap := s.heap.push (newX w) }) ⟨rfl, rfl⟩) fun r z hr => ?_
  match r, hr with
  | .error e, hr => exact hr
  | .ok .next, hr => exact hr.elim
  | .ok .brk, hr => exact hr.elim
  | .ok .cont, hr => exact hr.elim
  | .ok (.ret v), hr =>
    obtain ⟨rfl, rfl⟩ := hr
    have g1 : (s.heap.push (newX w)).get? s.heap.objs.size = some (newX w) := Heap.get?_push_size _ rfl
    have g2 : Shared.TypeIs { s with heap := s.heap.push (newX w) } (.ref s.heap.objs.size) "set" := ⟨_, g1, rfl⟩
    have g3 := PySem.F.called_set.init.lookup
    have g4 := PySem.F.called_set.init.bind (.ref s.heap.objs.size)
    repeat (any_goals (first | assumption | wp_step))
    refine codeAny_mono (codeAny_call_builtin (R := wants (fun v z => v = .none ∧ ∃ h' tk, z = { s with heap := h', toks := tk } ∧ SetX w h' s.heap.objs.size M m ∧ (∀ b o, b < s.heap.objs.size → s.heap.get? b = some o → h'.get? b = some o)) E) PySem.F.called_set.init.plain PySem.F.entry_set_init (check_set_init_1 g2 ?_)) fun r2 z2 hr2 => ?_
    · refine body _ _ ?_ fun h' tk hS hk => ⟨rfl, h', tk, rfl, hS, hk⟩
      simp
    · match r2, hr2 with
      | .error e, hr2 => exact hr2
      | .ok .next, hr2 => exact hr2.elim
      | .ok .brk, hr2 => exact hr2.elim
      | .ok .cont, hr2 => exact hr2.elim
      | .ok (.ret v), hr2 =>
        obtain ⟨rfl, h', tk, rfl, hS, hk⟩ := hr2
        repeat (any_goals (first | assumption | wp_step))
        exact fin _ _ hS hk
end
end FH
set_option Elab.async false
set_option linter.all false
set_option maxRecDepth 100000
set_option maxHeartbeats 6400000
namespace FH
open PySem PySem.Spec PyProof.Rows L2
section
variable {P : Program} {w : World} {A : Around} {E : Value → Shared → Prop} {s : Shared}
theorem setX_zero {h : Heap} {xs : List Str} (o : Obj) : SetX w ((h.push (newX w)).push o) h.objs.size (fun y => y ∈ xs.take 0) 0 := by
  have z := (setX_fresh (w := w) (h := h)).at_ (h' := (h.push (newX w)).push o) fun _ e => Heap.get?_push_of_some _ e
  refine ⟨?_, z.few⟩
  obtain ⟨o', es, ep, t, e1, e2, e3, e4, e5, e6, r⟩ := z.ob
  exact ⟨o', es, ep, t, e1, e2, e3, e4, e5, fun y => by rw [← e6 y]; simp, r⟩
/-- set(xs), xs a list of texts -/
theorem setX_list {l : Addr} {items : Array Value} {xs : List Str} {Q : Value → Shared → Prop} (hh : A.handled = none) (hl : s.heap.IsList l items) (hi : StrsAre items.toList xs) (few : xs.length < 3900)
    (fin : ∀ h' tk, SetX w h' s.heap.objs.size (fun y => y ∈ xs) xs.length → (∀ b o, b < s.heap.objs.size → s.heap.get? b = some o → h'.get? b = some o) → Q (.ref s.heap.objs.size) { s with heap := h', toks := tk }) :
    wpAny (model P w) A (call (.type "set") [.ref l]) Q E s := by
  refine setX_call (.ref l) (M := fun y => y ∈ xs) (m := xs.length) (fun B Pf hB done => ?_) fin
  obtain ⟨⟨oc, od, dt, osl⟩, g0, g1, n1, g2⟩ := id hl
  simp only at g1 g2
  subst g1
  subst g2
  have g3 : (s.heap.push (newX w)).get? l = some { cls := .type "list", dict := od, data := .seq items n1, slots := osl } := Heap.get?_push_of_some _ g0
  have u1 := PySem.F.sub_list_set
  have u2 := PySem.F.sub_list_frozenset
  have u3 : (Value.type "list" == Value.type "dict") = false := by decide
  have g4 : (s.heap.push (newX w)).IsList l items := ⟨_, g3, rfl, n1, rfl⟩
  unfold Builtin.«set.__init__» noKeywords Builtin.Frozenset.updateFrom
  generalize hPI : pyIter = PI
  wp_walk
  subst hPI
  refine wpAny_pyIter_list g4 (wpAny_bind (wpAny_runValue ?_))
  have lS : l < s.heap.objs.size := Heap.lt_size g0
  have nI : l ≠ (s.heap.push (newX w)).objs.size := by
    rw [Heap.size_push]
    exact Nat.ne_of_lt (Nat.lt_succ_of_lt lS)
  have off : s.heap.objs.size ∉ [(s.heap.push (newX w)).objs.size, l] := by
    rw [Heap.size_push]
    simp only [List.mem_cons, List.mem_singleton, List.not_mem_nil, or_false, not_or]
    exact ⟨Nat.ne_of_lt (Nat.lt_succ_self _), Nat.ne_of_gt lS⟩
  have sz : xs.length = items.size := by rw [← StrsAre.len_eq hi, Array.length_toList]
  have val : ∀ (i : Nat) (v : Value), items[i]? = some v → ∃ u, v = .str (xs.getD i Str.empty) u := fun i v hv => SS.strs_at hi i v (by rw [Array.getElem?_toList]; exact hv)
  have hB1 : B.in1.handled = none := by simp [hB, hh]
  refine setX_loop ((Walks.list hB1 _ l nI items).toS) s.heap.objs.size off xs sz (by omega) val (items.size - 0) 0 _ (by omega) (Nat.zero_le _) ?ss ?zz ?ff
  case ss => exact ⟨⟨_, Heap.get?_push_size _ rfl, rfl, rfl⟩, (g4.push _)⟩
  case zz => exact setX_zero _
  intro z mv hS
  obtain ⟨h', gg, dd, tk, os⟩ := z
  have e1 : gg = s.gens := mv.gens
  have e2 : dd = s.drawn := mv.drawn
  have e3 : os = s.os := mv.os
  subst e1 e2 e3
  show wpAny _ _ _ _ _ _
  refine wpAny_pure ?_
  show wpAny _ _ (ret Value.none) _ _ _
  refine wpAny_pure (done h' tk (by rw [sz]; exact hS) fun b o hb e => ?_)
  refine mv.heap b o ?_ (Heap.get?_push_of_some _ (Heap.get?_push_of_some _ e))
  simp only [List.mem_cons, List.mem_singleton, List.not_mem_nil, or_false, not_or]
  refine ⟨Nat.ne_of_lt hb, ?_⟩
  rw [Heap.size_push]
  exact Nat.ne_of_lt (Nat.lt_succ_of_lt hb)
/-- the signs of a text, each a text -/
def signs (x : Str) : List Str := x.cps.toList.map fun c => ⟨#[c]⟩
/-- set(x), x a text -/
theorem setX_text {x : Str} {u : Tok} {Q : Value → Shared → Prop} (hh : A.handled = none) (few : x.length < 3900)
    (fin : ∀ h' tk, SetX w h' s.heap.objs.size (fun y => y ∈ signs x) x.length → (∀ b o, b < s.heap.objs.size → s.heap.get? b = some o → h'.get? b = some o) → Q (.ref s.heap.objs.size) { s with heap := h', toks := tk }) :
    wpAny (model P w) A (call (.type "set") [.str x u]) Q E s := by
  refine setX_call (.str x u) (M := fun y => y ∈ signs x) (m := x.length) (fun B Pf hB done => ?_) fin
  have u1 := PySem.F.sub_str_set
  have u2 := PySem.F.sub_str_frozenset
  have u3 : (Value.type "str" == Value.type "dict") = false := by decide
  unfold Builtin.«set.__init__» noKeywords Builtin.Frozenset.updateFrom
  generalize hPI : pyIter = PI
  wp_walk
  subst hPI
  refine wpAny_pyIter_str fun o St walks st0 => wpAny_bind (wpAny_runValue ?_)
  have off : s.heap.objs.size ∉ [(s.heap.push (newX w)).objs.size] := by
    rw [Heap.size_push]
    simp only [List.mem_singleton]
    exact Nat.ne_of_lt (Nat.lt_succ_self _)
  have sz : (signs x).length = x.cps.size := by
    unfold signs
    rw [List.length_map, Array.length_toList]
  have val : ∀ (i : Nat) (v : Value), SignAt x i v → ∃ t, v = .str ((signs x).getD i Str.empty) t := by
    rintro i v ⟨c, t, e1, rfl⟩
    refine ⟨t, ?_⟩
    unfold signs
    rw [List.getD_eq_getElem?_getD, List.getElem?_map, Array.getElem?_toList, e1] <;> rfl
  have hB1 : B.in1.handled = none := by simp [hB, hh]
  refine setX_loop ((walks B.in1 hB1).toS) s.heap.objs.size off (signs x) sz few val (x.cps.size - 0) 0 _ (by omega) (Nat.zero_le _) ?ss ?zz ?ff
  case ss => exact st0
  case zz => exact setX_zero _
  intro z mv hS
  obtain ⟨h', gg, dd, tk, os⟩ := z
  have e1 : gg = s.gens := mv.gens
  have e2 : dd = s.drawn := mv.drawn
  have e3 : os = s.os := mv.os
  subst e1 e2 e3
  show wpAny _ _ _ _ _ _
  refine wpAny_pure ?_
  show wpAny _ _ (ret Value.none) _ _ _
  refine wpAny_pure (done h' tk hS fun b o hb e => ?_)
  refine mv.heap b o ?_ (Heap.get?_push_of_some _ (Heap.get?_push_of_some _ e))
  simp only [List.mem_cons, List.mem_singleton, List.not_mem_nil, or_false, not_or]
  refine ⟨Nat.ne_of_lt hb, ?_⟩
  rw [Heap.size_push]
  exact Nat.ne_of_lt (Nat.lt_succ_of_lt hb)
theorem strs_of : ∀ (l : List Value), (∀ v ∈ l, ∃ x u, v = Value.str x u) → ∃ xs, StrsAre l xs ∧ l.map (fun v => txtE (0, v)) = xs
  | [], _ => ⟨[], .nil, rfl⟩
  | v :: l, h => by
    obtain ⟨x, u, rfl⟩ := h v List.mem_cons_self
    obtain ⟨xs, h1, h2⟩ := strs_of l fun z hz => h z (List.mem_cons_of_mem _ hz)
    exact ⟨x :: xs, .cons x u h1, by rw [List.map_cons, h2] <;> rfl⟩
/-- sorted of a set of texts -/
theorem sorted_X {a : Addr} {M : Str → Prop} {m : Nat} {Q : Value → Shared → Prop} (R : SetX w s.heap a M m) (hh : A.handled = none)
    (fin : ∀ s' p (out : Array Value) (c : Nat) (ys : List Str), (∀ b o, s.heap.get? b = some o → s'.heap.get? b = some o) → s'.gens = s.gens → s'.os = s.os → s.heap.objs.size ≤ p → s'.heap.get? p = some (seqObj "list" out c) → StrsAre out.toList ys →
      sortedS ys = true → ys.Nodup → (∀ y, y ∈ ys ↔ M y) → Q (.ref p) s') : wpAny (model P w) A (call (.builtin "sorted") [.ref a]) Q E s := by
  obtain ⟨⟨o, es, ep, t, ho, hx, hd, q1, q2, q3, q4, q5, q6, q7⟩, few⟩ := R
  have fb : es.size < scanBound := Nat.lt_of_le_of_lt q4 (Nat.lt_trans few (by unfold scanBound; decide))
  refine Calls.call_function_entry kind_sorted plain_sorted entry_sorted (args_sorted1 _) ?_
  unfold Builtin.«sorted»
  refine wpAny_bind (m := checkCount "sorted" 1 1 _) (wpAny_pure (wpAny_bind (collect_set (A := A.in1) hh ⟨o, ho, hx.1, hd⟩ q5 fb q6 q7 fun s1 vs k1 k2 k3 k4 pm => ?_)))
  have vl : vs.length < 4000 := by
    rw [pm.length_eq, List.length_map, Array.length_toList]
    omega
  obtain ⟨xs, hS, ex⟩ := strs_of vs fun v hv => by
    obtain ⟨e, he, q⟩ := List.mem_map.mp (pm.mem_iff.mp hv)
    obtain ⟨x, u, e1, _⟩ := q1 e he
    exact ⟨x, u, by rw [← q]; exact e1⟩
  have px : xs.Perm (es.toList.map txtE) := by
    have q := pm.map fun v => txtE (0, v)
    rw [ex, List.map_map] at q
    exact q
  refine wpAny_bind (wpAny_newList ?_ (by rw [sizeLine_eq]; omega))
  have g1 : (s1.heap.push (seqObj "list" vs.toArray 0)).get? s1.heap.objs.size = some (seqObj "list" vs.toArray 0) := Heap.get?_push_size _ rfl
  refine wpAny_bind (wpAny_holding (wpAny_call_entry slot_list_sort ⟨_, g1, rfl⟩ entry_list_sort (list_sort_treeKAny strKind_oneLt g1 hS.keysOf (fun v1 v2 rest e => keyKind_strs (by rw [← e]; exact hS)) (by rw [sizeLine_eq]; omega) fun st' a1 a2 => ⟨_, rfl, ?_⟩) (args_list_sort _)))
  obtain ⟨ys, y1, y2, y3⟩ := sorted_out_str hS a1 a2
  obtain ⟨c, hc⟩ := sortedHeap_at (vs := vs) (out := (arrOf st').map (·.2)) g1
  have py := y2.trans px
  refine wpAny_pure ⟨_, rfl, fin _ s1.heap.objs.size _ c ys (fun b z e => ?_) k3 k4 k2 hc y1 y3 (py.nodup_iff.mpr q2) fun y => by rw [py.mem_iff, ← q3 y]⟩
  have q := k1 b z e
  have lt := Heap.lt_size q
  show (sortedHeap (s1.heap.push (seqObj "list" vs.toArray 0)) s1.heap.objs.size vs _).get? b = some z
  rw [sortedHeap_old (Nat.ne_of_lt lt) (by rw [size_push']; exact Nat.lt_succ_of_lt lt)]
  exact Heap.get?_push_of_some _ q
end
end FH
set_option Elab.async false
set_option linter.all false
set_option maxRecDepth 100000
set_option maxHeartbeats 2000000
namespace FH
open PySem PySem.Spec PyProof.Rows L2
abbrev ltT (x y : Str) : Prop := x.cps.toList < y.cps.toList
def insU (x : Str) : List Str → List Str
  | [] => [x]
  | y :: ys => if ltT x y then x :: y :: ys else if x = y then y :: ys else y :: insU x ys
/-- rising, each once -/
def sortU (xs : List Str) : List Str := xs.foldr insU []
theorem ltT_irr (x : Str) : ¬ ltT x x := List.lt_irrefl _
theorem ltT_tr {x y z : Str} (h : ltT x y) (k : ltT y z) : ltT x z := List.lt_trans h k
theorem ltT_or {x y : Str} (h : ¬ ltT x y) (k : x ≠ y) : ltT y x := by
  rcases Classical.em (ltT y x) with z | z
  · exact z
  · exact absurd (TL.ext_tl (List.le_antisymm (List.not_lt.mp z) (List.not_lt.mp h))) k
theorem insU_mem {x : Str} : ∀ {ys : List Str} {z : Str}, z ∈ insU x ys ↔ z = x ∨ z ∈ ys
  | [], z => by simp [insU]
  | y :: ys, z => by
    unfold insU
    by_cases h : ltT x y
    · rw [if_pos h]; simp
    · rw [if_neg h]
      by_cases e : x = y
      · rw [if_pos e]; subst e; simp
      · rw [if_neg e]
        simp only [List.mem_cons, insU_mem]
        constructor
        · rintro (a | a | a)
          · exact .inr (.inl a)
          · exact .inl a
          · exact .inr (.inr a)
        · rintro (a | a | a)
          · exact .inr (.inl a)
          · exact .inl a
          · exact .inr (.inr a)
theorem insU_up {x : Str} : ∀ {ys : List Str}, ys.Pairwise ltT → (insU x ys).Pairwise ltT
  | [], _ => by simp [insU]
  | y :: ys, h => by
    obtain ⟨h1, h2⟩ := List.pairwise_cons.mp h
    unfold insU
    by_cases k : ltT x y
    · rw [if_pos k]
      refine List.pairwise_cons.mpr ⟨fun z hz => ?_, h⟩
      rcases List.mem_cons.mp hz with e | e
      · rw [e]; exact k
      · exact ltT_tr k (h1 z e)
    · rw [if_neg k]
      by_cases e : x = y
      · rw [if_pos e]; exact h
      · rw [if_neg e]
        refine List.pairwise_cons.mpr ⟨fun z hz => ?_, insU_up h2⟩
        rcases insU_mem.mp hz with q | q
        · rw [q]; exact ltT_or k e
        · exact h1 z q
theorem sortU_mem {xs : List Str} {z : Str} : z ∈ sortU xs ↔ z ∈ xs := by
  induction xs with
  | nil => simp [sortU]
  | cons x xs ih =>
    show z ∈ insU x (sortU xs) ↔ _
    rw [insU_mem, ih, List.mem_cons]
theorem sortU_up (xs : List Str) : (sortU xs).Pairwise ltT := by
  induction xs with
  | nil => exact List.Pairwise.nil
  | cons x xs ih => exact insU_up ih
/-- rising rows with the same members are the same -/
theorem up_uniq : ∀ {xs ys : List Str}, xs.Pairwise ltT → ys.Pairwise ltT → (∀ z, z ∈ xs ↔ z ∈ ys) → xs = ys
  | [], [], _, _, _ => rfl
  | [], y :: ys, _, _, h => by have := (h y).mpr List.mem_cons_self; cases this
  | x :: xs, [], _, _, h => by have := (h x).mp List.mem_cons_self; cases this
  | x :: xs, y :: ys, p, q, h => by
    obtain ⟨p1, p2⟩ := List.pairwise_cons.mp p
    obtain ⟨q1, q2⟩ := List.pairwise_cons.mp q
    have e : x = y := by
      rcases List.mem_cons.mp ((h x).mp List.mem_cons_self) with a | a
      · exact a
      · rcases List.mem_cons.mp ((h y).mpr List.mem_cons_self) with b | b
        · exact b.symm
        · exact absurd (ltT_tr (q1 x a) (p1 y b)) (ltT_irr y)
    subst e
    congr 1
    refine up_uniq p2 q2 fun z => ⟨fun hz => ?_, fun hz => ?_⟩
    · rcases List.mem_cons.mp ((h z).mp (List.mem_cons_of_mem _ hz)) with b | b
      · subst b; exact absurd (p1 z hz) (ltT_irr z)
      · exact b
    · rcases List.mem_cons.mp ((h z).mpr (List.mem_cons_of_mem _ hz)) with b | b
      · subst b; exact absurd (q1 z hz) (ltT_irr z)
      · exact b
theorem ltCps_lt : ∀ {a b : List Nat}, a < b → ltCps a b = true
  | [], [], h => absurd h (List.lt_irrefl _)
  | [], _ :: _, _ => rfl
  | _ :: _, [], h => absurd h (List.not_lt_nil _)
  | a :: r, b :: t, h => by
    unfold ltCps
    rcases List.cons_lt_cons_iff.mp h with z | ⟨z, k⟩
    · simp [z]
    · subst z
      simp [ltCps_lt k]
theorem rising_up : ∀ {ys : List Str} {p : Str}, risingS p ys = true → (p :: ys).Nodup → (p :: ys).Pairwise ltT
  | [], p, _, _ => List.pairwise_singleton _ _
  | y :: ys, p, h, nd => by
    unfold risingS at h
    obtain ⟨h1, h2⟩ := Bool.and_eq_true_iff.mp h
    obtain ⟨n1, n2⟩ := List.nodup_cons.mp nd
    have ih := rising_up h2 n2
    have lt : ltT p y := by
      have ne : p ≠ y := fun e => n1 (by rw [e]; exact List.mem_cons_self)
      have nl : ¬ ltT y p := by
        intro z
        have := ltCps_lt z
        rw [this] at h1
        cases h1
      exact ltT_or nl ne.symm
    refine List.pairwise_cons.mpr ⟨fun z hz => ?_, ih⟩
    rcases List.mem_cons.mp hz with e | e
    · rw [e]; exact lt
    · exact ltT_tr lt ((List.pairwise_cons.mp ih).1 z e)
theorem sorted_is {ys xs : List Str} (h : sortedS ys = true) (nd : ys.Nodup) (m : ∀ y, y ∈ ys ↔ y ∈ xs) : ys = sortU xs := by
  refine up_uniq ?_ (sortU_up xs) fun z => (m z).trans sortU_mem.symm
  cases ys with
  | nil => exact List.Pairwise.nil
  | cons y ys => exact rising_up h nd
end FH
set_option Elab.async false
set_option linter.all false
set_option maxRecDepth 100000
set_option maxHeartbeats 2000000
namespace FH
open PySem PySem.Spec PyProof.Rows L2
/-! ### outcomes -/
inductive M (α : Type) where
  | ok (a : α) | ex (c : Str) (d : D) | no
def M.bind {α β : Type} (m : M α) (f : α → M β) : M β := match m with
  | .ok a => f a
  | .ex c d => .ex c d
  | .no => .no
@[simp] theorem M.bind_ok {α β : Type} (a : α) (f : α → M β) : (M.ok a).bind f = f a := rfl
@[simp] theorem M.bind_no {α β : Type} (f : α → M β) : (M.no : M α).bind f = .no := rfl
@[simp] theorem M.bind_ex {α β : Type} (c : Str) (d : D) (f : α → M β) : (M.ex c d : M α).bind f = .ex c d := rfl
theorem M.bind_eq {α β : Type} {m : M α} {f : α → M β} {b : β} (h : m.bind f = .ok b) : ∃ a, m = .ok a ∧ f a = .ok b := by
  cases m with
  | ok a => exact ⟨a, rfl, h⟩
  | ex c d => cases h
  | no => cases h
def LIM : Nat := 1000000
theorem lim_le : LIM ≤ sizeLine := by rw [sizeLine_eq]; decide
theorem lim_lt : LIM < sizeLine := by rw [sizeLine_eq]; decide
/-! ### operations on data -/
inductive Fn where
  | len | int | str | repr | list | sum | all | any | max2 | min2 | max1 | min1 | tuple | sorted
  deriving DecidableEq
def Fn.name : Fn → Str
  | .len => "len" | .int => "int" | .str => "str" | .repr => "repr" | .list => "list" | .sum => "sum" | .all => "all" | .any => "any" | .max2 => "max" | .min2 => "min" | .max1 => "max" | .min1 => "min" | .tuple => "tuple" | .sorted => "sorted"
def Fn.arity : Fn → Nat
  | .max2 => 2 | .min2 => 2 | _ => 1
inductive Mt where
  | join | count | find | startswith | split | get | index
  deriving DecidableEq
def Mt.name : Mt → Str
  | .join => "join" | .count => "count" | .find => "find" | .startswith => "startswith" | .split => "split" | .get => "get" | .index => "index"
/-- the receiver's type -/
def Mt.ty : Mt → String
  | .get => "dict" | .index => "list" | _ => "str"
/-- a built-in call over a built-in call -/
inductive Sp1 where
  | sset | lset
  deriving DecidableEq
/-- the operations -/
inductive P where
  | bin (op : Operator) | cmp (op : CmpOp) | neg | idx | sl (lo hi : Bool) | rv | fn (f : Fn) | isi (ts : List Str) | sp (f : Sp1) | fld (C f : Str) | isc (C : Str) (As : List Str)
  deriving DecidableEq
/-! as the library's data -/
mutual
def toPy : D → Option PyData
  | .non => some .none
  | .bl b => some (.bool b)
  | .int i => some (.int i)
  | .str s => some (.str s)
  | .lst _ xs => (toPys xs).map .list
  | .tup xs => (toPys xs).map .tuple
  | .dic _ kvs => (toPyK kvs).map .dict
  | .scr _ => none
  | .obj _ _ => none
def toPys : List D → Option (List PyData)
  | [] => some []
  | d :: ds => match toPy d, toPys ds with
    | some x, some xs => some (x :: xs)
    | _, _ => none
def toPyK : List (Key × D) → Option (List (PyData × PyData))
  | [] => some []
  | (k, d) :: ds => match toPy d, toPyK ds with
    | some x, some xs => some ((match k with | .inl i => PyData.int i | .inr s => PyData.str s, x) :: xs)
    | _, _ => none
end
def flatD : D → Bool
  | .non => true | .bl _ => true | .int _ => true | .str _ => true | _ => false
/-- == of flat data -/
def eqF : D → D → Bool
  | .non, .non => true
  | .bl a, .bl b => a == b
  | .bl a, .int j => (if a then 1 else 0) == j
  | .int i, .bl b => i == (if b then 1 else 0)
  | .int i, .int j => i == j
  | .str x, .str y => decide (x = y)
  | _, _ => false
def inF (x : D) (ys : List D) : Bool := ys.any fun y => eqF y x
def keyD : D → Option Key
  | .int i => some (.inl i)
  | .str s => some (.inr s)
  | _ => none
def Key.d : Key → D
  | .inl i => .int i
  | .inr s => .str s
def getK (kvs : List (Key × D)) (k : Key) : Option D := (kvs.find? fun p => decide (p.1 = k)).map (·.2)
def setK (k : Key) (d : D) (kvs : List (Key × D)) : List (Key × D) :=
  if (kvs.any fun kv => decide (kv.1 = k)) = true then kvs.map (fun kv => if kv.1 = k then (kv.1, d) else kv) else kvs ++ [(k, d)]
def mi (i : Int) : M R := .ok (.sh (.int i))
def mb (b : Bool) : M R := .ok (.sh (.bl b))
def ms (s : Str) : M R := .ok (.sh (.str s))
def ml (xs : List D) : M R := .ok (.ow (.lst none xs))
def mopt : Option D → M R
  | some d => .ok (.sh d)
  | none => .no
def small (i : Int) : Bool := decide (-(2 ^ 64) < i ∧ i < 2 ^ 64)
def strRep (s : Str) (n : Nat) : Str := ⟨(List.replicate n s.cps.toList).flatten.toArray⟩
def semBin : Operator → D → D → M R
  | .Add, .int i, .int j => mi (i + j)
  | .Add, .str a, .str b => if a.length + b.length ≤ LIM then ms (a ++ b) else .no
  | .Add, .lst _ xs, .lst _ ys => if xs.length + ys.length ≤ LIM then ml (xs ++ ys) else .no
  | .Sub, .int i, .int j => mi (i - j)
  | .Mult, .int i, .int j => if small i || small j then mi (i * j) else .no
  | .Mult, .lst _ xs, .int j => if -1000000 ≤ j ∧ j ≤ 1000000 ∧ xs.length * j.toNat ≤ LIM then ml (List.replicate j.toNat xs).flatten else .no
  | .Mult, .str s, .int j => if -1000000 ≤ j ∧ j ≤ 1000000 ∧ s.length * j.toNat ≤ LIM then ms (strRep s j.toNat) else .no
  | .FloorDiv, .int i, .int j => if 0 < j ∧ j < 1073741824 then mi (i / j) else .no
  | .Mod, .int i, .int j => if 0 < j then mi (i % j) else .no
  | .Pow, .int i, .int j => if 0 ≤ j ∧ j ≤ 1000000 ∧ i.natAbs < 2 ^ 64 then mi (i ^ j.toNat) else .no
  | .LShift, .int i, .int j => if 0 ≤ j ∧ j ≤ 1000000 ∧ i.natAbs < 2 ^ 64 then mi (i * 2 ^ j.toNat) else .no
  | .RShift, .int i, .int j => if 0 ≤ j then mi (i / 2 ^ j.toNat) else .no
  | .BitAnd, .int i, .int j => if 0 ≤ i ∧ j = 1 then mi (i % 2) else .no
  | _, _, _ => .no
def eqDeep (a b : D) : Option Bool := match toPy a, toPy b with
  | some x, some y => if SeqAt.shaped x && SeqAt.shaped y then some (PyData.eqv x y) else none
  | _, _ => none
def eqD : D → D → Option Bool
  | .int i, .int j => some (decide (i = j))
  | .str x, .str y => some (decide (x = y))
  | .bl x, .bl y => some (decide (x = y))
  | .non, .non => some true
  | .non, .int _ => some false | .int _, .non => some false | .non, .bl _ => some false | .bl _, .non => some false | .non, .str _ => some false | .str _, .non => some false
  | .int _, .str _ => some false | .str _, .int _ => some false | .bl _, .str _ => some false | .str _, .bl _ => some false
  | a, b => eqDeep a b
def signIn (x z : Str) : Option Bool := match x.cps.toList with
  | [c] => some (decide (c ∈ z.cps.toList))
  | _ => none
def semIn (x y : D) : Option Bool := match y with
  | .str z => (match x with
    | .str s => signIn s z
    | _ => none)
  | .lst _ ys => if flatD x && ys.all flatD then some (inF x ys) else none
  | .tup ys => if flatD x && ys.all flatD then some (inF x ys) else none
  | .dic _ kvs => (keyD x).map fun k => (getK kvs k).isSome
  | _ => none
def mbo (o : Option Bool) : M R := match o with
  | some b => mb b
  | none => .no
def isNon : D → Bool
  | .non => true
  | _ => false
def semCmp : CmpOp → D → D → M R
  | .Lt, .int i, .int j => mb (decide (i < j))
  | .LtE, .int i, .int j => mb (decide (i ≤ j))
  | .Gt, .int i, .int j => mb (decide (j < i))
  | .GtE, .int i, .int j => mb (decide (j ≤ i))
  | .LtE, .str a, .str b => mb (!decide (b.cps.toList < a.cps.toList))
  | .Eq, a, b => mbo (eqD a b)
  | .NotEq, a, b => mbo ((eqD a b).map (!·))
  | .In, a, b => mbo (semIn a b)
  | .NotIn, a, b => mbo ((semIn a b).map (!·))
  | .Is, .bl a, .bl b => mb (decide (a = b))
  | .IsNot, .bl a, .bl b => mb (!decide (a = b))
  | .Is, a, .non => mb (isNon a)
  | .IsNot, a, .non => mb (!isNon a)
  | _, _, _ => .no
def oneStr (s : Str) (i : Int) : Option D := (atI s.cps.toList i).map fun c => .str ⟨#[c]⟩
def semIdx : D → D → M R
  | .lst _ xs, .int i => mopt (atI xs i)
  | .scr ns, .int i => mopt ((atI ns i).map .int)
  | .tup xs, .int i => mopt (atI xs i)
  | .str s, .int i => if s.length ≤ LIM then mopt (oneStr s i) else .no
  | .dic _ kvs, k => (match keyD k with
    | some k => mopt (getK kvs k)
    | none => .no)
  | _, _ => .no
def cutD (xs : List D) (lo hi : Option Int) : List D := (xs.drop (HT.sIx xs.length 0 lo)).take (HT.sIx xs.length xs.length hi - HT.sIx xs.length 0 lo)
def semSl (d : D) (lo hi : Option Int) : M R := match d with
  | .lst _ xs => ml (cutD xs lo hi)
  | .str s => if s.length ≤ LIM then ms (cutS s lo hi) else .no
  | _ => .no
def strsOf : List D → Option (List Str)
  | [] => some []
  | .str s :: r => (strsOf r).map (s :: ·)
  | _ :: _ => none
def intsOf : List D → Option (List Int)
  | [] => some []
  | .int s :: r => (intsOf r).map (s :: ·)
  | _ :: _ => none
def blsOf : List D → Option (List Bool)
  | [] => some []
  | .bl s :: r => (blsOf r).map (s :: ·)
  | _ :: _ => none
def semLen : List D → M R
  | [.str s] => if s.length ≤ LIM then mi s.length else .no
  | [.lst _ xs] => mi xs.length
  | [.scr ns] => mi ns.length
  | [.tup xs] => mi xs.length
  | _ => .no
def semInt : List D → M R
  | [.int i] => mi i
  | [.bl b] => mi (if b then 1 else 0)
  | [.str s] => (match PySem.intText? s with
    | some n => if s.length ≤ 640 then mi n else .no
    | none => .no)
  | _ => .no
def semStr : List D → M R
  | [.int i] => if i.natAbs.log2 < 1920 then ms (toString i) else .no
  | _ => .no
def semAll : List D → M R
  | [.lst _ xs] => (match blsOf xs with
    | some bs => mb (bs.all id)
    | none => .no)
  | _ => .no
def semAny : List D → M R
  | [.lst _ xs] => (match blsOf xs with
    | some bs => mb (bs.any id)
    | none => .no)
  | _ => .no
def semSum : List D → M R
  | [.lst _ xs] => (match intsOf xs with
    | some is => mi is.sum
    | none => .no)
  | _ => .no
def semMax2 : List D → M R
  | [.int i, .int j] => mi (if j > i then j else i)
  | _ => .no
def semMin2 : List D → M R
  | [.int i, .int j] => mi (if j < i then j else i)
  | _ => .no
def semMax1 : List D → M R
  | [.lst _ xs] => (match intsOf xs with
    | some (i :: is) => mi (is.foldl max i)
    | _ => .no)
  | _ => .no
def semMin1 : List D → M R
  | [.lst _ xs] => (match intsOf xs with
    | some (i :: is) => mi (is.foldl min i)
    | _ => .no)
  | _ => .no
def semTuple : List D → M R
  | [.lst _ xs] => .ok (.sh (.tup xs))
  | [.tup xs] => .ok (.sh (.tup xs))
  | _ => .no
def keysS : List (Key × D) → Option (List Str)
  | [] => some []
  | (.inr s, _) :: r => (keysS r).map (s :: ·)
  | _ :: _ => none
def semSorted : List D → M R
  | [.lst _ xs] => (match strsOf xs with
    | some ss => if ss.Nodup ∧ ss.length ≤ LIM then ml ((sortU ss).map .str) else .no
    | none => .no)
  | [.dic _ kvs] => (match keysS kvs with
    | some ss => if ss.Nodup ∧ ss.length < 64 then ml ((sortU ss).map .str) else .no
    | none => .no)
  | _ => .no
/-- the texts that a text or a row holds -/
def txsOf : D → Option (List Str)
  | .str s => some (signs s)
  | .lst _ xs => strsOf xs
  | _ => none
def semSset : List D → M R
  | [d] => (match txsOf d with
    | some ss => if ss.length < 3900 then ml ((sortU ss).map .str) else .no
    | none => .no)
  | _ => .no
def semLset : List D → M R
  | [d] => (match txsOf d with
    | some ss => if ss.length < 3900 then mi (sortU ss).length else .no
    | none => .no)
  | _ => .no
def semSp : Sp1 → List D → M R
  | .sset, ds => semSset ds | .lset, ds => semLset ds
def semList : List D → M R
  | [.lst _ xs] => ml xs
  | [.tup xs] => ml xs
  | [.str s] => if s.length ≤ LIM then ml ((signs s).map .str) else .no
  | _ => .no
def semRepr : List D → M R
  | [d] => (match toPy d with
    | some x => if x.canLay0 && (x.showable && (decide (x.depth ≤ 40) && decide (x.shown.length ≤ LIM))) then ms x.shown else .no
    | none => .no)
  | _ => .no
def semFn : Fn → List D → M R
  | .len, ds => semLen ds | .int, ds => semInt ds | .str, ds => semStr ds | .all, ds => semAll ds | .any, ds => semAny ds | .sum, ds => semSum ds
  | .max2, ds => semMax2 ds | .min2, ds => semMin2 ds | .list, ds => semList ds | .repr, ds => semRepr ds
  | .max1, ds => semMax1 ds | .min1, ds => semMin1 ds | .tuple, ds => semTuple ds | .sorted, ds => semSorted ds
/-- the receiver is of the method's type -/
def Mt.okD : Mt → D → Bool
  | .join, .str _ => true | .count, .str _ => true | .find, .str _ => true | .startswith, .str _ => true | .split, .str _ => true
  | .get, .dic _ _ => true | .index, .lst _ _ => true
  | _, _ => false
def semJoin : List D → M R
  | [.str z, .lst _ xs] => (match strsOf xs with
    | some ss => if (ss.map (·.length)).sum + ss.length * z.length ≤ LIM then ms (Txt.join z ss) else .no
    | none => .no)
  | _ => .no
def semCount : List D → M R
  | [.str a, .str b] => mi (Txt.count a b)
  | _ => .no
def semFind : List D → M R
  | [.str a, .str b] => mi (Txt.find a b)
  | _ => .no
def semStarts : List D → M R
  | [.str a, .str b] => mb (Txt.startswith a b)
  | _ => .no
def semSplit : List D → M R
  | [.str a, .str b] => if b.length ≠ 0 ∧ a.length ≤ LIM then ml ((Txt.split a b).map .str) else .no
  | _ => .no
def semGet : List D → M R
  | [.dic _ kvs, k, d] => (match keyD k with
    | some k => if flatD d then .ok (.sh ((getK kvs k).getD d)) else .no
    | none => .no)
  | _ => .no
def semIndex : List D → M R
  | [.lst _ xs, y] => if flatD y && xs.all flatD then (match xs.findIdx? (fun x => eqF x y) with
    | some j => mi j
    | none => .no) else .no
  | _ => .no
def semMt : Mt → List D → M R
  | .join, ds => semJoin ds | .count, ds => semCount ds | .find, ds => semFind ds | .startswith, ds => semStarts ds | .split, ds => semSplit ds | .get, ds => semGet ds | .index, ds => semIndex ds
/-- isinstance with built-in types, by their names -/
def tyD : D → Str
  | .non => "NoneType" | .bl _ => "bool" | .int _ => "int" | .str _ => "str" | .scr _ => "list" | .lst _ _ => "list" | .tup _ => "tuple" | .dic _ _ => "dict" | .obj C _ => C
def isObj : D → Bool
  | .obj _ _ => true
  | _ => false
def isOfS (ts : List Str) (n : Str) : Bool := decide (n ∈ ts) || (decide (n = "bool") && decide (("int" : Str) ∈ ts))
def isOf (ts : List Str) (d : D) : Bool := isOfS ts (tyD d)
def semIsc (C : Str) (As : List Str) : D → M R
  | .obj A _ => if A ∈ As then mb (decide (A = C)) else .no
  | _ => mb false
def P.sem : P → List D → M R
  | .bin op, [a, b] => semBin op a b
  | .cmp op, [a, b] => semCmp op a b
  | .neg, [.int i] => mi (-i)
  | .idx, [a, b] => semIdx a b
  | .sl true true, [d, .int i, .int j] => semSl d (some i) (some j)
  | .sl true false, [d, .int i] => semSl d (some i) none
  | .sl false true, [d, .int j] => semSl d none (some j)
  | .rv, [.lst _ xs] => ml xs.reverse
  | .rv, [.str s] => if s.length ≤ LIM then ms ⟨s.cps.toList.reverse.toArray⟩ else .no
  | .fn f, ds => semFn f ds
  | .isi ts, [d] => if isObj d then .no else mb (isOf ts d)
  | .sp f, ds => semSp f ds
  | .fld C f, [.obj A fs] => if A = C then mopt (fs.lookup f) else .no
  | .isc C As, [d] => semIsc C As d
  | _, _ => .no
/-! ### terms, statements -/
/-- what a program has: constants; classes with the fields of their instances -/
structure GX where
  vs : List (Str × V)
  cl : List (Str × List Str)
def GX.isC (g : GX) (C : Str) : Bool := (g.cl.lookup C).isSome
def GX.has (g : GX) (C f : Str) : Bool := match g.cl.lookup C with
  | some fs => decide (f ∈ fs)
  | none => false
inductive Tg where
  | nm (i : Nat) | tp (is : List Nat)
inductive T where
  | var (i : Nat) | mv (i : Nat) | lit (v : V) | glb (x : Str) (v : V)
  | nil | cons (e es : T)
  | prim (p : P) (es : T)
  | mth (m : Mt) (e es : T)
  | call (f : Str) (es : T)
  | om (x : Str) (e es : T)
  | mk (x : Str) (es : T)
  | bor (e : T)
  | lst (es : T) | tup (es : T) | dic (es : T)
  | and (a b : T) | or (a b : T) | one (a : T) | frz (a : T) | late (i : Nat) (es : T) | not (a : T) | ite (c a b : T)
  | chain (p q : CmpOp) (a b c : T)
  | comp (own : List (Str × Nat)) (elt : T) (tg : Tg) (src cond : T)
  | sval (e : T) | srng (es : T) | senum (e : T) | szip (es : T)
inductive S where
  | nil | seq (s r : S)
  | expr (e : T) | asg (i : Nat) (e : T) | unp (is : List Nat) (e : T) | par (i j : Nat) (es : T)
  | setx (i : Nat) (ix e : T) | setf (i : Nat) (C f : Str) (e : T) | app (i : Nat) (e : T) | ext (i : Nat) (e : T) | rem (i : Nat) (e : T)
  | ifs (c : T) (a b : S) | for (tg : Tg) (src : T) (body : S) | while (n : Nat) (c : T) (body : S)
  | ret (e : T) | ret0 | brk | cont | dead
/-! ### evaluation -/
/-- a method's name: its class, a dot, its own name -/
def cm (x : Str) : Option (Str × Str) :=
  let a := x.cps.toList.takeWhile (· ≠ 46)
  if a.length < x.cps.toList.length then some (⟨a.toArray⟩, ⟨(x.cps.toList.drop (a.length + 1)).toArray⟩) else none
def isIns (C m : Str) : D → Bool
  | .obj A fs => decide (A = C) && (fs.lookup m).isNone
  | _ => false
/-- a text's first place in a row of texts goes -/
def remD (xs : List D) (d : D) : Option (List D) := match d, strsOf xs with
  | .str y, some ss => (ss.findIdx? (fun s => decide (s = y))).map xs.eraseIdx
  | _, _ => none
def dV : V → D
  | .bl b => .bl b
  | .int i => .int i
  | .str s => .str s
  | _ => .non
/-- the slots whose owners are lent by an argument list -/
def bkOf : T → List (Option Nat)
  | .cons (.mv i) es => some i :: bkOf es
  | .cons _ es => none :: bkOf es
  | .late i es => some i :: bkOf es
  | _ => []
abbrev Sem1 := List R → M (R × List (Option R))
abbrev FT := Str → Option Sem1
def getS (env : En) (i : Nat) : M R := match env[i]? with
  | some (some r) => .ok r
  | _ => .no
def sh1 (r : R) : R := .sh r.d
def backs : List (Option R) → List (Option Nat) → En → En
  | some r :: rs, some i :: bk, env => backs rs bk (env.set i (some r))
  | _ :: rs, _ :: bk, env => backs rs bk env
  | _, _, env => env
def cmpOf : R → Bool × D
  | .sh d => (false, d)
  | .ow d => (true, d)
  | .tp cs => (false, .tup (cs.map (·.2)))
def noTp : R → Bool
  | .tp _ => false
  | _ => true
/-- the frame with all shared -/
def shE (env : En) : En := env.map (Option.map sh1)
def flatR : R → Bool
  | .sh d => flatD d
  | .ow (.lst none xs) => xs.all flatD
  | _ => false
/-- f = d in an instance's fields -/
def putD (f : Str) (d : D) : List (Str × D) → List (Str × D)
  | [] => [(f, d)]
  | (g, x) :: r => if g = f then (g, d) :: r else (g, x) :: putD f d r
/-- an operation over a fresh tuple hands on flat answers alone -/
def okRes (rs : List R) (r : R) : Bool := rs.all noTp || flatD r.d
def one1 (m : M (List R × En)) : M (R × En) := m.bind fun (rs, env) => match rs with
  | [r] => .ok (r, env)
  | _ => .no
def asB : R → M Bool
  | .sh (.bl b) => .ok b
  | _ => .no
def wipeE (env : En) : List Nat → En
  | [] => env
  | v :: vs => (wipeE env vs).set v none
def shared : Option R → Option R
  | some (.sh d) => some (.sh d)
  | _ => none
def restore (own : List Nat) (env0 : En) (env : En) : En := own.foldl (fun e i => e.set i (shared (env0[i]?.join))) env
def setIs : List Nat → List D → En → M En
  | [], [], env => .ok env
  | i :: is, d :: ds, env => setIs is ds (env.set i (some (.sh d)))
  | _, _, _ => .no
def setT (tg : Tg) (d : D) (env : En) : M En := match tg with
  | .nm i => .ok (env.set i (some (.sh d)))
  | .tp is => (match d with
    | .tup ds => setIs is ds env
    | .lst _ ds => setIs is ds env
    | _ => .no)
def M.noex {α : Type} : M α → M α
  | .ok a => .ok a
  | _ => .no
def compL (f : D → En → M (Option D × En)) : List D → En → M (List D × En)
  | [], env => .ok ([], env)
  | x :: xs, env => (f x env).bind fun (o, env1) => (compL f xs env1).bind fun (ys, env2) => .ok (o.toList ++ ys, env2)
def strItems (s : Str) : List D := s.cps.toList.map fun c => .str ⟨#[c]⟩
def itemsOf : D → Option (List D)
  | .lst _ xs => some xs
  | .tup xs => some xs
  | .str s => some (strItems s)
  | _ => none
def lstOf : D → Option (List D)
  | .lst _ xs => some xs
  | _ => none
def enumOf : D → Option (List D)
  | .lst _ xs => some xs
  | .str s => some (strItems s)
  | _ => none
def enumD (xs : List D) : List D := xs.zipIdx.map fun p => .tup [.int p.2, p.1]
def zipD (xs ys : List D) : List D := (xs.zip ys).map fun p => .tup [p.1, p.2]
def rngD (lo hi : Int) : List D := (List.range (hi - lo).toNat).map fun (k : Nat) => .int (lo + (k : Int))
def srcR (xs : List D) (env : En) : M (List R × En) := if xs.length ≤ LIM then .ok ([.sh (.lst none xs)], env) else .no
/-- a comprehension's test -/
def condM : T → (En → M (List R × En)) → En → M (Bool × En)
  | .nil, _, env => .ok (true, env)
  | _, f, env => (one1 (f env)).bind fun (r, env1) => (asB r).bind fun t => .ok (t, env1)
def pairD : List D → Option (List (Key × D))
  | [] => some []
  | k :: v :: r => match keyD k, pairD r with
    | some n, some m => some ((n, v) :: m)
    | _, _ => none
  | _ => none
def mergeD (kvs more : List (Key × D)) : List (Key × D) := more.foldl (fun acc kv => setK kv.1 kv.2 acc) kvs
def ev (Φ : FT) : T → En → M (List R × En)
  | .var i, env => (getS env i).bind fun r => .ok ([sh1 r], env.set i (some (sh1 r)))
  | .mv i, env => (getS env i).bind fun r => .ok ([r], env.set i none)
  | .lit v, env => .ok ([.sh (dV v)], env)
  | .glb _ v, env => .ok ([.sh (dV v)], env)
  | .nil, env => .ok ([], env)
  | .cons e es, env => (one1 (ev Φ e env)).bind fun (r, env1) => (ev Φ es env1).bind fun (rs, env2) => .ok (r :: rs, env2)
  | .late i es, env => (getS env i).bind fun _ => (ev Φ es env).bind fun (rs, env2) => (getS env2 i).bind fun r => .ok (r :: rs, env2.set i none)
  | .prim p es, env => (ev Φ es env).bind fun (rs, env1) => (p.sem (rs.map R.d)).bind fun r => if okRes rs r then .ok ([r], backs (rs.map some) (bkOf es) env1) else .no
  | .mth m e es, env => (one1 (ev Φ e env)).bind fun (r, env1) => if m.okD r.d then (ev Φ es env1).bind fun (rs, env2) => (semMt m (r.d :: rs.map R.d)).bind fun q => if okRes (r :: rs) q then .ok ([q], backs (some r :: rs.map some) (bkOf (.cons e es)) env2) else .no else .no
  | .call f es, env => match Φ f with
    | some g => (ev Φ es env).bind fun (rs, env1) => (g rs).bind fun (r, outs) => .ok ([r], backs outs (bkOf es) env1)
    | none => .no
  | .om x e es, env => match cm x, Φ x with
    | some (C, m), some g => (one1 (ev Φ e env)).bind fun (r, env1) => if isIns C m r.d then (ev Φ es env1).bind fun (rs, env2) => (g (r :: rs)).bind fun (q, outs) => .ok ([q], backs outs (bkOf (.cons e es)) env2) else .no
    | _, _ => .no
  | .mk x es, env => match cm x, Φ x with
    | some (C, _), some g => (ev Φ es env).bind fun (rs, env1) => (g (.ow (.obj C []) :: rs)).bind fun b => match b.1, b.2 with
      | .sh .non, some r :: outs => .ok ([r], backs outs (bkOf es) env1)
      | _, _ => .no
    | _, _ => .no
  | .bor e, env => (one1 (ev Φ e (shE env))).bind fun (r, _) => if flatR r then .ok ([r], env) else .no
  | .lst es, env => (ev Φ es env).bind fun (rs, env1) => .ok ([.ow (.lst none (rs.map R.d))], env1)
  | .dic es, env => (ev Φ es env).bind fun (rs, env1) => match pairD (rs.map R.d) with
    | some kvs => .ok ([.ow (.dic none (mergeD [] kvs))], env1)
    | none => .no
  | .tup es, env => (ev Φ es env).bind fun (rs, env1) => .ok ([.tp (rs.map cmpOf)], env1)
  | .one a, env => ev Φ a env
  | .frz a, env => (one1 (ev Φ a env)).bind fun (r, env1) => .ok ([sh1 r], env1)
  | .and a b, env => (one1 (ev Φ a env)).bind fun (r, env1) => (asB r).bind fun t => if t then ev Φ b env1 else .ok ([.sh (.bl false)], env1)
  | .or a b, env => (one1 (ev Φ a env)).bind fun (r, env1) => (asB r).bind fun t => if t then .ok ([.sh (.bl true)], env1) else ev Φ b env1
  | .not a, env => (one1 (ev Φ a env)).bind fun (r, env1) => (asB r).bind fun t => .ok ([.sh (.bl (!t))], env1)
  | .ite c a b, env => (one1 (ev Φ c env)).bind fun (r, env1) => (asB r).bind fun t => if t then ev Φ a env1 else ev Φ b env1
  | .chain p q a b c, env => (one1 (ev Φ a env)).bind fun (ra, env1) => (one1 (ev Φ b env1)).bind fun (rb, env2) => (semCmp p ra.d rb.d).bind fun r => (asB r).bind fun t =>
    if t then (one1 (ev Φ c env2)).bind fun (rc, env3) => (semCmp q rb.d rc.d).bind fun r2 => .ok ([r2], env3) else .ok ([.sh (.bl false)], env2)
  | .comp own elt tg src cond, env => (one1 (ev Φ src env)).bind fun (r, env1) => match r with
    | .sh (.lst _ xs) => if xs.length ≤ LIM then (compL (fun x env => ((setT tg x env).bind fun env => (condM cond (ev Φ cond) env).bind fun (t, env) =>
        if t then (one1 (ev Φ elt env)).bind fun (y, env) => .ok (some y.d, wipeE env (own.map (·.2))) else .ok (none, wipeE env (own.map (·.2)))).noex) xs (wipeE env1 (own.map (·.2)))).bind fun (ys, env2) =>
          .ok ([.ow (.lst none ys)], restore (own.map (·.2)) env1 env2) else .no
    | _ => .no
  | .sval e, env => (one1 (ev Φ e env)).bind fun (r, env1) => match itemsOf r.d with
    | some xs => srcR xs env1
    | none => .no
  | .srng es, env => (ev Φ es env).bind fun (rs, env1) => match rs.map R.d with
    | [.int n] => if -LIM ≤ n ∧ n ≤ LIM then srcR (rngD 0 n) env1 else .no
    | [.int a, .int b] => if -LIM ≤ a ∧ a ≤ LIM ∧ -LIM ≤ b ∧ b ≤ LIM then srcR (rngD a b) env1 else .no
    | _ => .no
  | .senum e, env => (one1 (ev Φ e env)).bind fun (r, env1) => match enumOf r.d with
    | some xs => srcR (enumD xs) env1
    | none => .no
  | .szip es, env => (ev Φ es env).bind fun (rs, env1) => match rs.map R.d with
    | [a, b] => (match lstOf a, lstOf b with
      | some xs, some ys => srcR (zipD xs ys) env1
      | _, _ => .no)
    | _ => .no
inductive Out where
  | nx (env : En) | rt (r : R) (env : En) | bk (env : En) | ct (env : En)
def exL (step : D → En → M Out) : List D → En → M Out
  | [], env => .ok (.nx env)
  | x :: xs, env => (step x env).bind fun
    | .nx e => exL step xs e
    | .ct e => exL step xs e
    | .bk e => .ok (.nx e)
    | .rt r e => .ok (.rt r e)
def exW (c : En → M (Bool × En)) (b : En → M Out) : Nat → En → M Out
  | 0, _ => .no
  | n + 1, env => (c env).bind fun (t, e1) => if t then (b e1).bind fun
    | .nx e => exW c b n e
    | .ct e => exW c b n e
    | .bk e => .ok (.nx e)
    | .rt r e => .ok (.rt r e)
    else .ok (.nx e1)
def unR : R → Option (List R)
  | .sh (.tup ds) => some (ds.map .sh)
  | .sh (.lst _ ds) => some (ds.map .sh)
  | .tp cs => some (cs.map fun (b, d) => if b then .ow d else .sh d)
  | _ => none
def setRs : List Nat → List R → En → M En
  | [], [], env => .ok env
  | i :: is, r :: rs, env => setRs is rs (env.set i (some r))
  | _, _, _ => .no
/-- o[k] = d -/
def setO : R → D → D → Option R
  | .ow (.lst t xs), .int n, d => (ixN xs.length n).map fun j => .ow (.lst t (xs.set j d))
  | .ow (.dic t kvs), k, d => if kvs.length ≤ LIM then (keyD k).map fun n => .ow (.dic t (setK n d kvs)) else none
  | _, _, _ => none
def ex (Φ : FT) : S → En → M Out
  | .nil, env => .ok (.nx env)
  | .seq s r, env => (ex Φ s env).bind fun
    | .nx e => ex Φ r e
    | o => .ok o
  | .expr e, env => (one1 (ev Φ e env)).bind fun (_, env1) => .ok (.nx env1)
  | .asg i e, env => (one1 (ev Φ e env)).bind fun (r, env1) => .ok (.nx (env1.set i (some r)))
  | .unp is e, env => (one1 (ev Φ e env)).bind fun (r, env1) => match unR r with
    | some rs => (setRs is rs env1).bind fun env2 => .ok (.nx env2)
    | none => .no
  | .par i j es, env => (ev Φ es env).bind fun (rs, env1) => match rs with
    | [r, q] => .ok (.nx ((env1.set i (some r)).set j (some q)))
    | _ => .no
  | .setx i ix e, env => (one1 (ev Φ e env)).bind fun (r, env1) => (getS env1 i).bind fun o => (one1 (ev Φ ix (env1.set i none))).bind fun (k, env2) => match setO o k.d r.d with
    | some o' => .ok (.nx (env2.set i (some o')))
    | none => .no
  | .setf i C f e, env => (one1 (ev Φ e env)).bind fun (r, env1) => (getS env1 i).bind fun o => match o with
    | .ow (.obj A fs) => if A = C ∧ fs.length < 1000 then .ok (.nx (env1.set i (some (.ow (.obj A (putD f r.d fs)))))) else .no
    | _ => .no
  | .app i e, env => (getS env i).bind fun o => match o with
    | .ow (.lst t xs) => (one1 (ev Φ e (env.set i none))).bind fun (r, env1) => if xs.length ≤ LIM then .ok (.nx (env1.set i (some (.ow (.lst t (xs ++ [r.d])))))) else .no
    | _ => .no
  | .ext i e, env => (getS env i).bind fun o => match o with
    | .ow (.lst t xs) => (one1 (ev Φ e (env.set i none))).bind fun (r, env1) => (match r.d with
      | .lst _ ys => if xs.length + ys.length ≤ LIM then .ok (.nx (env1.set i (some (.ow (.lst t (xs ++ ys)))))) else .no
      | _ => .no)
    | _ => .no
  | .rem i e, env => (getS env i).bind fun o => match o with
    | .ow (.lst t xs) => (one1 (ev Φ e (env.set i none))).bind fun (r, env1) => (match remD xs r.d with
      | some ys => .ok (.nx (env1.set i (some (.ow (.lst t ys)))))
      | none => .no)
    | _ => .no
  | .ifs c a b, env => (one1 (ev Φ c env)).bind fun (r, env1) => (asB r).bind fun t => if t then ex Φ a env1 else ex Φ b env1
  | .for tg src body, env => (one1 (ev Φ src env)).bind fun (r, env1) => match r with
    | .sh (.lst _ xs) => exL (fun x env => (setT tg x env).bind fun env => ex Φ body env) xs env1
    | _ => .no
  | .while n c body, env => exW (fun env => (one1 (ev Φ c env)).bind fun (r, env1) => (asB r).bind fun t => .ok (t, env1)) (ex Φ body) n env
  | .ret e, env => (one1 (ev Φ e env)).bind fun (r, env1) => .ok (.rt r env1)
  | .ret0, env => .ok (.rt (.sh .non) env)
  | .brk, env => .ok (.bk env)
  | .cont, env => .ok (.ct env)
  | .dead, _ => .no
/-- a def -/
def outsOf (io : List Nat) (n : Nat) (env : En) : List (Option R) := (List.range n).map fun j => if j ∈ io then env[j]?.join else none
def runF (Φ : FT) (n : Nat) (io : List Nat) (body : S) : Sem1 := fun rs => (ex Φ body (rs.map some ++ List.replicate (n - rs.length) none)).bind fun
  | .rt r env => .ok (r, outsOf io rs.length env)
  | .nx env => .ok (.sh .non, outsOf io rs.length env)
  | _ => .no
end FH
set_option Elab.async false
set_option linter.all false
set_option maxRecDepth 100000
set_option maxHeartbeats 2000000
namespace FH
open PySem PySem.Spec PyProof.Rows L2
/-! ### steps that leave the temporaries below k alone -/
def Pk (k : Nat) (O : Own) (a : Addr) : Prop := (∀ i c, O a ≠ some (.s i c)) ∧ ∀ j c, O a = some (.t j c) → j < k
structure Stp (k : Nat) (F : Hp) (O : Own) (H F' : Hp) (O' : Own) (H' : Hp) : Prop where
  ext : Sub F F'
  keep : ∀ a o, H a = some o → Pk k O a → H' a = some o
  lab : ∀ a o, H a = some o → Pk k O a → O' a = O a
  frz : ∀ a o, H a = some o → Pk k O a → F a = none → F' a = none
  dom : ∀ a o, H a = some o → ∃ o', H' a = some o'
theorem Stp.refl (k : Nat) (F : Hp) (O : Own) (H : Hp) : Stp k F O H F O H := ⟨Sub.refl _, fun _ _ h _ => h, fun _ _ _ _ => rfl, fun _ _ _ _ h => h, fun _ o h => ⟨o, h⟩⟩
theorem Pk.mono {k j : Nat} {O : Own} {a : Addr} (h : Pk k O a) (e : k ≤ j) : Pk j O a := ⟨h.1, fun i c z => Nat.lt_of_lt_of_le (h.2 i c z) e⟩
theorem Stp.mono {k j : Nat} {F H F' H' : Hp} {O O' : Own} (h : Stp j F O H F' O' H') (e : k ≤ j) : Stp k F O H F' O' H' :=
  ⟨h.ext, fun a o q p => h.keep a o q (p.mono e), fun a o q p => h.lab a o q (p.mono e), fun a o q p => h.frz a o q (p.mono e), h.dom⟩
theorem Stp.trans {k : Nat} {F F1 F2 H H1 H2 : Hp} {O O1 O2 : Own} (a : Stp k F O H F1 O1 H1) (b : Stp k F1 O1 H1 F2 O2 H2) : Stp k F O H F2 O2 H2 := by
  have pr : ∀ x o, H x = some o → Pk k O x → Pk k O1 x := fun x o h p => by
    have e := a.lab x o h p
    exact ⟨fun i c z => p.1 i c (by rw [← e]; exact z), fun j c z => p.2 j c (by rw [← e]; exact z)⟩
  exact ⟨a.ext.trans b.ext, fun x o h p => b.keep x o (a.keep x o h p) (pr x o h p), fun x o h p => (b.lab x o (a.keep x o h p) (pr x o h p)).trans (a.lab x o h p),
    fun x o h p n => b.frz x o (a.keep x o h p) (pr x o h p) (a.frz x o h p n), fun x o h => let ⟨o1, e⟩ := a.dom x o h; b.dom x o1 e⟩
theorem Stp.fresh {k : Nat} {F F1 H H1 : Hp} {O O1 : Own} (a : Stp k F O H F1 O1 H1) {p : Addr} (h : H1 p = none) : H p = none := by
  cases q : H p with
  | none => rfl
  | some o =>
    obtain ⟨o', e⟩ := a.dom p o q
    rw [h] at e; cases e
/-- the three facts of a state without its slots -/
structure Bs (F : Hp) (O : Own) (H : Hp) : Prop where
  sub : Sub F H
  dis : ∀ a l, O a = some l → F a = none
  own : ∀ a l, O a = some l → ∃ o, H a = some o
theorem AE.bs {ca : Cs} {F H : Hp} {O : Own} {env : En} {σ : L2.St} (h : AE ca F O env σ H) : Bs F O H := ⟨h.sub, h.dis, h.own⟩
theorem Bs.ae {ca : Cs} {F H : Hp} {O : Own} {env : En} {σ : L2.St} (b : Bs F O H) (h : ∀ i r, env[i]? = some (some r) → ∃ v, σ[i]? = some (some v) ∧ RepR ca F H O (.s i) r v) : AE ca F O env σ H := ⟨b.sub, b.dis, b.own, h⟩
/-! ### owners mapped: some (some l') relabels, some none lets go, none freezes -/
abbrev Act := Lab → Option (Option Lab)
def mO (φ : Act) (O : Own) : Own := fun a => match O a with
  | some l => (match φ l with
    | some (some l') => some l'
    | _ => none)
  | none => none
def mF (φ : Act) (O : Own) (F H : Hp) : Hp := fun a => match O a with
  | some l => (match φ l with
    | none => H a
    | some _ => F a)
  | none => F a
section
variable {ca : Cs} {φ : Act} {F H : Hp} {O : Own}
theorem mO_some {a : Addr} {l l' : Lab} (h : O a = some l) (e : φ l = some (some l')) : mO φ O a = some l' := by unfold mO; rw [h]; simp only [e]
theorem mO_inv {a : Addr} {l' : Lab} (h : mO φ O a = some l') : ∃ l, O a = some l ∧ φ l = some (some l') := by
  unfold mO at h
  cases e : O a with
  | none => rw [e] at h; cases h
  | some l =>
    rw [e] at h
    simp only at h
    cases q : φ l with
    | none => rw [q] at h; cases h
    | some x =>
      rw [q] at h
      cases x with
      | none => cases h
      | some y => exact ⟨l, rfl, by rw [q]; exact congrArg some h⟩
theorem mO_none {a : Addr} (h : O a = none) : mO φ O a = none := by unfold mO; rw [h]
theorem mF_none {a : Addr} (h : O a = none) : mF φ O F H a = F a := by unfold mF; rw [h]
theorem mF_frz {a : Addr} {l : Lab} (h : O a = some l) (e : φ l = none) : mF φ O F H a = H a := by unfold mF; rw [h]; simp only [e]
theorem mF_keep {a : Addr} {l : Lab} {x : Option Lab} (h : O a = some l) (e : φ l = some x) : mF φ O F H a = F a := by unfold mF; rw [h]; simp only [e]
theorem Bs.map (b : Bs F O H) (φ : Act) : Bs (mF φ O F H) (mO φ O) H := by
  refine ⟨fun a o h => ?_, fun a l h => ?_, fun a l h => ?_⟩
  · cases e : O a with
    | none => rw [mF_none e] at h; exact b.sub a o h
    | some l =>
      cases q : φ l with
      | none => rw [mF_frz e q] at h; exact h
      | some x => rw [mF_keep e q] at h; exact b.sub a o h
  · obtain ⟨l0, h1, h2⟩ := mO_inv h
    rw [mF_keep h1 h2]
    exact b.dis a l0 h1
  · obtain ⟨l0, h1, _⟩ := mO_inv h
    exact b.own a l0 h1
theorem Bs.mapSub (b : Bs F O H) (φ : Act) : Sub F (mF φ O F H) := fun a o h => by
  cases e : O a with
  | none => rw [mF_none e]; exact h
  | some l => rw [b.dis a l e] at h; cases h
/-- what is below k stays -/
def Low (k : Nat) (φ : Act) : Prop := ∀ j c, j < k → φ (.t j c) = some (some (.t j c))
theorem Bs.stp (b : Bs F O H) {k : Nat} (h : Low k φ) : Stp k F O H (mF φ O F H) (mO φ O) H := by
  have key : ∀ a l, Pk k O a → O a = some l → φ l = some (some l) := fun a l p e => by
    cases l with
    | s i c => exact absurd e (p.1 i c)
    | t j c => exact h j c (p.2 j c e)
  refine ⟨b.mapSub φ, fun a o q _ => q, fun a o q p => ?_, fun a o q p n => ?_, fun a o q => ⟨o, q⟩⟩
  · cases e : O a with
    | none => exact mO_none e
    | some l => exact mO_some e (key a l p e)
  · cases e : O a with
    | none => rw [mF_none e]; exact n
    | some l => rw [mF_keep e (key a l p e)]; exact n
theorem RepO.map {l l' : Lab} {d : D} {v : V} (h : RepO ca F H O l d v) (b : Bs F O H) (e : φ l = some (some l')) : RepO ca (mF φ O F H) H (mO φ O) l' d v := by
  cases d with
  | lst t xs =>
    obtain ⟨a, vs, h1, h2, h3, h4, h5⟩ := h
    exact ⟨a, vs, h1, h2, mO_some h3 e, h4, Reps.mono (b.mapSub φ) _ _ h5⟩
  | dic t xs =>
    obtain ⟨a, vs, h1, h2, h3, h4, h5⟩ := h
    exact ⟨a, vs, h1, h2, mO_some h3 e, h4, RepK.mono (b.mapSub φ) _ _ h5⟩
  | obj C fs =>
    obtain ⟨a, dx, vs, h1, h2, h3, h5⟩ := h
    exact ⟨a, dx, vs, h1, h2, mO_some h3 e, RepF.mono (b.mapSub φ) _ _ h5⟩
  | _ => exact Rep.mono (b.mapSub φ) _ _ h
theorem RepO.frz {l : Lab} {d : D} {v : V} (h : RepO ca F H O l d v) (b : Bs F O H) (e : φ l = none) : Rep ca (mF φ O F H) d v := by
  cases d with
  | lst t xs =>
    obtain ⟨a, vs, h1, h2, h3, h4, h5⟩ := h
    unfold Rep
    exact ⟨a, vs, h1, (by rw [mF_frz h3 e]; exact h2), h4, Reps.mono (b.mapSub φ) _ _ h5⟩
  | dic t xs =>
    obtain ⟨a, vs, h1, h2, h3, h4, h5⟩ := h
    unfold Rep
    exact ⟨a, vs, h1, (by rw [mF_frz h3 e]; exact h2), h4, RepK.mono (b.mapSub φ) _ _ h5⟩
  | obj C fs =>
    obtain ⟨a, dx, vs, h1, h2, h3, h5⟩ := h
    unfold Rep
    exact ⟨a, dx, vs, h1, (by rw [mF_frz h3 e]; exact h2), RepF.mono (b.mapSub φ) _ _ h5⟩
  | _ => exact Rep.mono (b.mapSub φ) _ _ h
theorem RepC.map {L L' : Nat → Lab} (b : Bs F O H) (e : ∀ c, φ (L c) = some (some (L' c))) : ∀ {cs : List (Bool × D)} {c : Nat} {vs : List V}, RepC ca F H O L c cs vs → RepC ca (mF φ O F H) H (mO φ O) L' c cs vs
  | [], c, vs, h => by unfold RepC at h ⊢; exact h
  | (true, d) :: r, c, vs, h => by
    unfold RepC at h ⊢
    obtain ⟨v, w, h1, h2, h3⟩ := h
    exact ⟨v, w, h1, h2.map b (e c), RepC.map b e h3⟩
  | (false, d) :: r, c, vs, h => by
    unfold RepC at h ⊢
    obtain ⟨v, w, h1, h2, h3⟩ := h
    exact ⟨v, w, h1, Rep.mono (b.mapSub φ) _ _ h2, RepC.map b e h3⟩
theorem RepC.frz {L : Nat → Lab} (b : Bs F O H) : ∀ {cs : List (Bool × D)} {c : Nat} {vs : List V}, (∀ j, c ≤ j → φ (L j) = none) → RepC ca F H O L c cs vs → Reps ca (mF φ O F H) (cs.map (·.2)) vs
  | [], c, vs, e, h => by unfold RepC at h; subst h; exact .nil
  | (true, d) :: r, c, vs, e, h => by
    unfold RepC at h
    obtain ⟨v, w, h1, h2, h3⟩ := h
    subst h1
    exact .cons (h2.frz b (e c (Nat.le_refl _))) (RepC.frz b (fun j hj => e j (Nat.le_of_succ_le hj)) h3)
  | (false, d) :: r, c, vs, e, h => by
    unfold RepC at h
    obtain ⟨v, w, h1, h2, h3⟩ := h
    subst h1
    exact .cons (Rep.mono (b.mapSub φ) _ _ h2) (RepC.frz b (fun j hj => e j (Nat.le_of_succ_le hj)) h3)
theorem RepR.map {L L' : Nat → Lab} {r : R} {v : V} (h : RepR ca F H O L r v) (b : Bs F O H) (e : ∀ c, φ (L c) = some (some (L' c))) : RepR ca (mF φ O F H) H (mO φ O) L' r v := by
  cases r with
  | sh d => exact Rep.mono (b.mapSub φ) _ _ h
  | ow d => exact RepO.map h b (e 0)
  | tp cs =>
    obtain ⟨a, vs, h1, h2, h3⟩ := h
    exact ⟨a, vs, h1, b.mapSub φ _ _ h2, h3.map b e⟩
theorem RepR.frz {L : Nat → Lab} {r : R} {v : V} (h : RepR ca F H O L r v) (b : Bs F O H) (e : ∀ c, φ (L c) = none) : Rep ca (mF φ O F H) r.d v := by
  cases r with
  | sh d => exact Rep.mono (b.mapSub φ) _ _ h
  | ow d => exact RepO.frz h b (e 0)
  | tp cs =>
    obtain ⟨a, vs, h1, h2, h3⟩ := h
    show Rep ca _ (.tup _) v
    unfold Rep
    exact ⟨a, vs, h1, b.mapSub φ _ _ h2, h3.frz b fun j _ => e j⟩
/-- the slots behind a map that leaves them -/
theorem AE.map {env : En} {σ : L2.St} (h : AE ca F O env σ H) (φ : Act) (e : ∀ i r c, env[i]? = some (some r) → φ (.s i c) = some (some (.s i c))) : AE ca (mF φ O F H) (mO φ O) env σ H :=
  (h.bs.map φ).ae fun i r q => let ⟨v, h1, h2⟩ := h.slot i r q; ⟨v, h1, h2.map h.bs fun c => e i r c q⟩
end
/-! ### results in a row -/
def RepRs (ca : Cs) (F H : Hp) (O : Own) (L : Nat → Nat → Lab) : Nat → List R → List V → Prop
  | _, [], vs => vs = []
  | k, r :: rs, vs => ∃ v w, vs = v :: w ∧ RepR ca F H O (L k) r v ∧ RepRs ca F H O L (k + 1) rs w
section
variable {ca : Cs} {φ : Act} {F F' H H' : Hp} {O O' : Own} {L L' : Nat → Nat → Lab}
theorem RepRs.length : ∀ {rs : List R} {k : Nat} {vs : List V}, RepRs ca F H O L k rs vs → vs.length = rs.length
  | [], k, vs, h => by unfold RepRs at h; subst h; rfl
  | r :: rs, k, vs, h => by
    unfold RepRs at h
    obtain ⟨v, w, h1, h2, h3⟩ := h
    subst h1
    rw [List.length_cons, List.length_cons, RepRs.length h3]
theorem RepRs.get : ∀ {rs : List R} {k : Nat} {vs : List V} {j : Nat} {r : R}, RepRs ca F H O L k rs vs → rs[j]? = some r → ∃ v, vs[j]? = some v ∧ RepR ca F H O (L (k + j)) r v
  | [], k, vs, j, r, h, e => by simp at e
  | r :: rs, k, vs, 0, r', h, e => by
    unfold RepRs at h
    obtain ⟨v, w, h1, h2, h3⟩ := h
    subst h1
    simp at e
    subst e
    exact ⟨v, rfl, h2⟩
  | r :: rs, k, vs, j + 1, r', h, e => by
    unfold RepRs at h
    obtain ⟨v, w, h1, h2, h3⟩ := h
    subst h1
    obtain ⟨v', e1, e2⟩ := RepRs.get (j := j) (r := r') h3 (by simpa using e)
    exact ⟨v', by simpa using e1, by rw [show k + (j + 1) = k + 1 + j by omega]; exact e2⟩
theorem RepRs.map (b : Bs F O H) : ∀ {rs : List R} {k m : Nat} {vs : List V}, (∀ j c, k ≤ j → φ (L j c) = some (some (L' (j - k + m) c))) → RepRs ca F H O L k rs vs → RepRs ca (mF φ O F H) H (mO φ O) L' m rs vs
  | [], k, m, vs, e, h => by unfold RepRs at h ⊢; exact h
  | r :: rs, k, m, vs, e, h => by
    unfold RepRs at h ⊢
    obtain ⟨v, w, h1, h2, h3⟩ := h
    refine ⟨v, w, h1, h2.map b fun c => ?_, RepRs.map b (fun j c hj => ?_) h3⟩
    · have := e k c (Nat.le_refl _)
      rw [show k - k + m = m by omega] at this
      exact this
    · have := e j c (by omega)
      rw [show j - k + m = j - (k + 1) + (m + 1) by omega] at this
      exact this
theorem RepRs.frz (b : Bs F O H) : ∀ {rs : List R} {k : Nat} {vs : List V}, (∀ j c, k ≤ j → φ (L j c) = none) → RepRs ca F H O L k rs vs → Reps ca (mF φ O F H) (rs.map R.d) vs
  | [], k, vs, e, h => by unfold RepRs at h; subst h; exact .nil
  | r :: rs, k, vs, e, h => by
    unfold RepRs at h
    obtain ⟨v, w, h1, h2, h3⟩ := h
    subst h1
    exact .cons (h2.frz b fun c => e k c (Nat.le_refl _)) (RepRs.frz b (fun j c hj => e j c (by omega)) h3)
theorem RepRs.mono : ∀ {rs : List R} {k : Nat} {vs : List V}, RepRs ca F H O L k rs vs → Sub F F' → (∀ j c a o, k ≤ j → O a = some (L j c) → H a = some o → H' a = some o ∧ O' a = some (L j c)) → RepRs ca F' H' O' L k rs vs
  | [], k, vs, h, e, q => by unfold RepRs at h ⊢; exact h
  | r :: rs, k, vs, h, e, q => by
    unfold RepRs at h ⊢
    obtain ⟨v, w, h1, h2, h3⟩ := h
    exact ⟨v, w, h1, h2.mono e fun c a o => q k c a o (Nat.le_refl _), RepRs.mono h3 e fun j c a o hj => q j c a o (by omega)⟩
/-- a temporary behind a step that stands above it -/
theorem RepR.stp {k j : Nat} {r : R} {v : V} (h : RepR ca F H O (.t j) r v) (st : Stp k F O H F' O' H') (hj : j < k) : RepR ca F' H' O' (.t j) r v :=
  h.mono st.ext fun c a o e q => by
    have p : Pk k O a := by
      constructor
      · intro i c' z
        rw [e] at z
        cases z
      · intro i c' z
        rw [e] at z
        cases z
        exact hj
    exact ⟨st.keep a o q p, by rw [st.lab a o q p]; exact e⟩
end
/-! ### a new root -/
def newO (O : Own) (p : Addr) (l : Lab) : Own := fun a => if a = p then some l else O a
section
variable {ca : Cs} {F H : Hp} {O : Own} {p : Addr} {o : HO} {l : Lab}
theorem newO_same : newO O p l p = some l := if_pos rfl
theorem newO_ne {a : Addr} (h : a ≠ p) : newO O p l a = O a := if_neg h
theorem Bs.fr (b : Bs F O H) (h : H p = none) : F p = none ∧ O p = none := by
  constructor
  · cases e : F p with
    | none => rfl
    | some o => rw [b.sub p o e] at h; cases h
  · cases e : O p with
    | none => rfl
    | some l =>
      obtain ⟨o, q⟩ := b.own p l e
      rw [h] at q; cases q
/-- owned -/
theorem Bs.nO (b : Bs F O H) (h : H p = none) : Bs F (newO O p l) (upd H p o) := by
  obtain ⟨n1, n2⟩ := b.fr h
  refine ⟨fun a u e => ?_, fun a m e => ?_, fun a m e => ?_⟩
  · rw [upd_ne (fun z => by subst z; rw [n1] at e; cases e)]
    exact b.sub a u e
  · by_cases ha : a = p
    · subst ha; exact n1
    · rw [newO_ne ha] at e; exact b.dis a m e
  · by_cases ha : a = p
    · subst ha; exact ⟨_, upd_same⟩
    · rw [newO_ne ha] at e
      rw [upd_ne ha]
      exact b.own a m e
theorem Bs.nO_stp (b : Bs F O H) (h : H p = none) (k : Nat) : Stp k F O H F (newO O p l) (upd H p o) := by
  have ne : ∀ {a : Addr} {u : HO}, H a = some u → a ≠ p := fun {a u} e z => by subst z; rw [h] at e; cases e
  exact ⟨Sub.refl _, fun a u e _ => by rw [upd_ne (ne e)]; exact e, fun a u e _ => newO_ne (ne e), fun _ _ _ _ z => z, fun a u e => ⟨u, by rw [upd_ne (ne e)]; exact e⟩⟩
/-- frozen at once -/
theorem Bs.nF (b : Bs F O H) (h : H p = none) : Bs (upd F p o) O (upd H p o) := by
  obtain ⟨n1, n2⟩ := b.fr h
  refine ⟨fun a u e => ?_, fun a m e => ?_, fun a m e => ?_⟩
  · by_cases ha : a = p
    · subst ha; rw [upd_same] at e ⊢; exact e
    · rw [upd_ne ha] at e ⊢; exact b.sub a u e
  · have ha : a ≠ p := fun z => by subst z; rw [n2] at e; cases e
    rw [upd_ne ha]; exact b.dis a m e
  · have ha : a ≠ p := fun z => by subst z; rw [n2] at e; cases e
    rw [upd_ne ha]; exact b.own a m e
theorem Bs.nF_sub (b : Bs F O H) (h : H p = none) : Sub F (upd F p o) := fun a u e => by
  rw [upd_ne (fun z => by subst z; rw [(b.fr h).1] at e; cases e)]; exact e
theorem Bs.nF_stp (b : Bs F O H) (h : H p = none) (k : Nat) : Stp k F O H (upd F p o) O (upd H p o) := by
  have ne : ∀ {a : Addr} {u : HO}, H a = some u → a ≠ p := fun {a u} e z => by subst z; rw [h] at e; cases e
  exact ⟨b.nF_sub h, fun a u e _ => by rw [upd_ne (ne e)]; exact e, fun a u e _ => rfl, fun a u e _ z => by rw [upd_ne (ne e)]; exact z, fun a u e => ⟨u, by rw [upd_ne (ne e)]; exact e⟩⟩
/-- what stood stands behind a heap that only grew -/
theorem RepR.grow {F' H' : Hp} {O' : Own} {L : Nat → Lab} {r : R} {v : V} (h : RepR ca F H O L r v) (e : Sub F F') (k : Sub H H') (q : ∀ a m, O a = some m → O' a = some m) : RepR ca F' H' O' L r v :=
  h.mono e fun c a o z y => ⟨k a o y, q a _ z⟩
theorem AE.grow {F' H' : Hp} {O' : Own} {env : En} {σ : L2.St} (h : AE ca F O env σ H) (b : Bs F' O' H') (e : Sub F F') (k : Sub H H') (q : ∀ a m, O a = some m → O' a = some m) : AE ca F' O' env σ H' :=
  b.ae fun i r z => let ⟨v, h1, h2⟩ := h.slot i r z; ⟨v, h1, h2.grow e k q⟩
theorem sub_upd (h : H p = none) : Sub H (upd H p o) := fun a u e => by
  rw [upd_ne (fun z => by subst z; rw [h] at e; cases e)]; exact e
theorem newO_keep (h : O p = none) : ∀ a m, O a = some m → newO O p l a = some m := fun a m e => by
  rw [newO_ne (fun z => by subst z; rw [h] at e; cases e)]; exact e
end
end FH
set_option Elab.async false
set_option linter.all false
set_option maxRecDepth 100000
set_option maxHeartbeats 2000000
namespace FH
open PySem PySem.Spec PyProof.Rows L2
structure MC where
  N : List Str
  sc : Scope
  fn : Str → Bool
  gs : GX
def gl (c : MC) (x : Str) : Bool := decide (c.sc.names.lookup x = some .globalImplicit) && !(x == "__debug__") && decide (x ≠ "__name__")
def visN (c : MC) (i : Nat) (x : Str) : Bool := decide (c.N[i]? = some x) && !(x == "__debug__") && !(x == "__classdict__") && (match c.sc.names.lookup x with
  | some .local => true | some .cell => true | some .free => true | _ => false)
def locN (c : MC) (i : Nat) (x : Str) : Bool := decide (c.N[i]? = some x) && (match c.sc.names.lookup x with
  | some .local => true | some .cell => c.fn x | _ => false)
def okV : V → Bool
  | .non => true | .bl _ => true | .int _ => true | .str _ => true | _ => false
/-- the forms of expressions that we meet -/
def plain : Expr → Bool
  | .Name _ _ => true | .Constant _ _ _ => true | .BinOp _ _ _ _ => true | .Compare _ _ _ _ => true | .BoolOp _ _ _ => true | .UnaryOp _ _ _ => true
  | .Call (.Name id _) _ _ _ => !(id == "super") | .Call (.Attribute _ _ _) _ _ _ => true
  | .Attribute _ _ _ => true | .Subscript _ _ _ => true | .List _ _ => true | .Tuple _ _ _ => true | .Dict _ _ _ => true | .IfExp _ _ _ _ => true | .ListComp _ _ _ _ => true
  | _ => false
/-- built-in types that are asked for -/
def okTy (y : Str) : Bool := decide (y ∈ (["int", "str", "bool", "list", "tuple", "dict"] : List Str))
/-- an operation: the expressions of its operands -/
def mP (c : MC) : P → Expr → Option (List Expr)
  | .bin op, .BinOp a o b _ => if o = op then some [a, b] else none
  | .cmp op, .Compare a [o] [b] _ => if o = op then some [a, b] else none
  | .neg, .UnaryOp .USub a _ => some [a]
  | .idx, .Subscript a b _ => some [a, b]
  | .sl true true, .Subscript a (.Slice (some l) (some h) none _) _ => some [a, l, h]
  | .sl true false, .Subscript a (.Slice (some l) none none _) _ => some [a, l]
  | .sl false true, .Subscript a (.Slice none (some h) none _) _ => some [a, h]
  | .rv, .Subscript a (.Slice none none (some (.UnaryOp .USub (.Constant (.int 1) _ _) _)) _) _ => some [a]
  | .isi ts, .Call (.Name x _) [a, t] [] _ => if x = "isinstance" && gl c x then (match t with
    | .Name y _ => if gl c y && decide (ts = [y]) && okTy y then some [a] else none
    | .Tuple [.Name y _, .Name z _] _ _ => if gl c y && gl c z && decide (ts = [y, z]) && okTy y && okTy z then some [a] else none
    | _ => none) else none
  | .isc C As, .Call (.Name x _) [a, .Name y _] [] _ => if x = "isinstance" && gl c x && gl c y && y = C && c.gs.isC C && As.all c.gs.isC then some [a] else none
  | .fld C f, .Attribute o g _ => if g = f && c.gs.has C f && plain o then some [o] else none
  | .sp .sset, .Call (.Name x _) [.Call (.Name y _) [a] [] _] [] _ => if x = "sorted" && y = "set" && gl c x && gl c y then some [a] else none
  | .sp .lset, .Call (.Name x _) [.Call (.Name y _) [a] [] _] [] _ => if x = "len" && y = "set" && gl c x && gl c y then some [a] else none
  | .fn f, .Call (.Name x _) args [] _ => if x = f.name && gl c x && decide (args.length = f.arity) then some args else none
  | _, _ => none
def mC (v : V) : Const → Bool
  | .none => decide (v = .non)
  | .bool b => decide (v = .bl b)
  | .int i => decide (v = .int i)
  | .str s => decide (v = .str s)
  | _ => false
def tgSlots : Tg → List Nat
  | .nm i => [i]
  | .tp is => is
def mNames (c : MC) : List Nat → List Expr → Bool
  | [], [] => true
  | i :: is, .Name x _ :: es => locN c i x && mNames c is es
  | _, _ => false
def mTg (c : MC) : Tg → Expr → Bool
  | .nm i, .Name x _ => locN c i x
  | .tp is, .Tuple es _ _ => mNames c is es
  | _, _ => false
def blkMC (c : MC) (scope : Scope) : MC := ⟨c.N, relS scope c.sc, fun x => scope.names.lookup x == some .cell, c.gs⟩
def isTup : Expr → Bool
  | .Tuple _ _ _ => true
  | _ => false
/-- the keys and values of a display in a row -/
def inter : List (Option Expr) → List Expr → Option (List Expr)
  | [], [] => some []
  | some k :: ks, v :: vs => (inter ks vs).map fun r => k :: v :: r
  | _, _ => none
def notMv : T → Bool
  | .mv _ => false
  | _ => true
/-- what may be shared as it is made -/
def isFz : Expr → Bool
  | .List _ _ => true | .Tuple _ _ _ => true | .Dict _ _ _ => true | .Call _ _ _ _ => true | .ListComp _ _ _ _ => true | .Subscript _ _ _ => true | .BinOp _ _ _ _ => true
  | _ => false
/-- what may be read while its owners wait -/
def isBor : Expr → Bool
  | .Call _ _ _ _ => true | .Subscript _ _ _ => true | .Compare _ _ _ _ => true | .Attribute _ _ _ => true | .BinOp _ _ _ _ => true | .ListComp _ _ _ _ => true
  | _ => false
def isLc : Expr → Bool
  | .ListComp _ _ _ _ => true
  | _ => false
def isCompT : T → Bool
  | .comp _ _ _ _ _ => true
  | _ => false
/-- a comprehension's test -/
def condC : T → (Expr → Bool) → List Expr → Bool
  | .nil, _, [] => true
  | .nil, _, _ => false
  | _, f, [x] => f x
  | _, _, _ => false
mutual
def mE (c : MC) : T → Expr → Bool
  | .var i, .Name x _ => visN c i x
  | .mv i, .Name x _ => visN c i x
  | .lit v, .Constant k _ _ => mC v k
  | .glb x v, .Name y _ => decide (x = y) && gl c x && decide ((x, v) ∈ c.gs.vs) && okV v
  | .prim p es, x => (match mP c p x with
    | some xs => plain x && mA c es xs
    | none => false)
  | .mth m e es, .Call (.Attribute o x ap) args [] cp => decide (x = m.name) && (ap.endLine == cp.line) && decide (args.length < 20) && plain o && mE c e o && mA c es args && decide (0 < args.length) && notMv e
  | .call f es, .Call (.Name x _) args [] _ => decide (x = f) && gl c x && !(x == "super") && mA c es args && (cm f).isNone
  | .mk x es, .Call (.Name y _) args [] _ => (match cm x with
    | some (C, m) => decide (y = C) && decide (m = "__init__")
    | none => false) && gl c y && mA c es args
  | .om x e es, .Call (.Attribute o y ap) args [] cp => (match cm x with
    | some (_, m) => decide (y = m)
    | none => false) && (ap.endLine == cp.line) && decide (args.length < 20) && plain o && mE c e o && mA c es args && notMv e
  | .lst es, .List xs _ => decide (xs.length ≤ 1000) && mA c es xs
  | .tup es, .Tuple xs _ _ => decide (xs.length ≤ 1000) && mA c es xs
  | .dic es, .Dict keys values _ => (match inter keys values with
    | some xs => decide (keys.length ≤ 15) && mA c es xs
    | none => false)
  | .one a, .BoolOp _ [x] _ => mE c a x
  | .frz a, x => isFz x && mE c a x
  | .bor a, x => isBor x && (isCompT a || !isLc x) && mE c a x
  | .and a b, .BoolOp .And (x :: y :: r) p => mE c a x && mE c b (.BoolOp .And (y :: r) p)
  | .or a b, .BoolOp .Or (x :: y :: r) p => mE c a x && mE c b (.BoolOp .Or (y :: r) p)
  | .not a, .UnaryOp .Not x _ => mE c a x
  | .ite t a b, .IfExp x y z _ => mE c t x && mE c a y && mE c b z
  | .chain p q a b d, .Compare x [o, o'] [y, z] _ => decide (o = p) && decide (o' = q) && mE c a x && mE c b y && mE c d z && plain z
  | .comp own elt tg src cond, .ListComp e [⟨tx, it, ifs, n⟩] scope _ => decide (n = 0) && mI c src tx it && blkC c.N c.sc scope own && mTg (blkMC c scope) tg tx && (tgSlots tg).all (fun i => decide (i ∈ own.map (·.2))) &&
      mE (blkMC c scope) elt e && condC cond (mE (blkMC c scope) cond) ifs
  | _, _ => false
def mA (c : MC) : T → List Expr → Bool
  | .nil, [] => true
  | .cons e es, x :: xs => plain x && mE c e x && mA c es xs
  | .late i es, .Name x _ :: xs => visN c i x && mA c es xs
  | _, _ => false
def mI (c : MC) : T → Expr → Expr → Bool
  | .sval e, _, x => plain x && mE c e x
  | .srng es, _, .Call (.Name x _) args [] _ => decide (x = "range") && gl c x && mA c es args && (decide (args.length = 1) || decide (args.length = 2))
  | .senum e, t, .Call (.Name x _) [a] [] _ => decide (x = "enumerate") && gl c x && mE c e a && plain a && isTup t
  | .szip es, t, .Call (.Name x _) args [] _ => decide (x = "zip") && gl c x && mA c es args && decide (args.length = 2) && isTup t
  | _, _, _ => false
end
/-- statements; io: the slots that are never stored -/
def lcOk0 (c : MC) (x : Str) (xp : Pos) : Expr → Bool
  | .ListComp _ _ sc' yp => (xp.line == yp.line) && !(sc'.names.any fun (n, k) => n == x && (k == .local || k == .cell)) && decide (c.sc.names.lookup x = some .local) && (match c.sc.kind with | .function => true | _ => false)
  | _ => true
def lcOk (c : MC) (x : Str) (xp : Pos) (y : Expr) : Bool := lcOk0 c x xp y || decide (c.sc.names.lookup x = some .cell)
def isSrc : Expr → Bool
  | .Call _ _ _ _ => true | .Name _ _ => true | .Subscript _ _ _ => true | _ => false
/-- a target that a comprehension holds -/
def cellAny (c : MC) : List Expr → Bool
  | [] => false
  | .Name x _ :: ts => decide (c.sc.names.lookup x = some .cell) || cellAny c ts
  | _ :: ts => cellAny c ts
def unpOk (c : MC) (ts : List Expr) (y : Expr) : Bool := isSrc y || (isTup y && cellAny c ts)
def parOk (c : MC) (x y : Str) (xp yp : Pos) (a b : Expr) : Bool :=
  decide (c.sc.names.lookup x = some .local) && decide (c.sc.names.lookup y = some .local) && (match c.sc.kind with | .function => true | _ => false) && (yp.line == xp.line) && !(foldedForSure 8 a && foldedForSure 8 b) && !(constantsAlone 8 a && constantsAlone 8 b)
mutual
def mS (c : MC) (io : List Nat) : S → Stmt → Bool
  | .expr e, .Expr x _ => plain x && mE c e x && !isLc x
  | .asg i e, .Assign [.Name x xp] y _ => locN c i x && plain y && mE c e y && decide (i ∉ io) && lcOk c x xp y
  | .unp is e, .Assign [.Tuple ts _ _] y _ => mNames c is ts && mE c e y && is.all (fun i => decide (i ∉ io)) && unpOk c ts y
  | .par i j es, .Assign [.Tuple [.Name x xp, .Name y yp] _ _] (.Tuple [a, b] _ _) _ => locN c i x && locN c j y && decide (i ≠ j) && mA c es [a, b] && decide (i ∉ io) && decide (j ∉ io) && parOk c x y xp yp a b
  | .setx i ix e, .Assign [.Subscript (.Name x _) k _] y _ => visN c i x && plain k && plain y && !isLc y && mE c ix k && mE c e y
  | .setf i C f e, .Assign [.Attribute (.Name x _) g _] y _ => visN c i x && decide (g = f) && c.gs.has C f && plain y && !isLc y && mE c e y
  | .app i e, .Expr (.Call (.Attribute (.Name x _) m ap) [y] [] cp) _ => visN c i x && plain y && decide (m = "append") && (ap.endLine == cp.line) && mE c e y
  | .ext i e, .Expr (.Call (.Attribute (.Name x _) m ap) [y] [] cp) _ => visN c i x && plain y && decide (m = "extend") && (ap.endLine == cp.line) && mE c e y
  | .rem i e, .Expr (.Call (.Attribute (.Name x _) m ap) [y] [] cp) _ => visN c i x && plain y && decide (m = "remove") && (ap.endLine == cp.line) && mE c e y
  | .ifs t a b, .If x ys zs _ => mE c t x && mSs c io a ys && mSs c io b zs
  | .for tg src body, .For tx it ys [] _ => mI c src tx it && mTg c tg tx && (tgSlots tg).all (fun i => decide (i ∉ io)) && mSs c io body ys
  | .while _ t body, .While x ys [] _ => mE c t x && mSs c io body ys
  | .ret e, .Return (some x) _ => mE c e x
  | .ret0, .Return none _ => true
  | .brk, .Break _ => true
  | .cont, .Continue _ => true
  | .dead, _ => true
  | _, _ => false
def mSs (c : MC) (io : List Nat) : S → List Stmt → Bool
  | .nil, [] => true
  | .seq s r, x :: xs => mS c io s x && mSs c io r xs
  | .dead, _ => true
  | _, _ => false
end
end FH
set_option Elab.async false
set_option linter.all false
set_option maxRecDepth 100000
set_option maxHeartbeats 2000000
namespace FH
open PySem PySem.Spec PyProof.Rows L2
/-! ### wishes -/
def PostG (ca : Cs) (W : WX) (σ : L2.St) (k : Nat) (F : Hp) (O : Own) (H : Hp) {α : Type} (m : M α) (C : α → Hp → Own → Hp → Prop) : Prop := match m with
  | .ok a => ∀ F' O' H', Stp k F O H F' O' H' → C a F' O' H'
  | .ex c d => ∀ dx v n F' O' H', Stp k F O H F' O' H' → Bs F' O' H' → H' dx = some (.xd [(n, v)]) → Rep ca F' d v → W (.ref (ca.ad c)) (some dx) σ H'
  | .no => False
section
variable {ca : Cs} {W : WX} {σ : L2.St} {k : Nat} {F : Hp} {O : Own} {H : Hp} {α β : Type} {m : M α} {f : α → M β}
theorem PostG.bind {C : β → Hp → Own → Hp → Prop} (h : PostG ca W σ k F O H (m.bind f) C) : PostG ca W σ k F O H m fun a F1 O1 H1 => PostG ca W σ k F1 O1 H1 (f a) C := by
  cases m with
  | ok a =>
    intro F1 O1 H1 st
    have h2 : PostG ca W σ k F O H (f a) C := h
    cases e : f a with
    | ok b =>
      rw [e] at h2
      exact fun F2 O2 H2 st2 => h2 F2 O2 H2 (st.trans st2)
    | ex c d =>
      rw [e] at h2
      exact fun dx v n F2 O2 H2 st2 => h2 dx v n F2 O2 H2 (st.trans st2)
    | no =>
      rw [e] at h2
      exact h2
  | ex c d => exact h
  | no => exact h
theorem PostG.lift {C : α → Hp → Own → Hp → Prop} {j : Nat} (h : PostG ca W σ k F O H m C) (e : k ≤ j) : PostG ca W σ j F O H m C := by
  cases m with
  | ok a => exact fun F1 O1 H1 st => h F1 O1 H1 (st.mono e)
  | ex c d => exact fun dx v n F1 O1 H1 st => h dx v n F1 O1 H1 (st.mono e)
  | no => exact h
theorem PostG.imp {C C' : α → Hp → Own → Hp → Prop} (h : PostG ca W σ k F O H m C) (i : ∀ a F' O' H', Stp k F O H F' O' H' → C a F' O' H' → C' a F' O' H') : PostG ca W σ k F O H m C' := by
  cases m with
  | ok a => exact fun F1 O1 H1 st => i a F1 O1 H1 st (h F1 O1 H1 st)
  | ex c d => exact h
  | no => exact h
theorem PostG.here {C : α → Hp → Own → Hp → Prop} {a : α} (h : PostG ca W σ k F O H (.ok a) C) : C a F O H := h F O H (.refl _ _ _ _)
end
/-- the lent slots hold the very values -/
def Lnk (lk : List (Option Nat)) (σ : L2.St) (vs : List V) : Prop := ∀ (j i : Nat), lk[j]? = some (some i) → ∃ v, vs[j]? = some v ∧ σ[i]? = some (some v)
def CE (ca : Cs) (σ : L2.St) (k : Nat) (Q : VK) : R × En → Hp → Own → Hp → Prop := fun p F O H => ∀ v, AE ca F O p.2 σ H → RepR ca F H O (.t k) p.1 v → Below O (k + 1) → Q v H
def CA (ca : Cs) (σ : L2.St) (k : Nat) (Q : List V → Hp → Prop) : List R × En → Hp → Own → Hp → Prop := fun p F O H => ∀ vs, AE ca F O p.2 σ H → RepRs ca F H O Lab.t k p.1 vs → Below O (k + p.1.length) → Q vs H
def CB (ca : Cs) (σ : L2.St) (k : Nat) (Q : Bool → Hp → Prop) : Bool × En → Hp → Own → Hp → Prop := fun p F O H => AE ca F O p.2 σ H → Below O k → Q p.1 H
def evB (Φ : FT) (e : T) (env : En) : M (Bool × En) := (one1 (ev Φ e env)).bind fun (r, env1) => (asB r).bind fun t => .ok (t, env1)
section
variable (ca : Cs) (Φ : FT) (W : WX)
def tE (e : T) : TE := fun σ H Q => ∃ F O env k, AE ca F O env σ H ∧ Below O k ∧ PostG ca W σ k F O H (one1 (ev Φ e env)) (CE ca σ k Q)
def tT (e : T) : TT := fun σ H Q => ∃ F O env k, AE ca F O env σ H ∧ Below O k ∧ PostG ca W σ k F O H (evB Φ e env) (CB ca σ k Q)
def tA (es : T) : TA := fun σ H Q => ∃ F O env k, AE ca F O env σ H ∧ Below O k ∧ PostG ca W σ k F O H (ev Φ es env) (CA ca σ k Q)
end
theorem peImp {X : Cx} {x : Expr} {t t' : TE} (h : PE X x t) (i : ∀ σ H Q, t' σ H Q → t σ H Q) : PE X x t' := ⟨fun pins s σ H Q I q => h.run pins s σ H Q I (i σ H Q q)⟩
theorem ptImp {X : Cx} {x : Expr} {t t' : TT} (h : PT X x t) (i : ∀ σ H Q, t' σ H Q → t σ H Q) : PT X x t' := ⟨fun pins s σ H Q I q => h.run pins s σ H Q I (i σ H Q q)⟩
/-- a reading closed under weaker wishes -/
def mono (t : TE) : TE := fun σ H Q => ∃ Q0 : VK, t σ H Q0 ∧ ∀ v H', Q0 v H' → Q v H'
theorem peMono {X : Cx} {x : Expr} {t : TE} (h : PE X x t) : PE X x (mono t) := by
  constructor
  intro pins s σ H Q I q
  obtain ⟨Q0, q0, i⟩ := q
  refine thn (h.run pins s σ H Q0 I q0) ?_
  rintro u s' ⟨v, H', I', r, z⟩
  exact ⟨v, H', I', r, i v H' z⟩
/-- a row of readings -/
def seqT : List TE → TA
  | [] => tNil
  | t :: ts => tCons t (seqT ts)
inductive PEs (X : Cx) : List Expr → List TE → Prop where
  | nil : PEs X [] []
  | cons {x : Expr} {t : TE} {xs : List Expr} {ts : List TE} : PE X x t → PEs X xs ts → PEs X (x :: xs) (t :: ts)
theorem star_plain {e : Expr} {es : List Expr} {env : Env} (h : plain e = true) : starEach (e :: es) env = (false, eval e env) :: starEach es env := by
  cases e <;> first | rfl | (unfold plain at h; cases h)
/-- all are plain -/
def plains : List Expr → Bool
  | [] => true
  | x :: xs => plain x && plains xs
theorem star_plains {env : Env} {pos : Pos} : ∀ {es : List Expr}, plains es = true → (backTo pos (starEach es env)).any (·.1) = false
  | [], _ => rfl
  | e :: es, h => by
    unfold plains at h
    simp only [Bool.and_eq_true] at h
    rw [star_plain h.1]
    have ih := star_plains (env := env) (pos := pos) h.2
    show (false || (backTo pos (starEach es env)).any (·.1)) = false
    rw [ih] <;> rfl
theorem PEs.pa {X : Cx} {xs : List Expr} {ts : List TE} (h : PEs X xs ts) (hp : plains xs = true) : PA X xs (seqT ts) := by
  induction h with
  | nil => exact pa_nil
  | cons h1 h2 ih =>
    unfold plains at hp
    simp only [Bool.and_eq_true] at hp
    exact pa_cons h1 (ih hp.2) (star_plain hp.1)
/-! ### what the context gives -/
structure RoomG (k : Nat) (A : Around) : Prop where
  room : Room k A
  gd : A.guards = some []
/-- a def's promise, no guard around -/
structure FnG (P : Program) (w : World) (K : PySem.W.Frag) (mg : Str → Option Value) (base : Heap) (k : Nat) (f : Addr) (fd : FuncData) (ps : List Str) (sp : Sp) : Prop where
  len : ∀ vs H Q E, sp vs H Q E → vs.length = ps.length
  run : ∀ (A : Around) (outer : List Env) (s : Shared) (H : Hp) (args : Args) (us : List Value) (vs : List V) (Q : VK) (E : XK), RoomG k A → Env0 P w K mg base A outer s H → BindsTo s fd args (ps.zip us) → Vals vs us → sp vs H Q E →
    codeAny (model P w) A (.call (.ref f) args) (CR (L2.CX P w) outer P w H s Q E) s
/-- the promise of a pure function -/
def spD (ca : Cs) (g : Sem1) : Sp := fun vs H Q E => ∃ F O rs, Bs F O H ∧ (∀ a l, O a = some l → ∃ i c, l = .s i c) ∧ RepRs ca F H O Lab.s 0 rs vs ∧
  (match g rs with
  | .ok (r, outs) => ∀ v F' O' H', Stp 0 F O H F' O' H' → Bs F' O' H' → RepR ca F' H' O' (.t 0) r v → (∀ j r', outs[j]? = some (some r') → ∃ v', vs[j]? = some v' ∧ RepR ca F' H' O' (.s j) r' v') → Q v H'
  | .ex c d => ∀ dx v n F' O' H', Stp 0 F O H F' O' H' → Bs F' O' H' → H' dx = some (.xd [(n, v)]) → Rep ca F' d v → E (.ref (ca.ad c)) (some dx) H'
  | .no => False)
def bnames : List Str := ["len", "int", "str", "repr", "list", "tuple", "sum", "all", "any", "sorted", "max", "min", "dict", "range", "enumerate", "zip", "isinstance", "set", "bool"]
structure Good (X : Cx) (ca : Cs) (Φ : FT) (gs : GX) (W : WX) : Prop where
  calm : X.calm = true
  nd : X.N.Nodup
  room : RoomG 1 X.A
  tk : Takes X W
  un : ∀ x, x ∈ bnames → X.mg x = none
  gv : ∀ p, p ∈ gs.vs → ∃ u, X.mg p.1 = some u ∧ RelV p.2 u
  ic : ∀ C, gs.isC C = true → L2.Cls X.K (ca.ad C) ∧ OwnI X.K (ca.ad C) ∧ ownKit X.K (ca.ad C) = true ∧ X.mg C = some (.ref (ca.ad C)) ∧ ∀ A, gs.isC A = true → PySem.W.kitOne X.K (.ref (ca.ad A)) (.ref (ca.ad C)) = some (decide (A = C))
  cl : ∀ C f, gs.has C f = true → L2.Cls X.K (ca.ad C) ∧ NoAttr X.K (ca.ad C) f
  fn : ∀ x g, cm x = none → Φ x = some g → ∃ k f fd ps, FnG X.prog X.w X.K X.mg X.base k f fd ps (spD ca g) ∧ RoomG k X.A ∧ X.mg x = some (.ref f) ∧ PySem.W.keepIn X.K (.ref f) = true ∧ Binds X.K fd ps []
  ini : ∀ x g C, cm x = some (C, ("__init__" : Str)) → Φ x = some g → ∃ k f fd ps, FnG X.prog X.w X.K X.mg X.base k f fd ps (spD ca g) ∧ RoomG (k + 1) X.A ∧ L2.Mk X.K (ca.ad C) f ∧ X.mg C = some (.ref (ca.ad C)) ∧ Binds X.K fd ps []
  mt : ∀ x g C m, cm x = some (C, m) → Φ x = some g → ∃ k f fd ps, FnG X.prog X.w X.K X.mg X.base k f fd ps (spD ca g) ∧ RoomG k X.A ∧ Meth X.K (ca.ad C) m f ∧ L2.Cls X.K (ca.ad C) ∧ Binds X.K fd ps []
abbrev cOf (X : Cx) (gs : GX) : MC := ⟨X.N, X.env.scope, X.fn, gs⟩
section
variable {X : Cx} {ca : Cs} {Φ : FT} {gs : GX} {W : WX} {x : Expr}
theorem visN_ok {i : Nat} {x : Str} (h : visN (cOf X gs) i x = true) : X.N[i]? = some x ∧ Vis X.env.scope x ∧ (x == ("__debug__" : Str)) = false ∧ (x == ("__classdict__" : Str)) = false := by
  unfold visN at h
  simp only [Bool.and_eq_true, decide_eq_true_eq, Bool.not_eq_true'] at h
  obtain ⟨⟨⟨h1, h2⟩, h3⟩, h4⟩ := h
  refine ⟨h1, ?_, h2, h3⟩
  unfold Vis
  revert h4
  cases X.env.scope.names.lookup x with
  | none => intro h4; cases h4
  | some k => cases k <;> intro h4 <;> first | (cases h4; done) | exact Or.inl rfl | exact Or.inr (Or.inl rfl) | exact Or.inr (Or.inr rfl)
theorem gl_ok {x : Str} (h : gl (cOf X gs) x = true) : Gl X x ∧ (x == ("__debug__" : Str)) = false ∧ x ≠ "__name__" := by
  unfold gl at h
  simp only [Bool.and_eq_true, decide_eq_true_eq, Bool.not_eq_true'] at h
  exact ⟨h.1.1, h.1.2, h.2⟩
theorem locN_ok {i : Nat} {x : Str} (h : locN (cOf X gs) i x = true) : X.N[i]? = some x ∧ L2.Loc X.env.scope x ∧ (X.fn x = true ∨ X.env.scope.names.lookup x = some .local) := by
  unfold locN at h
  simp only [Bool.and_eq_true, decide_eq_true_eq] at h
  obtain ⟨h1, h4⟩ := h
  refine ⟨h1, ?_⟩
  unfold L2.Loc
  revert h4
  cases X.env.scope.names.lookup x with
  | none => intro h4; cases h4
  | some k => cases k <;> intro h4 <;> first | (cases h4; done) | exact ⟨Or.inl rfl, Or.inr rfl⟩ | exact ⟨Or.inr rfl, Or.inl h4⟩
theorem getS_ok {env : En} {i : Nat} {r : R} (h : env[i]? = some (some r)) : getS env i = .ok r := by unfold getS; rw [h]
theorem getS_cases (env : En) (i : Nat) : (∃ r, env[i]? = some (some r) ∧ getS env i = .ok r) ∨ getS env i = .no := by
  unfold getS
  cases env[i]? with
  | none => exact .inr rfl
  | some o => cases o with
    | none => exact .inr rfl
    | some r => exact .inl ⟨r, rfl, rfl⟩
/-! the maps of a slot -/
def aFz (i : Nat) : Act := fun l => match l with
  | .s j c => if j = i then none else some (some (.s j c))
  | .t j c => some (some (.t j c))
def aMv (i k : Nat) : Act := fun l => match l with
  | .s j c => if j = i then some (some (.t k c)) else some (some (.s j c))
  | .t j c => some (some (.t j c))
theorem aFz_low (i k : Nat) : Low k (aFz i) := fun _ _ _ => rfl
theorem aMv_low (i k : Nat) : Low k (aMv i k) := fun _ _ _ => rfl
theorem below_map {O : Own} {φ : Act} {k : Nat} (h : Below O k) (e : ∀ l j c, φ l = some (some (.t j c)) → (∃ j' c', l = .t j' c' ∧ j' < k → j < k) ∨ j < k) : True := trivial
theorem set_slot {env : En} {i : Nat} {o : Option R} {j : Nat} {r : R} (h : (env.set i o)[j]? = some (some r)) : (j = i ∧ o = some r) ∨ (j ≠ i ∧ env[j]? = some (some r)) := by
  by_cases hj : i = j
  · subst hj
    by_cases hl : i < env.length
    · rw [List.getElem?_set_self hl] at h
      exact .inl ⟨rfl, Option.some.inj h⟩
    · rw [List.getElem?_eq_none (by simpa using hl)] at h
      cases h
  · rw [List.getElem?_set_ne hj] at h
    exact .inr ⟨fun e => hj e.symm, h⟩
theorem snd_var (G : Good X ca Φ gs W) {i : Nat} {y : Str} {pos : Pos} (h : visN (cOf X gs) i y = true) : PE X (.Name y pos) (tE ca Φ W (.var i)) := by
  obtain ⟨h1, h2, h3, h4⟩ := visN_ok h
  refine peImp (pe_var h1 h2 h3 h4) fun σ H Q q => ?_
  obtain ⟨F, O, env, k, ae, bl, p⟩ := q
  rcases getS_cases env i with ⟨r, e1, e2⟩ | e2
  · have p2 : PostG ca W σ k F O H (.ok (sh1 r, env.set i (some (sh1 r)))) (CE ca σ k Q) := by
      have e3 : one1 (ev Φ (.var i) env) = .ok (sh1 r, env.set i (some (sh1 r))) := by unfold ev; rw [e2]; rfl
      rw [e3] at p; exact p
    obtain ⟨v, s1, s2⟩ := ae.slot i r e1
    refine ⟨v, s1, ?_⟩
    have hr : Rep ca (mF (aFz i) O F H) r.d v := s2.frz ae.bs fun c => if_pos rfl
    refine p2 _ _ _ (ae.bs.stp (aFz_low i k)) v ?_ hr ?_
    · refine (ae.bs.map _).ae fun j r' e => ?_
      have e' : (env.set i (some (sh1 r)))[j]? = some (some r') := e
      rcases set_slot e' with ⟨rfl, e5⟩ | ⟨ne, e5⟩
      · cases e5
        exact ⟨v, s1, hr⟩
      · obtain ⟨w, w1, w2⟩ := ae.slot j r' e5
        exact ⟨w, w1, w2.map ae.bs fun c => if_neg ne⟩
    · intro a j c z
      obtain ⟨l, l1, l2⟩ := mO_inv z
      cases l with
      | s i' c' =>
        exfalso
        unfold aFz at l2
        simp only at l2
        split at l2 <;> cases l2
      | t j' c' =>
        cases l2
        exact Nat.lt_succ_of_lt (bl a j c l1)
  · have e3 : one1 (ev Φ (.var i) env) = .no := by unfold ev; rw [e2]; rfl
    rw [e3] at p
    exact p.elim
theorem snd_mv (G : Good X ca Φ gs W) {i : Nat} {y : Str} {pos : Pos} (h : visN (cOf X gs) i y = true) : PE X (.Name y pos) (fun σ H Q => tE ca Φ W (.mv i) σ H fun v H' => σ[i]? = some (some v) → Q v H') := by
  obtain ⟨h1, h2, h3, h4⟩ := visN_ok h
  refine peImp (pe_var h1 h2 h3 h4) fun σ H Q q => ?_
  obtain ⟨F, O, env, k, ae, bl, p⟩ := q
  rcases getS_cases env i with ⟨r, e1, e2⟩ | e2
  · have e3 : one1 (ev Φ (.mv i) env) = .ok (r, env.set i none) := by unfold ev; rw [e2]; rfl
    rw [e3] at p
    obtain ⟨v, s1, s2⟩ := ae.slot i r e1
    refine ⟨v, s1, ?_⟩
    refine p _ _ _ (ae.bs.stp (aMv_low i k)) v ?_ (s2.map ae.bs fun c => if_pos rfl) ?_ s1
    · refine (ae.bs.map _).ae fun j r' e => ?_
      have e' : (env.set i none)[j]? = some (some r') := e
      rcases set_slot e' with ⟨rfl, e5⟩ | ⟨ne, e5⟩
      · cases e5
      · obtain ⟨w, w1, w2⟩ := ae.slot j r' e5
        exact ⟨w, w1, w2.map ae.bs fun c => if_neg ne⟩
    · intro a j c z
      obtain ⟨l, l1, l2⟩ := mO_inv z
      cases l with
      | s i' c' =>
        unfold aMv at l2
        simp only at l2
        split at l2
        · cases l2; exact Nat.lt_succ_self _
        · cases l2
      | t j' c' =>
        cases l2
        exact Nat.lt_succ_of_lt (bl a j c l1)
  · have e3 : one1 (ev Φ (.mv i) env) = .no := by unfold ev; rw [e2]; rfl
    rw [e3] at p
    exact p.elim
theorem rep_dV {F : Hp} {v : V} (h : okV v = true) : Rep ca F (dV v) v := by
  cases v <;> first | (unfold okV at h; cases h; done) | (unfold dV Rep; rfl)
theorem snd_flat {v : V} {e : T} (h : okV v = true) (he : ∀ env, ev Φ e env = .ok ([.sh (dV v)], env)) (p : PE X x (tC v)) : PE X x (tE ca Φ W e) := by
  refine peImp p fun σ H Q q => ?_
  obtain ⟨F, O, env, k, ae, bl, p⟩ := q
  rw [he] at p
  exact p _ _ _ (.refl _ _ _ _) v ae (rep_dV h) fun a j c z => Nat.lt_succ_of_lt (bl a j c z)
theorem snd_lit {v : V} {c : Const} {n : Nat} {pos : Pos} (h : mC v c = true) : PE X (.Constant c n pos) (tE ca Φ W (.lit v)) := by
  cases c <;> first
    | (unfold mC at h; cases h; done)
    | (unfold mC at h; have e := of_decide_eq_true h; subst e; exact snd_flat rfl (fun _ => rfl) (by first | exact pe_int | exact pe_bl | exact pe_non | exact pe_str))
theorem snd_glb (G : Good X ca Φ gs W) {y : Str} {v : V} {pos : Pos} (h1 : gl (cOf X gs) y = true) (h2 : (y, v) ∈ gs.vs) (h3 : okV v = true) : PE X (.Name y pos) (tE ca Φ W (.glb y v)) := by
  obtain ⟨g1, g2, _⟩ := gl_ok h1
  obtain ⟨u, m, r⟩ := G.gv _ h2
  exact snd_flat h3 (fun _ => rfl) (pe_glob g1 m r g2)
/-- argument lists -/
theorem one1_inv {m : M (List R × En)} : (∃ r env, m = .ok ([r], env) ∧ one1 m = .ok (r, env)) ∨ (∃ c d, m = .ex c d ∧ one1 m = .ex c d) ∨ one1 m = .no := by
  cases m with
  | ok p =>
    obtain ⟨rs, env⟩ := p
    match rs with
    | [] => exact .inr (.inr rfl)
    | [r] => exact .inl ⟨r, env, rfl, rfl⟩
    | _ :: _ :: _ => exact .inr (.inr rfl)
  | ex c d => exact .inr (.inl ⟨c, d, rfl, rfl⟩)
  | no => exact .inr (.inr rfl)
/-- one more argument: te is its reading, which may tell more of its value (Z) -/
theorem cons_imp {e es : T} {te : TE} {tr : TA} {Z : L2.St → V → Prop} {Y Y' : L2.St → List V → Prop} (h1 : ∀ σ H Q, (tE ca Φ W e σ H fun v H' => Z σ v → Q v H') → te σ H Q) (h2 : ∀ σ H Q, (tA ca Φ W es σ H fun vs H' => Y σ vs → Q vs H') → tr σ H Q)
    (hz : ∀ σ v vs, Z σ v → Y σ vs → Y' σ (v :: vs)) :
    ∀ σ H Q, (tA ca Φ W (.cons e es) σ H fun vs H' => Y' σ vs → Q vs H') → tCons te tr σ H Q := by
  intro σ H Q q
  obtain ⟨F, O, env, k, ae, bl, p⟩ := q
  refine h1 _ _ _ ⟨F, O, env, k, ae, bl, ?_⟩
  have e3 : ev Φ (.cons e es) env = (one1 (ev Φ e env)).bind fun (r, env1) => (ev Φ es env1).bind fun (rs, env2) => .ok (r :: rs, env2) := rfl
  rw [e3] at p
  refine p.bind.imp fun a F1 O1 H1 st1 p1 v ae1 rv bl1 z => ?_
  refine h2 _ _ _ ⟨F1, O1, a.2, k + 1, ae1, bl1, ?_⟩
  refine (p1.bind.lift (Nat.le_succ k)).imp fun b F2 O2 H2 st2 p2 vs ae2 rvs bl2 lk => ?_
  refine p2.here (v :: vs) ae2 ⟨v, vs, rfl, rv.stp st2 (Nat.lt_succ_self k), rvs⟩ ?_ (hz _ _ _ z lk)
  intro a' j c y
  have := bl2 a' j c y
  simp only [List.length_cons]
  omega
/-- a fit argument list -/
def ArgOk (X : Cx) (ca : Cs) (Φ : FT) (W : WX) (es : T) (xs : List Expr) : Prop := ∃ ts, PEs X xs ts ∧ ∀ σ H Q, (tA ca Φ W es σ H fun vs H' => Lnk (bkOf es) σ vs ∧ vs.length = xs.length → Q vs H') → seqT ts σ H Q
theorem below_bl0 {O : Own} {k : Nat} (h : Below O k) : Below O (k + 1) := fun a j c z => Nat.lt_succ_of_lt (h a j c z)
theorem args_nil : ArgOk X ca Φ W .nil [] := by
  refine ⟨[], .nil, fun σ H Q q => ?_⟩
  obtain ⟨F, O, env, k, ae, bl, p⟩ := q
  have p2 : PostG ca W σ k F O H (.ok ([], env)) _ := p
  refine p2.here [] ae rfl (fun a j c z => bl a j c z) ⟨fun j i z => ?_, rfl⟩
  have z' : ([] : List (Option Nat))[j]? = some (some i) := z
  simp at z'
theorem args_cons (G : Good X ca Φ gs W) {e es : T} {xs : List Expr} (h1 : PE X x (tE ca Φ W e)) (h2 : ArgOk X ca Φ W es xs) (hm : mE (cOf X gs) e x = true) : ArgOk X ca Φ W (.cons e es) (x :: xs) := by
  obtain ⟨ts, p, i⟩ := h2
  by_cases hv : ∃ n, e = .mv n
  · obtain ⟨n, rfl⟩ := hv
    cases x <;> first
      | (unfold mE at hm; cases hm; done)
      | skip
    rename_i y pos
    have hm' : visN (cOf X gs) n y = true := by unfold mE at hm; exact hm
    refine ⟨_, .cons (snd_mv G hm') p, ?_⟩
    refine cons_imp (Z := fun σ v => σ[n]? = some (some v)) (Y := fun σ vs => Lnk (bkOf es) σ vs ∧ vs.length = xs.length) (Y' := fun σ vs => Lnk (bkOf (.cons (.mv n) es)) σ vs ∧ vs.length = xs.length + 1) (fun σ H Q q => q) i fun σ v vs z y => ⟨fun j i' q => ?_, by rw [List.length_cons, y.2]⟩
    cases j with
    | zero =>
      have q' : some (some n) = some (some i') := q
      cases q'
      exact ⟨v, rfl, z⟩
    | succ j => exact y.1 j i' q
  · refine ⟨_, .cons h1 p, ?_⟩
    refine cons_imp (Z := fun _ _ => True) (Y := fun σ vs => Lnk (bkOf es) σ vs ∧ vs.length = xs.length) (Y' := fun σ vs => Lnk (bkOf (.cons e es)) σ vs ∧ vs.length = xs.length + 1) (fun σ H Q q => ?_) i fun σ v vs z y => ⟨fun j i' q => ?_, by rw [List.length_cons, y.2]⟩
    · obtain ⟨F, O, env, k, ae, bl, p⟩ := q
      exact ⟨F, O, env, k, ae, bl, p.imp fun a F1 O1 H1 _ h v h1 h2 h3 => h v h1 h2 h3 trivial⟩
    · have eb : bkOf (.cons e es) = none :: bkOf es := by
        cases e <;> first
          | rfl
          | exact absurd ⟨_, rfl⟩ hv
      rw [eb] at q
      cases j with
      | zero => cases q
      | succ j => exact y.1 j i' q
/-- a slot that is lent once the other arguments stand -/
theorem args_late (G : Good X ca Φ gs W) {i : Nat} {es : T} {y : Str} {pos : Pos} {xs : List Expr} (h2 : ArgOk X ca Φ W es xs) (hm : visN (cOf X gs) i y = true) : ArgOk X ca Φ W (.late i es) (.Name y pos :: xs) := by
  obtain ⟨ts, p, im⟩ := h2
  obtain ⟨n1, n2, n3, n4⟩ := visN_ok hm
  refine ⟨_, .cons (pe_var n1 n2 n3 n4) p, fun σ H Q q => ?_⟩
  obtain ⟨F, O, env, k, ae, bl, p⟩ := q
  have e3 : ev Φ (.late i es) env = (getS env i).bind fun _ => (ev Φ es env).bind fun (rs, env2) => (getS env2 i).bind fun r => .ok (r :: rs, env2.set i none) := rfl
  rw [e3] at p
  rcases getS_cases env i with ⟨r0, g1, g2⟩ | g2
  · rw [g2] at p
    obtain ⟨v, s1, _⟩ := ae.slot i r0 g1
    refine ⟨v, s1, ?_⟩
    have p' : PostG ca W σ k F O H ((ev Φ es env).bind fun (rs, env2) => (getS env2 i).bind fun r => .ok (r :: rs, env2.set i none)) (CA ca σ k fun vs H' => Lnk (bkOf (T.late i es)) σ vs ∧ vs.length = (Expr.Name y pos :: xs).length → Q vs H') := p
    refine im _ _ _ ⟨F, O, env, k + 1, ae, below_bl0 bl, ?_⟩
    refine (p'.bind.lift (Nat.le_succ k)).imp fun b F2 O2 H2 st2 p2 vs ae2 rvs bl2 lk => ?_
    rcases getS_cases b.2 i with ⟨r, e1, e2⟩ | e2
    · have p3 : PostG ca W σ k F2 O2 H2 (.ok (r :: b.1, b.2.set i none)) (CA ca σ k fun vs H' => Lnk (bkOf (T.late i es)) σ vs ∧ vs.length = (Expr.Name y pos :: xs).length → Q vs H') := by
        have p2' : PostG ca W σ k F2 O2 H2 ((getS b.2 i).bind fun r => .ok (r :: b.1, b.2.set i none)) (CA ca σ k fun vs H' => Lnk (bkOf (T.late i es)) σ vs ∧ vs.length = (Expr.Name y pos :: xs).length → Q vs H') := p2
        rw [e2] at p2'
        exact p2'
      obtain ⟨v', s1', s2⟩ := ae2.slot i r e1
      have ev : v' = v := by rw [s1] at s1'; cases s1'; rfl
      subst ev
      refine p3 _ _ _ (ae2.bs.stp (aMv_low i k)) (v' :: vs) ?_ ⟨v', vs, rfl, s2.map ae2.bs fun c => if_pos rfl, RepRs.map ae2.bs (L' := Lab.t) (m := k + 1) (fun j c hj => by show some (some (Lab.t j c)) = _; rw [Nat.sub_add_cancel hj]) rvs⟩ ?_ ⟨fun j i' q => ?_, by rw [List.length_cons, lk.2] <;> rfl⟩
      · refine (ae2.bs.map _).ae fun j r' e => ?_
        have e' : (b.2.set i none)[j]? = some (some r') := e
        rcases set_slot e' with ⟨rfl, e5⟩ | ⟨ne, e5⟩
        · cases e5
        · obtain ⟨w, w1, w2⟩ := ae2.slot j r' e5
          exact ⟨w, w1, w2.map ae2.bs fun c => if_neg ne⟩
      · intro a j c z
        simp only [List.length_cons]
        obtain ⟨l, l1, l2⟩ := mO_inv z
        cases l with
        | s i' c' =>
          unfold aMv at l2
          simp only at l2
          split at l2
          · cases l2; omega
          · cases l2
        | t j' c' =>
          cases l2
          have := bl2 a j c l1
          omega
      · cases j with
        | zero =>
          have q' : some (some i) = some (some i') := q
          cases q'
          exact ⟨v', rfl, s1⟩
        | succ j => exact lk.1 j i' q
    · have p2' : PostG ca W σ k F2 O2 H2 ((getS b.2 i).bind fun r => .ok (r :: b.1, b.2.set i none)) (CA ca σ k fun vs H' => Lnk (bkOf (T.late i es)) σ vs ∧ vs.length = (Expr.Name y pos :: xs).length → Q vs H') := p2
      rw [e2] at p2'
      exact p2'.elim
  · rw [g2] at p
    exact p.elim
end
end FH
set_option Elab.async false
set_option linter.all false
set_option maxRecDepth 100000
set_option maxHeartbeats 2000000
namespace FH
open PySem PySem.Spec PyProof.Rows L2
theorem M.bind_assoc {α β γ : Type} (m : M α) (f : α → M β) (g : β → M γ) : (m.bind f).bind g = m.bind fun a => (f a).bind g := by cases m <;> rfl
theorem one1_bind {α : Type} (m : M α) (f : α → M (List R × En)) : one1 (m.bind f) = m.bind fun a => one1 (f a) := by cases m <;> rfl
theorem plains_of {c : MC} : ∀ {es : T} {xs : List Expr}, mA c es xs = true → plains xs = true
  | es, [], h => rfl
  | es, x :: xs, h => by
    cases es <;> first
      | (unfold mA at h; cases h; done)
      | skip
    · unfold mA at h
      simp only [Bool.and_eq_true] at h
      unfold plains
      rw [h.1.1, plains_of h.2] <;> rfl
    · cases x <;> first
        | (unfold mA at h; cases h; done)
        | skip
      unfold mA at h
      simp only [Bool.and_eq_true] at h
      unfold plains
      rw [plains_of h.2] <;> rfl
/-- temporaries from k on: frozen -/
def aTz (k : Nat) : Act := fun l => match l with
  | .s j c => some (some (.s j c))
  | .t j c => if j < k then some (some (.t j c)) else none
theorem aTz_low (k : Nat) : Low k (aTz k) := fun j c h => if_pos h
section
variable {X : Cx} {ca : Cs} {Φ : FT} {gs : GX} {W : WX} {x : Expr}
theorem AE.mapS {F H : Hp} {O : Own} {env : En} {σ : L2.St} (h : AE ca F O env σ H) (φ : Act) (e : ∀ i c, φ (.s i c) = some (some (.s i c))) : AE ca (mF φ O F H) (mO φ O) env σ H := h.map φ fun i _ c _ => e i c
theorem below_tz {O : Own} {k : Nat} : Below (mO (aTz k) O) k := fun a j c z => by
  obtain ⟨l, l1, l2⟩ := mO_inv z
  cases l with
  | s i' c' => cases l2
  | t j' c' =>
    unfold aTz at l2
    simp only at l2
    split at l2
    · cases l2; assumption
    · cases l2
theorem below_bl {O : Own} {k : Nat} (h : Below O k) : Below O (k + 1) := fun a j c z => Nat.lt_succ_of_lt (h a j c z)
theorem snd_lst {es : T} {xs : List Expr} {pos : Pos} (h : ArgOk X ca Φ W es xs) (hp : plains xs = true) (hl : xs.length ≤ 1000) : PE X (.List xs pos) (tE ca Φ W (.lst es)) := by
  obtain ⟨ts, pe, i⟩ := h
  refine peImp (pe_lst (pe.pa hp)) fun σ H Q q => ?_
  obtain ⟨F, O, env, k, ae, bl, p⟩ := q
  have e3 : one1 (ev Φ (.lst es) env) = (ev Φ es env).bind fun a => .ok (.ow (.lst none (a.1.map R.d)), a.2) := by
    show one1 ((ev Φ es env).bind _) = _
    rw [one1_bind] <;> rfl
  rw [e3] at p
  refine i _ _ _ ⟨F, O, env, k, ae, bl, p.bind.imp fun a F1 O1 H1 st1 p1 vs ae1 rvs bl1 z => ?_⟩
  refine ⟨by rw [z.2]; exact Nat.le_trans (Nat.le_trans hl (by decide)) lim_le, fun q hq => ?_⟩
  have b1 := ae1.bs.map (aTz k)
  have f1 := RepRs.frz (L := Lab.t) (φ := aTz k) ae1.bs (fun j c hj => (show (if j < k then some (some (Lab.t j c)) else none) = none from if_neg (by omega))) rvs
  have n1 := b1.fr hq
  refine p1 _ _ _ ((ae1.bs.stp (aTz_low k)).trans (b1.nO_stp (l := .t k 0) (o := .lst vs) hq k)) (.ref q) ?_ ⟨q, vs, rfl, upd_same, newO_same, .inl rfl, f1⟩ ?_
  · exact (ae1.mapS _ fun _ _ => rfl).grow (b1.nO hq) (.refl _) (sub_upd hq) (newO_keep n1.2)
  · intro a' j c y
    by_cases ha : a' = q
    · subst ha
      rw [newO_same] at y
      cases y
      exact Nat.lt_succ_self _
    · rw [newO_ne ha] at y
      exact Nat.lt_succ_of_lt (below_tz a' j c y)
/-! fresh tuples -/
def aTup (k : Nat) : Act := fun l => match l with
  | .s j c => some (some (.s j c))
  | .t j c => if j < k then some (some (.t j c)) else if c = 0 then some (some (.t k (j - k + 1))) else none
theorem aTup_low (k : Nat) : Low k (aTup k) := fun j c h => if_pos h
theorem tup_comps {F H : Hp} {O : Own} {k : Nat} (b : Bs F O H) : ∀ {rs : List R} {m : Nat} {vs : List V}, RepRs ca F H O Lab.t (k + m) rs vs → RepC ca (mF (aTup k) O F H) H (mO (aTup k) O) (.t k) (m + 1) (rs.map cmpOf) vs
  | [], m, vs, h => by unfold RepRs at h; exact h
  | r :: rs, m, vs, h => by
    unfold RepRs at h
    obtain ⟨v, w, h1, h2, h3⟩ := h
    have ih := tup_comps b (rs := rs) (m := m + 1) (by rw [show k + (m + 1) = k + m + 1 by omega]; exact h3)
    cases r with
    | sh d => exact ⟨v, w, h1, Rep.mono (b.mapSub _) _ _ h2, ih⟩
    | ow d =>
      refine ⟨v, w, h1, RepO.map (φ := aTup k) h2 b ?_, ih⟩
      show (if k + m < k then _ else if (0 : Nat) = 0 then some (some (Lab.t k (k + m - k + 1))) else none) = _
      rw [if_neg (by omega), if_pos rfl, show k + m - k + 1 = m + 1 by omega]
    | tp cs =>
      refine ⟨v, w, h1, ?_, ih⟩
      obtain ⟨a, us, e1, e2, e3⟩ := h2
      show Rep ca _ (.tup (cs.map (·.2))) v
      unfold Rep
      refine ⟨a, us, e1, b.mapSub _ _ _ e2, e3.frz b fun j hj => ?_⟩
      show (if k + m < k then _ else if j = 0 then _ else none) = none
      rw [if_neg (by omega), if_neg (by omega)]
theorem snd_tup {es : T} {xs : List Expr} {pos : Pos} {n : Nat} (h : ArgOk X ca Φ W es xs) (hp : plains xs = true) (hl : xs.length ≤ 1000) : PE X (.Tuple xs n pos) (tE ca Φ W (.tup es)) := by
  obtain ⟨ts, pe, i⟩ := h
  refine peImp (pe_tup (pe.pa hp)) fun σ H Q q => ?_
  obtain ⟨F, O, env, k, ae, bl, p⟩ := q
  have e3 : one1 (ev Φ (.tup es) env) = (ev Φ es env).bind fun a => .ok (.tp (a.1.map cmpOf), a.2) := by
    show one1 ((ev Φ es env).bind _) = _
    rw [one1_bind] <;> rfl
  rw [e3] at p
  refine i _ _ _ ⟨F, O, env, k, ae, bl, p.bind.imp fun a F1 O1 H1 st1 p1 vs ae1 rvs bl1 z => ?_⟩
  refine ⟨by rw [z.2]; exact Nat.le_trans (Nat.le_trans hl (by decide)) lim_le, fun q hq => ?_⟩
  have b1 := ae1.bs.map (aTup k)
  have n1 := b1.fr hq
  have f1 := tup_comps (m := 0) ae1.bs rvs
  refine p1 _ _ _ ((ae1.bs.stp (aTup_low k)).trans (b1.nF_stp (o := .tup vs) hq k)) (.ref q) ?_ ⟨q, vs, rfl, upd_same, f1.mono (b1.nF_sub hq) fun j a o e e' => ⟨sub_upd hq _ _ e', e⟩⟩ ?_
  · exact (ae1.mapS _ fun _ _ => rfl).grow (b1.nF hq) (b1.nF_sub hq) (sub_upd hq) fun _ _ z => z
  · intro a' j c y
    obtain ⟨l, l1, l2⟩ := mO_inv y
    cases l with
    | s i' c' => cases l2
    | t j' c' =>
      unfold aTup at l2
      simp only at l2
      split at l2
      · cases l2; omega
      · split at l2
        · cases l2; exact Nat.lt_succ_self _
        · cases l2
/-! ### tests -/
theorem asB_rep {r : R} {t : Bool} (h : asB r = .ok t) : r = .sh (.bl t) := by
  unfold asB at h
  split at h
  · cases h; rfl
  · cases h
theorem asB_ex {r : R} {c : Str} {d : D} (h : asB r = .ex c d) : False := by
  unfold asB at h
  split at h <;> cases h
/-- a value that is a truth value, as a test -/
theorem pt_of {e : T} (h : PE X x (tE ca Φ W e)) (he : ∀ whole, isTrue x X.env whole = (do let v ← whole; standAt x.pos; holding [v] (truthy v))) : PT X x (tT ca Φ W e) := by
  refine ptImp (pt_val h he) fun σ H Q q => ?_
  obtain ⟨F, O, env, k, ae, bl, p⟩ := q
  refine ⟨F, O, env, k, ae, bl, p.bind.imp fun a F1 O1 H1 st1 p1 v ae1 rv bl1 => ?_⟩
  cases e : asB a.1 with
  | ok t =>
    have er := asB_rep e
    have p2 : PostG ca W σ k F1 O1 H1 ((asB a.1).bind fun t => .ok (t, a.2)) (CB ca σ k Q) := p1
    rw [e] at p2
    rw [er] at rv
    have ev : v = .bl t := by unfold RepR Rep at rv; exact rv
    refine ⟨t, ev, ?_⟩
    have key := p2 (mF (aTz k) O1 F1 H1) (mO (aTz k) O1) H1 (ae1.bs.stp (aTz_low k))
    exact key (ae1.mapS _ fun _ _ => rfl) below_tz
  | ex c d => exact (asB_ex e).elim
  | no =>
    have p2 : PostG ca W σ k F1 O1 H1 ((asB a.1).bind fun t => .ok (t, a.2)) (CB ca σ k Q) := p1
    rw [e] at p2
    exact p2.elim
theorem evB_eq {e : T} {env : En} : evB Φ e env = (one1 (ev Φ e env)).bind fun a => (asB a.1).bind fun t => .ok (t, a.2) := rfl
theorem one1_dist {β : Type} (m : M (R × En)) (f : R × En → M (List R × En)) : one1 (m.bind f) = m.bind fun a => one1 (f a) := one1_bind m f
/-- a test, then: the outcome of a term that begins with a test -/
theorem test_then {e : T} {σ : L2.St} {H : Hp} {Q : Bool → Hp → Prop} {F : Hp} {O : Own} {env : En} {k : Nat} (ae : AE ca F O env σ H) (bl : Below O k) {α : Type} {f : Bool → En → M α} {C : α → Hp → Own → Hp → Prop}
    (p : PostG ca W σ k F O H ((one1 (ev Φ e env)).bind fun a => (asB a.1).bind fun t => f t a.2) C)
    (h : ∀ t env1 F1 O1 H1, AE ca F1 O1 env1 σ H1 → Below O1 k → PostG ca W σ k F1 O1 H1 (f t env1) C → Q t H1) : tT ca Φ W e σ H Q := by
  refine ⟨F, O, env, k, ae, bl, ?_⟩
  have e2 : ((one1 (ev Φ e env)).bind fun a => (asB a.1).bind fun t => f t a.2) = (evB Φ e env).bind fun b => f b.1 b.2 := by
    rw [evB_eq, M.bind_assoc]
    cases one1 (ev Φ e env) with
    | ok a =>
      show (asB a.1).bind _ = ((asB a.1).bind _).bind _
      rw [M.bind_assoc] <;> rfl
    | ex c d => rfl
    | no => rfl
  rw [e2] at p
  exact p.bind.imp fun b F1 O1 H1 st1 p1 ae1 bl1 => h b.1 b.2 F1 O1 H1 ae1 bl1 p1
theorem snd_ite {t a b : T} {c y z : Expr} {pos : Pos} (h1 : PT X c (tT ca Φ W t)) (h2 : PE X y (tE ca Φ W a)) (h3 : PE X z (tE ca Φ W b)) : PE X (.IfExp c y z pos) (tE ca Φ W (.ite t a b)) := by
  refine peImp (pe_ifExp h1 h2 h3) fun σ H Q q => ?_
  obtain ⟨F, O, env, k, ae, bl, p⟩ := q
  have e3 : one1 (ev Φ (.ite t a b) env) = (one1 (ev Φ t env)).bind fun r => (asB r.1).bind fun w => one1 (if w then ev Φ a r.2 else ev Φ b r.2) := by
    show one1 ((one1 (ev Φ t env)).bind _) = _
    rw [one1_bind]
    congr 1
    funext r
    exact one1_bind _ _
  rw [e3] at p
  refine test_then (f := fun w env1 => one1 (if w = true then ev Φ a env1 else ev Φ b env1)) ae bl p fun w env1 F1 O1 H1 ae1 bl1 p1 => ?_
  cases w with
  | true =>
    rw [if_pos rfl]
    exact ⟨F1, O1, env1, k, ae1, bl1, p1⟩
  | false =>
    rw [if_neg Bool.false_ne_true]
    exact ⟨F1, O1, env1, k, ae1, bl1, p1⟩
theorem snd_frz {a : T} {y : Expr} (h : PE X y (tE ca Φ W a)) : PE X y (tE ca Φ W (.frz a)) := by
  refine peImp h fun σ H Q q => ?_
  obtain ⟨F, O, env, k, ae, bl, p⟩ := q
  have e3 : one1 (ev Φ (.frz a) env) = (one1 (ev Φ a env)).bind fun r => .ok (sh1 r.1, r.2) := by
    show one1 ((one1 (ev Φ a env)).bind _) = _
    rw [one1_bind] <;> rfl
  rw [e3] at p
  refine ⟨F, O, env, k, ae, bl, p.bind.imp fun r F1 O1 H1 st1 p1 v ae1 rv bl1 => ?_⟩
  refine p1 _ _ _ (ae1.bs.stp (aTz_low k)) v (ae1.mapS _ fun _ _ => rfl) ?_ (below_bl below_tz)
  exact rv.frz ae1.bs fun c => (show (if k < k then some (some (Lab.t k c)) else none) = none from if_neg (Nat.lt_irrefl k))
theorem snd_one {a : T} {y : Expr} {op : BoolOp} {pos : Pos} (h : PE X y (tE ca Φ W a)) : PE X (.BoolOp op [y] pos) (tE ca Φ W (.one a)) := pe_one h
/-- a Boolean answer behind a test -/
theorem bl_done {σ : L2.St} {H : Hp} {Q : VK} {F : Hp} {O : Own} {env : En} {k : Nat} {b : Bool} (ae : AE ca F O env σ H) (bl : Below O k) (p : PostG ca W σ k F O H (.ok (R.sh (.bl b), env)) (CE ca σ k Q)) : Q (.bl b) H :=
  p.here (.bl b) ae (by show Rep ca F (.bl b) (.bl b); unfold Rep; rfl) (below_bl bl)
theorem boolV {σ : L2.St} {H : Hp} {Q : VK} {e : T} (h : tE ca Φ W e σ H fun v H1 => ∀ c, v = .bl c → Q v H1) : True := trivial
theorem snd_not {a : T} {y : Expr} {pos : Pos} (h : PE X y (tE ca Φ W a)) : PE X (.UnaryOp .Not y pos) (tE ca Φ W (.not a)) := by
  refine peImp (pe_not h) fun σ H Q q => ?_
  obtain ⟨F, O, env, k, ae, bl, p⟩ := q
  have e3 : one1 (ev Φ (.not a) env) = (one1 (ev Φ a env)).bind fun r => (asB r.1).bind fun w => .ok (.sh (.bl (!w)), r.2) := by
    show one1 ((one1 (ev Φ a env)).bind _) = _
    rw [one1_bind]
    congr 1
    funext r
    exact one1_bind _ _
  rw [e3] at p
  refine ⟨F, O, env, k, ae, bl, p.bind.imp fun r F1 O1 H1 st1 p1 v ae1 rv bl1 => ?_⟩
  cases e : asB r.1 with
  | ok w =>
    rw [e] at p1
    rw [asB_rep e] at rv
    have ev : v = .bl w := by unfold RepR Rep at rv; exact rv
    refine ⟨w, ev, ?_⟩
    exact (p1.here (.bl (!w)) ae1 (by show Rep ca F1 (.bl (!w)) (.bl (!w)); unfold Rep; rfl) bl1)
  | ex c d => exact (asB_ex e).elim
  | no =>
    rw [e] at p1
    exact p1.elim
theorem snd_notT {a : T} {y : Expr} {pos : Pos} (h : PT X y (tT ca Φ W a)) : PT X (.UnaryOp .Not y pos) (tT ca Φ W (.not a)) := by
  refine ptImp (pt_not h) fun σ H Q q => ?_
  obtain ⟨F, O, env, k, ae, bl, p⟩ := q
  have e3 : evB Φ (.not a) env = (one1 (ev Φ a env)).bind fun r => (asB r.1).bind fun w => .ok (!w, r.2) := by
    show (one1 ((one1 (ev Φ a env)).bind _)).bind _ = _
    rw [one1_bind, M.bind_assoc]
    congr 1
    funext r
    rw [one1_bind, M.bind_assoc]
    cases asB r.1 <;> rfl
  rw [e3] at p
  exact test_then (f := fun w env1 => .ok (!w, env1)) ae bl p fun w env1 F1 O1 H1 ae1 bl1 p1 => p1.here ae1 bl1
theorem andE {a b : T} {env : En} : one1 (ev Φ (.and a b) env) = (one1 (ev Φ a env)).bind fun r => (asB r.1).bind fun w => if w then one1 (ev Φ b r.2) else .ok (.sh (.bl false), r.2) := by
  show one1 ((one1 (ev Φ a env)).bind _) = _
  rw [one1_bind]
  congr 1
  funext r
  rw [one1_bind]
  congr 1
  funext w
  cases w <;> rfl
theorem orE {a b : T} {env : En} : one1 (ev Φ (.or a b) env) = (one1 (ev Φ a env)).bind fun r => (asB r.1).bind fun w => if w then .ok (.sh (.bl true), r.2) else one1 (ev Φ b r.2) := by
  show one1 ((one1 (ev Φ a env)).bind _) = _
  rw [one1_bind]
  congr 1
  funext r
  rw [one1_bind]
  congr 1
  funext w
  cases w <;> rfl
theorem snd_and {a b : T} {y z : Expr} {r : List Expr} {pos : Pos} (h1 : PE X y (tE ca Φ W a)) (h2 : PE X (.BoolOp .And (z :: r) pos) (tE ca Φ W b)) : PE X (.BoolOp .And (y :: z :: r) pos) (tE ca Φ W (.and a b)) := by
  refine peImp (pe_and h1 h2) fun σ H Q q => ?_
  obtain ⟨F, O, env, k, ae, bl, p⟩ := q
  rw [andE] at p
  refine ⟨F, O, env, k, ae, bl, p.bind.imp fun r F1 O1 H1 st1 p1 v ae1 rv bl1 => ?_⟩
  cases e : asB r.1 with
  | ok w =>
    rw [e] at p1
    rw [asB_rep e] at rv
    have ev : v = .bl w := by unfold RepR Rep at rv; exact rv
    refine ⟨w, ev, ?_⟩
    cases w with
    | true =>
      rw [if_pos rfl]
      exact ⟨mF (aTz k) O1 F1 H1, mO (aTz k) O1, r.2, k, ae1.mapS _ fun _ _ => rfl, below_tz, (show PostG ca W σ k F1 O1 H1 (M.ok ()) (fun _ F' O' H' => PostG ca W σ k F' O' H' (one1 (FH.ev Φ b r.2)) (CE ca σ k Q)) from PostG.bind (m := .ok ()) (f := fun _ => one1 (FH.ev Φ b r.2)) p1) _ _ _ (ae1.bs.stp (aTz_low k))⟩
    | false =>
      rw [if_neg Bool.false_ne_true]
      exact p1.here (.bl false) ae1 (by show Rep ca F1 (.bl false) (.bl false); unfold Rep; rfl) bl1
  | ex c d => exact (asB_ex e).elim
  | no =>
    rw [e] at p1
    exact p1.elim
theorem snd_or {a b : T} {y z : Expr} {r : List Expr} {pos : Pos} (h1 : PE X y (tE ca Φ W a)) (h2 : PE X (.BoolOp .Or (z :: r) pos) (tE ca Φ W b)) : PE X (.BoolOp .Or (y :: z :: r) pos) (tE ca Φ W (.or a b)) := by
  refine peImp (pe_or h1 h2) fun σ H Q q => ?_
  obtain ⟨F, O, env, k, ae, bl, p⟩ := q
  rw [orE] at p
  refine ⟨F, O, env, k, ae, bl, p.bind.imp fun r F1 O1 H1 st1 p1 v ae1 rv bl1 => ?_⟩
  cases e : asB r.1 with
  | ok w =>
    rw [e] at p1
    rw [asB_rep e] at rv
    have ev : v = .bl w := by unfold RepR Rep at rv; exact rv
    refine ⟨w, ev, ?_⟩
    cases w with
    | false =>
      rw [if_neg Bool.false_ne_true]
      exact ⟨mF (aTz k) O1 F1 H1, mO (aTz k) O1, r.2, k, ae1.mapS _ fun _ _ => rfl, below_tz, (show PostG ca W σ k F1 O1 H1 (M.ok ()) (fun _ F' O' H' => PostG ca W σ k F' O' H' (one1 (FH.ev Φ b r.2)) (CE ca σ k Q)) from PostG.bind (m := .ok ()) (f := fun _ => one1 (FH.ev Φ b r.2)) p1) _ _ _ (ae1.bs.stp (aTz_low k))⟩
    | true =>
      rw [if_pos rfl]
      exact p1.here (.bl true) ae1 (by show Rep ca F1 (.bl true) (.bl true); unfold Rep; rfl) bl1
  | ex c d => exact (asB_ex e).elim
  | no =>
    rw [e] at p1
    exact p1.elim
/-- and, or as tests -/
theorem andB {a b : T} {env : En} : evB Φ (.and a b) env = (one1 (ev Φ a env)).bind fun r => (asB r.1).bind fun w => if w then evB Φ b r.2 else .ok (false, r.2) := by
  unfold evB
  rw [andE, M.bind_assoc]
  congr 1
  funext r
  rw [M.bind_assoc]
  congr 1
  funext w
  cases w <;> rfl
theorem orB {a b : T} {env : En} : evB Φ (.or a b) env = (one1 (ev Φ a env)).bind fun r => (asB r.1).bind fun w => if w then .ok (true, r.2) else evB Φ b r.2 := by
  unfold evB
  rw [orE, M.bind_assoc]
  congr 1
  funext r
  rw [M.bind_assoc]
  congr 1
  funext w
  cases w <;> rfl
theorem pw_one {op : BoolOp} {a : T} {y : Expr} {pos : Pos} (h : PT X y (tT ca Φ W a)) : PW X (.BoolOp op [y] pos) (tT ca Φ W (.one a)) := by
  cases op with
  | And => exact pw_and1 h
  | Or => exact pw_or1 h
theorem pw_and' {a b : T} {y z : Expr} {r : List Expr} {pos : Pos} (h1 : PT X y (tT ca Φ W a)) (h2 : PW X (.BoolOp .And (z :: r) pos) (tT ca Φ W b)) : PW X (.BoolOp .And (y :: z :: r) pos) (tT ca Φ W (.and a b)) := by
  refine ⟨fun wh pins s σ H Q I q => (pw_and h1 h2).run wh pins s σ H Q I ?_⟩
  obtain ⟨F, O, env, k, ae, bl, p⟩ := q
  rw [andB] at p
  refine test_then (f := fun w env1 => if w = true then evB Φ b env1 else .ok (false, env1)) ae bl p fun w env1 F1 O1 H1 ae1 bl1 p1 => ?_
  cases w with
  | true =>
    rw [if_pos rfl] at p1 ⊢
    exact ⟨F1, O1, env1, k, ae1, bl1, p1⟩
  | false =>
    rw [if_neg Bool.false_ne_true] at p1 ⊢
    exact p1.here ae1 bl1
theorem pw_or' {a b : T} {y z : Expr} {r : List Expr} {pos : Pos} (h1 : PT X y (tT ca Φ W a)) (h2 : PW X (.BoolOp .Or (z :: r) pos) (tT ca Φ W b)) : PW X (.BoolOp .Or (y :: z :: r) pos) (tT ca Φ W (.or a b)) := by
  refine ⟨fun wh pins s σ H Q I q => (pw_or h1 h2).run wh pins s σ H Q I ?_⟩
  obtain ⟨F, O, env, k, ae, bl, p⟩ := q
  rw [orB] at p
  refine test_then (f := fun w env1 => if w = true then .ok (true, env1) else evB Φ b env1) ae bl p fun w env1 F1 O1 H1 ae1 bl1 p1 => ?_
  cases w with
  | true =>
    rw [if_pos rfl] at p1 ⊢
    exact p1.here ae1 bl1
  | false =>
    rw [if_neg Bool.false_ne_true] at p1 ⊢
    exact ⟨F1, O1, env1, k, ae1, bl1, p1⟩
theorem snd_iteT {t a b : T} {c y z : Expr} {pos : Pos} (h1 : PT X (.IfExp c y z pos) (tT ca Φ W (.ite t a b))) : True := trivial
end
end FH
set_option Elab.async false
set_option linter.all false
set_option maxRecDepth 100000
set_option maxHeartbeats 2000000
namespace FH
open PySem PySem.Spec PyProof.Rows L2
section
variable {ca : Cs} {F F' H H' : Hp} {O O' : Own} {L L' : Nat → Lab}
theorem RepO.rel {l l' : Lab} {d : D} {v : V} (h : RepO ca F H O l d v) (e : Sub F F') (k : ∀ a o, O a = some l → H a = some o → H' a = some o ∧ O' a = some l') : RepO ca F' H' O' l' d v := by
  cases d with
  | lst t xs =>
    obtain ⟨a, vs, h1, h2, h3, h4, h5⟩ := h
    obtain ⟨k1, k2⟩ := k a _ h3 h2
    exact ⟨a, vs, h1, k1, k2, h4, Reps.mono e _ _ h5⟩
  | dic t xs =>
    obtain ⟨a, vs, h1, h2, h3, h4, h5⟩ := h
    obtain ⟨k1, k2⟩ := k a _ h3 h2
    exact ⟨a, vs, h1, k1, k2, h4, RepK.mono e _ _ h5⟩
  | obj C fs =>
    obtain ⟨a, dx, vs, h1, h2, h3, h5⟩ := h
    obtain ⟨k1, k2⟩ := k a _ h3 h2
    exact ⟨a, dx, vs, h1, k1, k2, RepF.mono e _ _ h5⟩
  | _ => exact Rep.mono e _ _ h
theorem RepC.rel : ∀ {cs : List (Bool × D)} {c : Nat} {vs : List V}, RepC ca F H O L c cs vs → Sub F F' → (∀ j a o, O a = some (L j) → H a = some o → H' a = some o ∧ O' a = some (L' j)) → RepC ca F' H' O' L' c cs vs
  | [], c, vs, h, e, k => by unfold RepC at h ⊢; exact h
  | (true, d) :: r, c, vs, h, e, k => by
    unfold RepC at h ⊢
    obtain ⟨v, w, h1, h2, h3⟩ := h
    exact ⟨v, w, h1, h2.rel e (k c), RepC.rel h3 e k⟩
  | (false, d) :: r, c, vs, h, e, k => by
    unfold RepC at h ⊢
    obtain ⟨v, w, h1, h2, h3⟩ := h
    exact ⟨v, w, h1, Rep.mono e _ _ h2, RepC.rel h3 e k⟩
theorem RepR.rel {r : R} {v : V} (h : RepR ca F H O L r v) (e : Sub F F') (k : ∀ j a o, O a = some (L j) → H a = some o → H' a = some o ∧ O' a = some (L' j)) : RepR ca F' H' O' L' r v := by
  cases r with
  | sh d => exact Rep.mono e _ _ h
  | ow d => exact RepO.rel h e (k 0)
  | tp cs =>
    obtain ⟨a, vs, h1, h2, h3⟩ := h
    exact ⟨a, vs, h1, e _ _ h2, h3.rel e k⟩
end
/-! the callee's owners, the caller's behind the call -/
def aCall (k : Nat) : Act := fun l => match l with
  | .s _ _ => some none
  | .t j c => if j < k then some none else some (some (.s (j - k) c))
def oBack (k : Nat) (lk : List (Option Nat)) (O1 O' : Own) : Own := fun a => match O' a with
  | some (.t j c) => if j = 0 then some (.t k c) else none
  | some (.s j c) => (match lk[j]? with
    | some (some i) => some (.s i c)
    | _ => none)
  | none => (match O1 a with
    | some (.t j c) => if j < k then some (.t j c) else none
    | x => x)
theorem aCall_ne (k : Nat) (l : Lab) : aCall k l ≠ none := by
  cases l with
  | s i c => exact fun h => nomatch h
  | t j c =>
    show (if j < k then some none else some (some (Lab.s (j - k) c))) ≠ none
    split <;> exact fun h => nomatch h
theorem mF_same {φ : Act} {O : Own} {F H : Hp} (h : ∀ l, φ l ≠ none) : mF φ O F H = F := by
  funext a
  cases e : O a with
  | none => exact mF_none e
  | some l =>
    cases q : φ l with
    | none => exact absurd q (h l)
    | some x => exact mF_keep e q
section
variable {ca : Cs} {k : Nat} {F1 H1 F' H' : Hp} {O1 O' : Own} {lk : List (Option Nat)}
theorem oc_pk {a : Addr} (h : Pk k O1 a ∨ ∃ i c, O1 a = some (.s i c)) : mO (aCall k) O1 a = none := by
  cases e : O1 a with
  | none => exact mO_none e
  | some l =>
    cases l with
    | s i c => unfold mO; rw [e] <;> rfl
    | t j c =>
      have hj : j < k := by
        rcases h with h | ⟨i, c', h⟩
        · exact h.2 j c e
        · rw [e] at h; cases h
      unfold mO
      rw [e]
      show (match (if j < k then some none else some (some (Lab.s (j - k) c))) with | some (some l') => some l' | _ => none) = none
      rw [if_pos hj]
theorem pk0_of {a : Addr} (h : mO (aCall k) O1 a = none) : Pk 0 (mO (aCall k) O1) a := by
  constructor
  · intro i c z
    rw [h] at z
    cases z
  · intro j c z
    rw [h] at z
    cases z
structure Back (k : Nat) (lk : List (Option Nat)) (F1 : Hp) (O1 : Own) (H1 F' : Hp) (O' : Own) (H' : Hp) : Prop where
  bs : Bs F' (oBack k lk O1 O') H'
  st : Stp k F1 O1 H1 F' (oBack k lk O1 O') H'
  old : ∀ a o i c, O1 a = some (.s i c) → H1 a = some o → H' a = some o ∧ oBack k lk O1 O' a = some (.s i c)
  res : ∀ a c, O' a = some (.t 0 c) → oBack k lk O1 O' a = some (.t k c)
  lent : ∀ a i j c, lk[j]? = some (some i) → O' a = some (.s j c) → oBack k lk O1 O' a = some (.s i c)
  bl : Below (oBack k lk O1 O') (k + 1)
theorem back_of (b1 : Bs F1 O1 H1) (st : Stp 0 F1 (mO (aCall k) O1) H1 F' O' H') (b : Bs F' O' H') : Back k lk F1 O1 H1 F' O' H' := by
  have stay : ∀ a, (Pk k O1 a ∨ ∃ i c, O1 a = some (.s i c)) → ∀ o, H1 a = some o → O' a = none ∧ H' a = some o ∧ (F1 a = none → F' a = none) := fun a h o e => by
    have n := oc_pk h
    have p := pk0_of n
    exact ⟨by rw [st.lab a o e p]; exact n, st.keep a o e p, st.frz a o e p⟩
  have old : ∀ a l, oBack k lk O1 O' a = some l → O' a = none → O1 a = some l ∧ (Pk k O1 a ∨ ∃ i c, O1 a = some (.s i c)) := fun a l h n => by
    unfold oBack at h
    rw [n] at h
    simp only at h
    cases e : O1 a with
    | none => rw [e] at h; cases h
    | some m =>
      rw [e] at h
      cases m with
      | s i c => exact ⟨h, .inr ⟨i, c, rfl⟩⟩
      | t j c =>
        simp only at h
        split at h
        · rename_i hj
          refine ⟨h, .inl ⟨fun i c' z => ?_, fun j' c' z => ?_⟩⟩
          · rw [e] at z; cases z
          · rw [e] at z; cases z; exact hj
        · cases h
  refine ⟨⟨b.sub, fun a l h => ?_, fun a l h => ?_⟩, ⟨st.ext, fun a o e p => ?_, fun a o e p => ?_, fun a o e p n => ?_, st.dom⟩, fun a o i c e h => ?_, fun a c e => ?_, fun a i j c e h => ?_, fun a j c h => ?_⟩
  · cases q : O' a with
    | some m => exact b.dis a m q
    | none =>
      obtain ⟨h1, h2⟩ := old a l h q
      obtain ⟨o, ho⟩ := b1.own a l h1
      exact (stay a h2 o ho).2.2 (b1.dis a l h1)
  · cases q : O' a with
    | some m => exact b.own a m q
    | none =>
      obtain ⟨h1, h2⟩ := old a l h q
      obtain ⟨o, ho⟩ := b1.own a l h1
      exact ⟨o, (stay a h2 o ho).2.1⟩
  · exact (stay a (.inl p) o e).2.1
  · have n := (stay a (.inl p) o e).1
    unfold oBack
    rw [n]
    simp only
    cases q : O1 a with
    | none => rfl
    | some m =>
      cases m with
      | s i c => exact absurd q (p.1 i c)
      | t j c => exact if_pos (p.2 j c q)
  · exact (stay a (.inl p) o e).2.2 n
  · obtain ⟨h1, h2, _⟩ := stay a (.inr ⟨i, c, e⟩) o h
    refine ⟨h2, ?_⟩
    unfold oBack
    rw [h1, e]
  · unfold oBack
    rw [e]
    exact if_pos rfl
  · unfold oBack
    rw [h]
    simp only
    rw [e]
  · cases q : O' a with
    | none =>
      obtain ⟨h1, h2⟩ := old a _ h q
      rcases h2 with h2 | ⟨i, c', h2⟩
      · exact Nat.lt_succ_of_lt (h2.2 j c h1)
      · rw [h1] at h2; cases h2
    | some m =>
      unfold oBack at h
      rw [q] at h
      cases m with
      | s i c' =>
        simp only at h
        split at h <;> cases h
      | t i c' =>
        simp only at h
        split at h
        · cases h; exact Nat.lt_succ_self _
        · cases h
end
theorem backs_get : ∀ (outs : List (Option R)) (lk : List (Option Nat)) (env : En) (i : Nat) (r : R), (backs outs lk env)[i]? = some (some r) → env[i]? = some (some r) ∨ ∃ j : Nat, outs[j]? = some (some r) ∧ lk[j]? = some (some i)
  | [], lk, env, i, r, h => .inl (by cases lk <;> exact h)
  | _ :: _, [], env, i, r, h => .inl (by
      rename_i o os
      cases o <;> exact h)
  | o :: os, l :: ls, env, i, r, h => by
    have rest : ∀ env', (backs os ls env')[i]? = some (some r) → env'[i]? = some (some r) ∨ ∃ j : Nat, (o :: os)[j]? = some (some r) ∧ (l :: ls)[j]? = some (some i) := fun env' h' => by
      rcases backs_get os ls env' i r h' with q | ⟨j, q1, q2⟩
      · exact .inl q
      · exact .inr ⟨j + 1, q1, q2⟩
    cases o with
    | none => exact rest env (by cases l <;> exact h)
    | some r' =>
      cases l with
      | none => exact rest env h
      | some i' =>
        rcases rest (env.set i' (some r')) h with q | q
        · rcases set_slot q with ⟨q1, q2⟩ | ⟨_, q2⟩
          · cases q2
            exact .inr ⟨0, rfl, by rw [q1] <;> rfl⟩
          · exact .inl q2
        · exact .inr q
/-- the slots behind a call -/
theorem back_ae {ca : Cs} {k : Nat} {F1 H1 F' H' : Hp} {O1 O' : Own} {lk : List (Option Nat)} {env : En} {σ : L2.St} {outs : List (Option R)} {vs : List V} (ae : AE ca F1 O1 env σ H1) (B : Back k lk F1 O1 H1 F' O' H') (ln : Lnk lk σ vs)
    (ho : ∀ j r', outs[j]? = some (some r') → ∃ v', vs[j]? = some v' ∧ RepR ca F' H' O' (.s j) r' v') : AE ca F' (oBack k lk O1 O') (backs outs lk env) σ H' :=
  B.bs.ae fun i r h => by
    rcases backs_get outs lk env i r h with q | ⟨j, q1, q2⟩
    · obtain ⟨v, s1, s2⟩ := ae.slot i r q
      exact ⟨v, s1, s2.mono B.st.ext fun c a o e e' => B.old a o i c e e'⟩
    · obtain ⟨v', e1, e2⟩ := ho j r q1
      obtain ⟨v, e3, e4⟩ := ln j i q2
      rw [e1] at e3
      cases e3
      exact ⟨v', e4, e2.rel (.refl _) fun c a o e e' => ⟨e', B.lent a i j c q2 e⟩⟩
section
variable {X : Cx} {ca : Cs} {Φ : FT} {gs : GX} {W : WX} {x : Expr}
theorem run_G {k : Nat} {f : Addr} {fd : FuncData} {ps : List Str} {sp : Sp} {pins : List (Addr × Obj)} {σ : L2.St} {H : Hp} {s : Shared} {Q : VK} {us : List Value} {vs : List V} (Fn : FnG X.prog X.w X.K X.mg X.base k f fd ps sp) (hr : RoomG k X.A)
    (hb : Binds X.K fd ps []) (tk : Takes X W) (I : Inv X pins σ H s) (r : Vals vs us) (h : sp vs H Q (WE W σ)) : wpAny (model X.prog X.w) X.A (call (.ref f) us) (EP X pins σ Q) X.xe s := by
  have hl : us.length = ps.length := r.length.symm.trans (Fn.len _ _ _ _ h)
  have b := hb s us I.kIn (by rw [List.append_nil]; exact hl)
  rw [List.append_nil] at b
  have go := Fn.run X.A X.stack s H ⟨us, []⟩ us vs Q (WE W σ) hr I.env0 b r h
  refine wpAny_call (codeAny_mono go ?_)
  intro res s' hq
  match res, hq with
  | .error e, hq => exact passAt tk σ pins H s e s' I hq
  | .ok (.ret u), hq => exact I.after hq
  | .ok .next, hq => exact False.elim hq
  | .ok .brk, hq => exact False.elim hq
  | .ok .cont, hq => exact False.elim hq
def tCallG (sp : Sp) (W : WX) (t : TA) : TE := fun σ H Q => t σ H fun vs H1 => sp vs H1 Q (WE W σ)
theorem pe_callG {k : Nat} {f : Addr} {fd : FuncData} {ps : List Str} {sp : Sp} {y : Str} {p pos : Pos} {es : List Expr} {t : TA} (Fn : FnG X.prog X.w X.K X.mg X.base k f fd ps sp) (hr : RoomG k X.A) (hb : Binds X.K fd ps []) (tk : Takes X W)
    (hg : Gl X y) (hm : X.mg y = some (.ref f)) (hk : PySem.W.keepIn X.K (.ref f) = true) (hdb : (y == ("__debug__" : Str)) = false) (ha : PA X es t) (hp : plains es = true) (ht : es = [] → t = tNil) :
    PE X (.Call (.Name y p) es [] pos) (tCallG sp W t) := by
  constructor
  intro pins s σ H Q I h
  refine wpAny_Call_Name_kw (ld_glob I hg hm ?_ hdb)
  cases es with
  | nil =>
    have e := ht rfl
    subst e
    exact PySem.W.callWith_K0 I.kIn hk (run_G (us := []) Fn hr hb tk I .nil h)
  | cons e es =>
    unfold plains at hp
    simp only [Bool.and_eq_true] at hp
    refine PySem.W.callWith_K (h₀ := X.base) I.ok.mod.kin hk ?_ (star_plain hp.1) (star_plains hp.2)
    refine thn (ha.run pos pins s σ H _ I h) ?_
    rintro us s1 ⟨vs, H1, I1, r, q⟩
    exact ⟨I1.kIn, run_G Fn hr hb tk I1 r q⟩
theorem snd_call (G : Good X ca Φ gs W) {f : Str} {es : T} {xs : List Expr} {p pos : Pos} (h : ArgOk X ca Φ W es xs) (hp : plains xs = true) (hg : gl (cOf X gs) f = true) (hcm : cm f = none) : PE X (.Call (.Name f p) xs [] pos) (tE ca Φ W (.call f es)) := by
  obtain ⟨ts, pe, i⟩ := h
  obtain ⟨g1, g2, _⟩ := gl_ok hg
  cases ef : Φ f with
  | none =>
    refine ⟨fun pins s σ H Q I q => ?_⟩
    obtain ⟨F, O, env, k, ae, bl, p⟩ := q
    have e0 : ev Φ (.call f es) env = (match Φ f with
      | some g => (ev Φ es env).bind fun a => (g a.1).bind fun b => .ok ([b.1], backs b.2 (bkOf es) a.2)
      | none => .no) := rfl
    have e : one1 (ev Φ (.call f es) env) = .no := by
      rw [e0, ef] <;> rfl
    rw [e] at p
    exact p.elim
  | some g =>
    obtain ⟨n, fa, fd, ps, Fn, hr, hm, hk, hb⟩ := G.fn f g hcm ef
    refine peImp (pe_callG Fn hr hb G.tk g1 hm hk g2 (pe.pa hp) hp ?_) fun σ H Q q => ?_
    · intro e
      subst e
      cases pe <;> rfl
    · obtain ⟨F, O, env, k, ae, bl, p⟩ := q
      have e3 : one1 (ev Φ (.call f es) env) = (ev Φ es env).bind fun a => (g a.1).bind fun b => .ok (b.1, backs b.2 (bkOf es) a.2) := by
        have e0 : ev Φ (.call f es) env = (match Φ f with
          | some g => (ev Φ es env).bind fun a => (g a.1).bind fun b => .ok ([b.1], backs b.2 (bkOf es) a.2)
          | none => .no) := rfl
        rw [e0, ef, one1_bind]
        congr 1
        funext a
        exact one1_bind _ _
      rw [e3] at p
      refine i _ _ _ ⟨F, O, env, k, ae, bl, p.bind.imp fun a F1 O1 H1 st1 p1 vs ae1 rvs bl1 z => ?_⟩
      have hF : mF (aCall k) O1 F1 H1 = F1 := mF_same (aCall_ne k)
      have bc : Bs F1 (mO (aCall k) O1) H1 := by
        have := ae1.bs.map (aCall k)
        rw [hF] at this
        exact this
      have rc : RepRs ca F1 H1 (mO (aCall k) O1) Lab.s 0 a.1 vs := by
        have := RepRs.map (φ := aCall k) (L := Lab.t) (L' := Lab.s) (m := 0) ae1.bs (fun j c hj => by
          show (if j < k then some none else some (some (Lab.s (j - k) c))) = _
          rw [if_neg (by omega)] <;> rfl) rvs
        rw [hF] at this
        exact this
      refine ⟨F1, mO (aCall k) O1, a.1, bc, fun a' l e => ?_, rc, ?_⟩
      · obtain ⟨l0, e1, e2⟩ := mO_inv e
        cases l0 with
        | s i' c => cases e2
        | t j c =>
          have e2' : (if j < k then some none else some (some (Lab.s (j - k) c))) = some (some l) := e2
          split at e2'
          · cases e2'
          · cases e2'; exact ⟨_, _, rfl⟩
      · cases eg : g a.1 with
        | ok b =>
          obtain ⟨r, outs⟩ := b
          rw [eg] at p1
          intro v F' O' H' st b' rv ho
          have B : Back k (bkOf es) F1 O1 H1 F' O' H' := back_of ae1.bs st b'
          exact p1 F' _ H' B.st v (back_ae ae1 B z.1 ho) (rv.rel (.refl _) fun c a' o e e' => ⟨e', B.res a' c e⟩) B.bl
        | ex c d =>
          rw [eg] at p1
          intro dx v n' F' O' H' st b' hx hr'
          have B : Back k (bkOf es) F1 O1 H1 F' O' H' := back_of ae1.bs st b'
          exact p1 dx v n' F' _ H' B.st B.bs hx hr'
        | no =>
          rw [eg] at p1
          exact p1.elim
end
end FH
set_option Elab.async false
set_option linter.all false
set_option maxRecDepth 100000
set_option maxHeartbeats 2000000
namespace FH
open PySem PySem.Spec PyProof.Rows L2
/-! ### operands as they are read -/
def RepA1 (ca : Cs) (F H : Hp) : D → V → Prop
  | .lst _ xs, v => ∃ a vs, v = .ref a ∧ H a = some (.lst vs) ∧ Reps ca F xs vs
  | .dic _ kvs, v => ∃ a vs, v = .ref a ∧ H a = some (.dK vs) ∧ RepK ca F kvs vs
  | .obj C fs, v => ∃ a dx vs, v = .ref a ∧ H a = some (.ins (ca.ad C) dx vs) ∧ RepF ca F fs vs
  | d, v => Rep ca F d v
def RepA (ca : Cs) (F H : Hp) : D → V → Prop
  | .tup ds, v => ∃ a vs, v = .ref a ∧ H a = some (.tup vs) ∧ vs.length = ds.length ∧ ∀ (i : Nat) (d : D) (w : V), ds[i]? = some d → vs[i]? = some w → RepA1 ca F H d w
  | d, v => RepA1 ca F H d v
section
variable {ca : Cs} {F H : Hp} {O : Own} {L : Nat → Lab}
theorem Rep.a1 (e : Sub F H) {d : D} {v : V} (h : Rep ca F d v) : RepA1 ca F H d v := by
  cases d with
  | lst t xs =>
    unfold Rep at h
    obtain ⟨a, vs, h1, h2, _, h4⟩ := h
    exact ⟨a, vs, h1, e _ _ h2, h4⟩
  | dic t xs =>
    unfold Rep at h
    obtain ⟨a, vs, h1, h2, _, h4⟩ := h
    exact ⟨a, vs, h1, e _ _ h2, h4⟩
  | obj C fs =>
    unfold Rep at h
    obtain ⟨a, dx, vs, h1, h2, h4⟩ := h
    exact ⟨a, dx, vs, h1, e _ _ h2, h4⟩
  | _ => exact h
theorem RepO.a1 {l : Lab} (e : Sub F H) {d : D} {v : V} (h : RepO ca F H O l d v) : RepA1 ca F H d v := by
  cases d with
  | lst t xs =>
    obtain ⟨a, vs, h1, h2, _, _, h4⟩ := h
    exact ⟨a, vs, h1, h2, h4⟩
  | dic t xs =>
    obtain ⟨a, vs, h1, h2, _, _, h4⟩ := h
    exact ⟨a, vs, h1, h2, h4⟩
  | obj C fs =>
    obtain ⟨a, dx, vs, h1, h2, _, h4⟩ := h
    exact ⟨a, dx, vs, h1, h2, h4⟩
  | _ => exact Rep.a1 e h
theorem RepA1.a (e : Sub F H) {d : D} {v : V} (h : RepA1 ca F H d v) : RepA ca F H d v := by
  cases d with
  | tup ds =>
    have h' : Rep ca F (.tup ds) v := h
    unfold Rep at h'
    obtain ⟨a, vs, h1, h2, h3⟩ := h'
    refine ⟨a, vs, h1, e _ _ h2, h3.length, fun i d w e1 e2 => ?_⟩
    obtain ⟨w', e3, r⟩ := h3.get e1
    rw [e2] at e3; cases e3
    exact Rep.a1 e r
  | _ => exact h
theorem repC_len : ∀ {cs : List (Bool × D)} {c : Nat} {vs : List V}, RepC ca F H O L c cs vs → vs.length = cs.length
  | [], c, vs, h => by unfold RepC at h; subst h; rfl
  | (true, d) :: r, c, vs, h => by
    unfold RepC at h
    obtain ⟨v, w, h1, h2, h3⟩ := h
    subst h1
    rw [List.length_cons, List.length_cons, repC_len h3]
  | (false, d) :: r, c, vs, h => by
    unfold RepC at h
    obtain ⟨v, w, h1, h2, h3⟩ := h
    subst h1
    rw [List.length_cons, List.length_cons, repC_len h3]
theorem repC_get (e : Sub F H) : ∀ {cs : List (Bool × D)} {c : Nat} {vs : List V} {i : Nat} {d : D} {w : V}, RepC ca F H O L c cs vs → (cs.map (·.2))[i]? = some d → vs[i]? = some w → RepA1 ca F H d w
  | [], c, vs, i, d, w, h, e1, e2 => by simp at e1
  | (b, d0) :: r, c, vs, i, d, w, h, e1, e2 => by
    have key : ∃ v us, vs = v :: us ∧ RepA1 ca F H d0 v ∧ RepC ca F H O L (c + 1) r us := by
      cases b with
      | true =>
        unfold RepC at h
        obtain ⟨v, us, h1, h2, h3⟩ := h
        exact ⟨v, us, h1, h2.a1 e, h3⟩
      | false =>
        unfold RepC at h
        obtain ⟨v, us, h1, h2, h3⟩ := h
        exact ⟨v, us, h1, h2.a1 e, h3⟩
    obtain ⟨v, us, h1, h2, h3⟩ := key
    subst h1
    cases i with
    | zero =>
      simp at e1 e2
      subst e1 e2
      exact h2
    | succ i => exact repC_get e (i := i) h3 (by simpa using e1) (by simpa using e2)
theorem RepR.a (e : Sub F H) {r : R} {v : V} (h : RepR ca F H O L r v) : RepA ca F H r.d v := by
  cases r with
  | sh d => exact (Rep.a1 e h).a e
  | ow d => exact (RepO.a1 e h).a e
  | tp cs =>
    obtain ⟨a, vs, h1, h2, h3⟩ := h
    refine ⟨a, vs, h1, e _ _ h2, ?_, fun i d w e1 e2 => repC_get e h3 e1 e2⟩
    rw [repC_len h3, List.length_map]
theorem RepR.a1 (e : Sub F H) {r : R} {v : V} (h : RepR ca F H O L r v) (n : noTp r = true) : RepA1 ca F H r.d v := by
  cases r with
  | sh d => exact Rep.a1 e h
  | ow d => exact RepO.a1 e h
  | tp cs => cases n
end
/-- rows -/
def All2 (P : D → V → Prop) : List D → List V → Prop
  | [], vs => vs = []
  | d :: ds, vs => ∃ v w, vs = v :: w ∧ P d v ∧ All2 P ds w
theorem RepRs.all2 {ca : Cs} {F H : Hp} {O : Own} {L : Nat → Nat → Lab} {P : D → V → Prop} : ∀ {rs : List R} {k : Nat} {vs : List V}, RepRs ca F H O L k rs vs → (∀ r, r ∈ rs → ∀ L' v, RepR ca F H O L' r v → P r.d v) → All2 P (rs.map R.d) vs
  | [], k, vs, h, _ => by unfold RepRs at h; exact h
  | r :: rs, k, vs, h, g => by
    unfold RepRs at h
    obtain ⟨v, w, h1, h2, h3⟩ := h
    exact ⟨v, w, h1, g r List.mem_cons_self _ _ h2, h3.all2 fun r' m => g r' (List.mem_cons_of_mem _ m)⟩
/-- an answer: what stood stands; what is new is frozen, but the root of a new list or dict -/
structure Fin (ca : Cs) (F H : Hp) (r : R) (v : V) (F' H' : Hp) : Prop where
  sub : Sub H H'
  ext : Sub F F'
  ins : Sub F' H'
  new : ∀ a o, F' a = some o → F a = some o ∨ H a = none
  val : match r with
    | .sh d => Rep ca F' d v
    | .ow (.lst t xs) => t = none ∧ ∃ a vs, v = .ref a ∧ H a = none ∧ F' a = none ∧ H' a = some (.lst vs) ∧ Reps ca F' xs vs
    | .ow (.dic t xs) => t = none ∧ ∃ a vs, v = .ref a ∧ H a = none ∧ F' a = none ∧ H' a = some (.dK vs) ∧ RepK ca F' xs vs
    | _ => False
/-- an operation by values -/
def rP (ca : Cs) (p : List D → M R) : List V → Hp → VK → Prop := fun vs H Q => ∃ F ds r, Sub F H ∧ p ds = .ok r ∧ (All2 (RepA1 ca F H) ds vs ∨ (All2 (RepA ca F H) ds vs ∧ flatD r.d = true)) ∧ ∀ v F' H', Fin ca F H r v F' H' → Q v H'
theorem sem_ok {p : P} {ds : List D} : (∃ r, p.sem ds = .ok r) ∨ p.sem ds = .no ∨ ∃ c d, p.sem ds = .ex c d := by
  cases p.sem ds with
  | ok r => exact .inl ⟨r, rfl⟩
  | no => exact .inr (.inl rfl)
  | ex c d => exact .inr (.inr ⟨c, d, rfl⟩)
/-! ### the state behind an operation -/
def aPrim (k : Nat) (lk : List (Option Nat)) : Act := fun l => match l with
  | .s i c => some (some (.s i c))
  | .t j c => if j < k then some (some (.t j c)) else (match lk[j - k]? with
    | some (some i) => some (some (.s i c))
    | _ => some none)
theorem aPrim_low (k : Nat) (lk : List (Option Nat)) : Low k (aPrim k lk) := fun j c h => if_pos h
theorem aPrim_ne (k : Nat) (lk : List (Option Nat)) (l : Lab) : aPrim k lk l ≠ none := by
  cases l with
  | s i c => exact fun h => nomatch h
  | t j c =>
    unfold aPrim
    simp only
    split
    · exact fun h => nomatch h
    · split <;> exact fun h => nomatch h
theorem aPrim_lent {k j i c : Nat} {lk : List (Option Nat)} (h : lk[j]? = some (some i)) : aPrim k lk (.t (k + j) c) = some (some (.s i c)) := by
  show (if k + j < k then some (some (Lab.t (k + j) c)) else (match lk[k + j - k]? with
    | some (some i) => some (some (Lab.s i c))
    | _ => some none)) = _
  rw [if_neg (by omega), show k + j - k = j by omega, h]
section
variable {ca : Cs} {F H F' H' : Hp} {O : Own} {env : En} {σ : L2.St} {k : Nat} {lk : List (Option Nat)}
theorem prim_bs (b : Bs F O H) (lk : List (Option Nat)) (k : Nat) : Bs F (mO (aPrim k lk) O) H ∧ Stp k F O H F (mO (aPrim k lk) O) H := by
  have e : mF (aPrim k lk) O F H = F := mF_same (aPrim_ne k lk)
  have h1 := b.map (aPrim k lk)
  have h2 := b.stp (aPrim_low k lk)
  rw [e] at h1 h2
  exact ⟨h1, h2⟩
/-- the heap grows, nothing is owned anew -/
theorem fin_bs (b : Bs F O H) {r : R} {v : V} (f : Fin ca F H r v F' H') : Bs F' O H' := by
  refine ⟨f.ins, fun a l e => ?_, fun a l e => ?_⟩
  · cases q : F' a with
    | none => rfl
    | some o =>
      rcases f.new a o q with z | z
      · rw [b.dis a l e] at z; cases z
      · obtain ⟨o', y⟩ := b.own a l e
        rw [z] at y; cases y
  · obtain ⟨o, y⟩ := b.own a l e
    exact ⟨o, f.sub a o y⟩
theorem fin_stp (b : Bs F O H) {r : R} {v : V} (f : Fin ca F H r v F' H') (k : Nat) : Stp k F O H F' O H' := by
  refine ⟨f.ext, fun a o e _ => f.sub a o e, fun _ _ _ _ => rfl, fun a o e p n => ?_, fun a o e => ⟨o, f.sub a o e⟩⟩
  cases q : F' a with
  | none => rfl
  | some u =>
    rcases f.new a u q with z | z
    · rw [n] at z; cases z
    · rw [e] at z; cases z
theorem newO_bs {a : Addr} {o : HO} {l : Lab} (b : Bs F' O H') (h : H' a = some o) (n : F' a = none) : Bs F' (newO O a l) H' := by
  refine ⟨b.sub, fun c m e => ?_, fun c m e => ?_⟩
  · by_cases hc : c = a
    · subst hc; exact n
    · rw [newO_ne hc] at e; exact b.dis c m e
  · by_cases hc : c = a
    · subst hc; exact ⟨o, h⟩
    · rw [newO_ne hc] at e; exact b.own c m e
/-- behind an operation: its answer at k, the lent slots given back -/
theorem prim_end (ae : AE ca F O env σ H) (bl : Below O k ∨ True) {rs : List R} {vs : List V} (rvs : RepRs ca F H O Lab.t k rs vs) (ln : Lnk lk σ vs) {r : R} {v : V} (f : Fin ca F H r v F' H') :
    ∃ O', Stp k F O H F' O' H' ∧ AE ca F' O' (backs (rs.map some) lk env) σ H' ∧ RepR ca F' H' O' (.t k) r v ∧ Below O' (k + 1) := by
  obtain ⟨b1, s1⟩ := prim_bs ae.bs lk k
  have b2 := fin_bs b1 f
  have s2 := s1.trans (fin_stp b1 f k)
  have sl : ∀ O', (∀ a l, mO (aPrim k lk) O a = some l → O' a = some l) → ∀ (i : Nat) (q : R), (backs (rs.map some) lk env)[i]? = some (some q) → ∃ w, σ[i]? = some (some w) ∧ RepR ca F' H' O' (.s i) q w := fun O' hO i q h => by
    rcases backs_get _ _ _ _ _ h with e | ⟨j, e1, e2⟩
    · obtain ⟨w, w1, w2⟩ := ae.slot i q e
      exact ⟨w, w1, w2.rel f.ext fun c a o z y => ⟨f.sub a o y, hO a _ (mO_some z rfl)⟩⟩
    · rw [List.getElem?_map] at e1
      cases er : rs[j]? with
      | none => rw [er] at e1; cases e1
      | some q' =>
        rw [er] at e1
        have e3 : q' = q := by
          have := Option.some.inj e1
          exact Option.some.inj this
        subst e3
        obtain ⟨w, w1, w2⟩ := rvs.get er
        obtain ⟨w', w3, w4⟩ := ln j i e2
        rw [w1] at w3; cases w3
        exact ⟨w, w4, w2.rel f.ext fun c a o z y => ⟨f.sub a o y, hO a _ (mO_some z (aPrim_lent e2))⟩⟩
  have lowO : ∀ a j c, mO (aPrim k lk) O a = some (.t j c) → j < k + 1 := fun a j c e => by
    obtain ⟨l, e1, e2⟩ := mO_inv e
    cases l with
    | s i' c' => cases e2
    | t j' c' =>
      unfold aPrim at e2
      simp only at e2
      split at e2
      · cases e2; omega
      · split at e2 <;> cases e2
  have root : ∀ (a : Addr) (o : HO), H a = none → F' a = none → H' a = some o → ∃ O', Stp k F O H F' O' H' ∧ AE ca F' O' (backs (rs.map some) lk env) σ H' ∧ O' a = some (.t k 0) ∧ Below O' (k + 1) := fun a o n1 n2 e => by
    have fr : mO (aPrim k lk) O a = none := (b1.fr n1).2
    refine ⟨newO (mO (aPrim k lk) O) a (.t k 0), ⟨s2.ext, s2.keep, fun c u y p => ?_, s2.frz, s2.dom⟩, (newO_bs b2 e n2).ae (sl _ (newO_keep fr)), newO_same, fun c j m y => ?_⟩
    · rw [newO_ne (fun hc => by subst hc; rw [n1] at y; cases y)]
      exact s2.lab c u y p
    · by_cases hc : c = a
      · subst hc; rw [newO_same] at y; cases y; exact Nat.lt_succ_self _
      · rw [newO_ne hc] at y; exact lowO c j m y
  cases r with
  | sh d => exact ⟨_, s2, b2.ae (sl _ fun _ _ z => z), f.val, lowO⟩
  | ow d =>
    cases d with
    | lst t xs =>
      obtain ⟨rfl, a, us, e1, e2, e3, e4, e5⟩ := f.val
      obtain ⟨O', q1, q2, q3, q4⟩ := root a _ e2 e3 e4
      exact ⟨O', q1, q2, ⟨a, us, e1, e4, q3, .inl rfl, e5⟩, q4⟩
    | dic t xs =>
      obtain ⟨rfl, a, us, e1, e2, e3, e4, e5⟩ := f.val
      obtain ⟨O', q1, q2, q3, q4⟩ := root a _ e2 e3 e4
      exact ⟨O', q1, q2, ⟨a, us, e1, e4, q3, .inl rfl, e5⟩, q4⟩
    | _ => exact (show False from f.val).elim
  | tp cs => exact (show False from f.val).elim
end
/-! ### a term that is an operation -/
section
variable {X : Cx} {ca : Cs} {Φ : FT} {gs : GX} {W : WX} {x : Expr}
/-- the operation's rule reads p -/
def PrimE (X : Cx) (ca : Cs) (p : P) (x : Expr) (ts : List TE) : Prop := PE X x fun σ H Q => seqT ts σ H fun vs H1 => rP ca p.sem vs H1 Q
def PrimT (X : Cx) (ca : Cs) (p : P) (x : Expr) (ts : List TE) : Prop := PT X x fun σ H Q => seqT ts σ H fun vs H1 => rP ca p.sem vs H1 fun v H2 => ∃ b, v = .bl b ∧ Q b H2
theorem mopt_ex {o : Option D} {c : Str} {d : D} : mopt o ≠ .ex c d := by
  cases o <;> exact fun h => nomatch h
theorem mbo_ex {o : Option Bool} {c : Str} {d : D} : mbo o ≠ .ex c d := by
  cases o <;> exact fun h => nomatch h
theorem semBin_ex {op : Operator} {x y : D} {c : Str} {d : D} : semBin op x y ≠ .ex c d := by
  intro h
  unfold semBin at h
  split at h <;> first
    | (cases h; done)
    | (split at h <;> (cases h; done))
theorem semCmp_ex {op : CmpOp} {x y : D} {c : Str} {d : D} : semCmp op x y ≠ .ex c d := by
  intro h
  unfold semCmp at h
  split at h <;> first
    | (cases h; done)
    | exact mbo_ex h
theorem semIdx_ex {x y : D} {c : Str} {d : D} : semIdx x y ≠ .ex c d := by
  intro h
  unfold semIdx at h
  split at h <;> first
    | (cases h; done)
    | exact mopt_ex h
    | (split at h <;> first
      | (cases h; done)
      | exact mopt_ex h)
theorem semSl_ex {x : D} {lo hi : Option Int} {c : Str} {d : D} : semSl x lo hi ≠ .ex c d := by
  intro h
  unfold semSl at h
  split at h <;> first
    | (cases h; done)
    | (split at h <;> (cases h; done))
theorem semFn_ex {f : Fn} {ds : List D} {c : Str} {d : D} : semFn f ds ≠ .ex c d := by
  intro h
  unfold semFn at h
  split at h
  all_goals
    first
      | unfold semLen at h
      | unfold semInt at h
      | unfold semStr at h
      | unfold semAll at h
      | unfold semAny at h
      | unfold semSum at h
      | unfold semMax2 at h
      | unfold semMin2 at h
      | unfold semList at h
      | unfold semRepr at h
      | unfold semMax1 at h
      | unfold semMin1 at h
      | unfold semTuple at h
      | unfold semSorted at h
    split at h <;> first
      | (cases h; done)
      | (split at h <;> first
        | (cases h; done)
        | (split at h <;> (cases h; done)))
theorem semMt_ex {m : Mt} {ds : List D} {c : Str} {d : D} : semMt m ds ≠ .ex c d := by
  intro h
  unfold semMt at h
  split at h
  all_goals
    first
      | unfold semJoin at h
      | unfold semCount at h
      | unfold semFind at h
      | unfold semStarts at h
      | unfold semSplit at h
      | unfold semGet at h
      | unfold semIndex at h
    split at h <;> first
      | (cases h; done)
      | (split at h <;> first
        | (cases h; done)
        | (split at h <;> (cases h; done)))
theorem semSp_ex {f : Sp1} {ds : List D} {c : Str} {d : D} : semSp f ds ≠ .ex c d := by
  intro h
  unfold semSp at h
  split at h
  all_goals
    first
      | unfold semSset at h
      | unfold semLset at h
    split at h <;> first
      | (cases h; done)
      | (split at h <;> first
        | (cases h; done)
        | (split at h <;> (cases h; done)))
theorem semIsc_ex {C : Str} {As : List Str} {d0 : D} {c : Str} {d : D} : semIsc C As d0 ≠ .ex c d := by
  intro h
  unfold semIsc at h
  split at h
  · split at h <;> cases h
  · cases h
theorem P.sem_ex {p : P} {ds : List D} {c : Str} {d : D} : p.sem ds ≠ .ex c d := by
  intro h
  unfold P.sem at h
  split at h <;> first
    | (cases h; done)
    | (split at h <;> first | exact mopt_ex h | (cases h; done))
    | exact semIsc_ex h
    | exact semBin_ex h
    | exact semCmp_ex h
    | exact semIdx_ex h
    | exact semSl_ex h
    | exact semFn_ex h
    | exact semSp_ex h
    | (split at h <;> (cases h; done))
theorem prim_e {p : P} {es : T} {env : En} : one1 (ev Φ (.prim p es) env) = (ev Φ es env).bind fun a => (p.sem (a.1.map R.d)).bind fun r => if okRes a.1 r then .ok (r, backs (a.1.map some) (bkOf es) a.2) else .no := by
  have e0 : ev Φ (.prim p es) env = (ev Φ es env).bind fun a => (p.sem (a.1.map R.d)).bind fun r => if okRes a.1 r then .ok ([r], backs (a.1.map some) (bkOf es) a.2) else .no := rfl
  rw [e0, one1_bind]
  congr 1
  funext a
  rw [one1_bind]
  congr 1
  funext r
  cases okRes a.1 r <;> rfl
/-- the operands stand; from the outcome to the reading -/
theorem prim_go {α : Type} {sem : List D → M R} (hex : ∀ ds c d, sem ds ≠ .ex c d) {lk : List (Option Nat)} {σ : L2.St} {F H : Hp} {O : Own} {env : En} {k : Nat} {rs : List R} {vs : List V} {Q : VK} {f : R → En → M α} {C : α → Hp → Own → Hp → Prop}
    (p : PostG ca W σ k F O H ((sem (rs.map R.d)).bind fun r => if okRes rs r then f r (backs (rs.map some) lk env) else .no) C) (ae : AE ca F O env σ H) (rvs : RepRs ca F H O Lab.t k rs vs) (ln : Lnk lk σ vs)
    (h : ∀ r v F' O' H', PostG ca W σ k F' O' H' (f r (backs (rs.map some) lk env)) C → AE ca F' O' (backs (rs.map some) lk env) σ H' → RepR ca F' H' O' (.t k) r v → Below O' (k + 1) → Q v H') : rP ca sem vs H Q := by
  cases e : sem (rs.map R.d) with
  | no => rw [e] at p; exact p.elim
  | ex c d => exact absurd e (hex _ _ _)
  | ok r =>
    rw [e] at p
    have p2 : PostG ca W σ k F O H (if okRes rs r then f r (backs (rs.map some) lk env) else .no) C := p
    cases q : okRes rs r with
    | false => rw [q] at p2; exact p2.elim
    | true =>
      rw [q] at p2
      have p3 : PostG ca W σ k F O H (f r (backs (rs.map some) lk env)) C := p2
      refine ⟨F, rs.map R.d, r, ae.sub, e, ?_, fun v F' H' fn => ?_⟩
      · unfold okRes at q
        simp only [Bool.or_eq_true] at q
        rcases q with q | q
        · exact .inl (rvs.all2 fun r' m L' v' z => z.a1 ae.sub (List.all_eq_true.mp q r' m))
        · exact .inr ⟨rvs.all2 fun r' m L' v' z => z.a ae.sub, q⟩
      · obtain ⟨O', s1, s2, s3, s4⟩ := prim_end ae (.inr trivial) rvs ln fn
        refine h r v F' O' H' ?_ s2 s3 s4
        exact (PostG.bind (m := .ok ()) (f := fun _ => f r (backs (rs.map some) lk env)) p3) _ _ _ s1
theorem snd_prim {p : P} {es : T} {xs : List Expr} (h : ArgOk X ca Φ W es xs) (hx : ∀ ts, PEs X xs ts → PrimE X ca p x ts) : PE X x (tE ca Φ W (.prim p es)) := by
  obtain ⟨ts, pe, i⟩ := h
  refine peImp (hx ts pe) fun σ H Q q => ?_
  obtain ⟨F, O, env, k, ae, bl, p⟩ := q
  rw [prim_e] at p
  refine i _ _ _ ⟨F, O, env, k, ae, bl, p.bind.imp fun a F1 O1 H1 st1 p1 vs ae1 rvs bl1 z => ?_⟩
  exact prim_go (f := fun r e => .ok (r, e)) (fun _ _ _ => P.sem_ex) p1 ae1 rvs z.1 fun r v F' O' H' p2 a2 r2 b2 => p2.here v a2 r2 b2
theorem snd_primT {p : P} {es : T} {xs : List Expr} (h : ArgOk X ca Φ W es xs) (hx : ∀ ts, PEs X xs ts → PrimT X ca p x ts) : PT X x (tT ca Φ W (.prim p es)) := by
  obtain ⟨ts, pe, i⟩ := h
  refine ptImp (hx ts pe) fun σ H Q q => ?_
  obtain ⟨F, O, env, k, ae, bl, pp⟩ := q
  have e3 : evB Φ (.prim p es) env = (ev Φ es env).bind fun a => (p.sem (a.1.map R.d)).bind fun r => if okRes a.1 r then (asB r).bind fun t => .ok (t, backs (a.1.map some) (bkOf es) a.2) else .no := by
    unfold evB
    rw [prim_e, M.bind_assoc]
    congr 1
    funext a
    rw [M.bind_assoc]
    congr 1
    funext r
    cases okRes a.1 r <;> rfl
  rw [e3] at pp
  refine i _ _ _ ⟨F, O, env, k, ae, bl, pp.bind.imp fun a F1 O1 H1 st1 p1 vs ae1 rvs bl1 z => ?_⟩
  refine prim_go (f := fun r e => (asB r).bind fun t => .ok (t, e)) (fun _ _ _ => P.sem_ex) p1 ae1 rvs z.1 fun r v F' O' H' p2 a2 r2 b2 => ?_
  cases e : asB r with
  | ok t =>
    rw [e] at p2
    rw [asB_rep e] at r2
    have ev : v = .bl t := by unfold RepR Rep at r2; exact r2
    refine ⟨t, ev, ?_⟩
    have key := p2 (mF (aTz k) O' F' H') (mO (aTz k) O') H' (a2.bs.stp (aTz_low k))
    exact key (a2.mapS _ fun _ _ => rfl) below_tz
  | ex c d => exact (asB_ex e).elim
  | no =>
    rw [e] at p2
    exact p2.elim
end
end FH
set_option Elab.async false
set_option linter.all false
set_option maxRecDepth 100000
set_option maxHeartbeats 4000000
namespace FH
open PySem PySem.Spec PyProof.Rows L2
section
variable {ca : Cs} {F H : Hp}
theorem fin_sh {d : D} {v : V} (s : Sub F H) (h : Rep ca F d v) : Fin ca F H (.sh d) v F H := ⟨.refl _, .refl _, s, fun _ _ e => .inl e, h⟩
theorem fin_int {i : Int} (s : Sub F H) : Fin ca F H (.sh (.int i)) (.int i) F H := fin_sh s (by unfold Rep; rfl)
theorem fin_bl {i : Bool} (s : Sub F H) : Fin ca F H (.sh (.bl i)) (.bl i) F H := fin_sh s (by unfold Rep; rfl)
theorem fin_str {i : Str} (s : Sub F H) : Fin ca F H (.sh (.str i)) (.str i) F H := fin_sh s (by unfold Rep; rfl)
theorem fin_lst {p : Addr} {xs : List D} {vs : List V} (s : Sub F H) (h : H p = none) (r : Reps ca F xs vs) : Fin ca F H (.ow (.lst none xs)) (.ref p) F (upd H p (.lst vs)) := by
  have n : F p = none := by
    cases e : F p with
    | none => rfl
    | some o => rw [s p o e] at h; cases h
  exact ⟨sub_upd h, .refl _, s.trans (sub_upd h), fun _ _ e => .inl e, rfl, p, vs, rfl, h, n, upd_same, r⟩
/-- two operands -/
theorem rP2 {p : List D → M R} {x y : V} {Q : VK} (h : rP ca p [x, y] H Q) : ∃ F d1 d2 r, Sub F H ∧ p [d1, d2] = .ok r ∧ RepA ca F H d1 x ∧ RepA ca F H d2 y ∧ ((RepA1 ca F H d1 x ∧ RepA1 ca F H d2 y) ∨ flatD r.d = true) ∧ ∀ v F' H', Fin ca F H r v F' H' → Q v H' := by
  obtain ⟨F, ds, r, s, e, rep, k⟩ := h
  have sh : ∀ {P : D → V → Prop}, All2 P ds [x, y] → ∃ d1 d2, ds = [d1, d2] ∧ P d1 x ∧ P d2 y := fun {P} h => by
    match ds, h with
    | [], h => cases h
    | [_], ⟨_, _, h1, _, h2⟩ => cases h1; cases h2
    | [d1, d2], ⟨_, _, h1, h2, _, _, h3, h4, h5⟩ => cases h1; cases h3; exact ⟨d1, d2, rfl, h2, h4⟩
    | _ :: _ :: _ :: _, ⟨_, _, h1, _, _, _, h3, _, _, _, h5, _⟩ => cases h1; cases h3; cases h5
  rcases rep with rep | ⟨rep, fl⟩
  · obtain ⟨d1, d2, rfl, r1, r2⟩ := sh rep
    exact ⟨F, d1, d2, r, s, e, r1.a s, r2.a s, .inl ⟨r1, r2⟩, k⟩
  · obtain ⟨d1, d2, rfl, r1, r2⟩ := sh rep
    exact ⟨F, d1, d2, r, s, e, r1, r2, .inr fl, k⟩
theorem rP1 {p : List D → M R} {x : V} {Q : VK} (h : rP ca p [x] H Q) : ∃ F d1 r, Sub F H ∧ p [d1] = .ok r ∧ RepA ca F H d1 x ∧ (RepA1 ca F H d1 x ∨ flatD r.d = true) ∧ ∀ v F' H', Fin ca F H r v F' H' → Q v H' := by
  obtain ⟨F, ds, r, s, e, rep, k⟩ := h
  have sh : ∀ {P : D → V → Prop}, All2 P ds [x] → ∃ d1, ds = [d1] ∧ P d1 x := fun {P} h => by
    match ds, h with
    | [], h => cases h
    | [d1], ⟨_, _, h1, h2, h3⟩ => cases h1; exact ⟨d1, rfl, h2⟩
    | _ :: _ :: _, ⟨_, _, h1, _, _, _, h3, _⟩ => cases h1; cases h3
  rcases rep with rep | ⟨rep, fl⟩
  · obtain ⟨d1, rfl, r1⟩ := sh rep
    exact ⟨F, d1, r, s, e, r1.a s, .inl r1, k⟩
  · obtain ⟨d1, rfl, r1⟩ := sh rep
    exact ⟨F, d1, r, s, e, r1, .inr fl, k⟩
theorem a_int {i : Int} {v : V} (h : RepA ca F H (.int i) v) : v = .int i := by unfold RepA RepA1 Rep at h; exact h
theorem a_bl {i : Bool} {v : V} (h : RepA ca F H (.bl i) v) : v = .bl i := by unfold RepA RepA1 Rep at h; exact h
theorem a_str {i : Str} {v : V} (h : RepA ca F H (.str i) v) : v = .str i := by unfold RepA RepA1 Rep at h; exact h
theorem a_non {v : V} (h : RepA ca F H .non v) : v = .non := by unfold RepA RepA1 Rep at h; exact h
theorem a_lst {t : Option Addr} {xs : List D} {v : V} (h : RepA ca F H (.lst t xs) v) : ∃ a vs, v = .ref a ∧ H a = some (.lst vs) ∧ Reps ca F xs vs := h
theorem a_tup {xs : List D} {v : V} (h : RepA ca F H (.tup xs) v) : ∃ a vs, v = .ref a ∧ H a = some (.tup vs) ∧ vs.length = xs.length ∧ ∀ (i : Nat) (d : D) (w : V), xs[i]? = some d → vs[i]? = some w → RepA1 ca F H d w := h
theorem a_dic {t : Option Addr} {xs : List (Key × D)} {v : V} (h : RepA ca F H (.dic t xs) v) : ∃ a vs, v = .ref a ∧ H a = some (.dK vs) ∧ RepK ca F xs vs := h
end
section
variable {X : Cx} {ca : Cs}
theorem reps_rep {F : Hp} {ds : List D} {vs : List V} (h : Reps ca F ds vs) : ∀ n : Nat, Reps ca F (List.replicate n ds).flatten (List.replicate n vs).flatten
  | 0 => .nil
  | n + 1 => by
    rw [List.replicate_succ, List.replicate_succ, List.flatten_cons, List.flatten_cons]
    exact h.append (reps_rep h n)
theorem lim_of {n : Nat} (h : n ≤ LIM) : n ≤ sizeLine := Nat.le_trans h lim_le
theorem small_ok {i j : Int} (h : (small i || small j) = true) : CMul i j := by
  simp only [small, Bool.or_eq_true, decide_eq_true_eq] at h
  exact h
theorem foldl_arr : ∀ (xs : List (Array Nat)) (a : Array Nat), (xs.foldl (· ++ ·) a).toList = a.toList ++ (xs.map Array.toList).flatten
  | [], a => by simp
  | x :: xs, a => by
    rw [List.foldl_cons, foldl_arr xs (a ++ x)]
    simp
theorem strRep_eq (s : Str) (n : Nat) : (⟨(List.replicate n s.cps).foldl (· ++ ·) #[]⟩ : Str) = strRep s n := by
  unfold strRep
  congr 1
  apply Array.toList_inj.mp
  rw [foldl_arr]
  simp
theorem strRep_one (s : Str) : strRep s 1 = s := by
  unfold strRep
  cases s
  simp
theorem strRep_empty (s : Str) (n : Nat) (h : s.length = 0) : strRep s n = s := by
  have e : s.cps.toList = [] := by
    have h' : s.cps.size = 0 := h
    simpa using h'
  unfold strRep
  rw [e]
  cases s with
  | mk c =>
    have e' : c.toList = [] := e
    have : c = #[] := by apply Array.toList_inj.mp; simpa using e'
    subst this
    simp
theorem mulS {pins : List (Addr × Obj)} {s : Shared} {σ : L2.St} {H : Hp} {z : Str} {j : Int} {t u : Tok} {Q : VK} (I : Inv X pins σ H s) (h1 : -1000000 ≤ j) (h2 : j ≤ 1000000) (h3 : z.length * j.toNat ≤ LIM) (q : Q (.str (strRep z j.toNat)) H) :
    wpAny (model X.prog X.w) X.A (binaryOp .Mult (.str z t) (.int j u)) (EP X pins σ Q) X.xe s := by
  have q3 : z.length * j.toNat ≤ sizeLine := Nat.le_trans h3 lim_le
  have l0 : z.length = 0 ∨ 1 ≤ z.length := by omega
  refine PySem.P.mul_str (by
    rw [decide_eq_false (by omega), decide_eq_false (by omega)] <;> rfl) (fun a b c => ?_) (fun a b => ?_) ?_
  · have lz : z.length ≤ LIM := by
      have hj : 1 ≤ j.toNat := by omega
      exact Nat.le_trans (Nat.le_mul_of_pos_right _ (by omega)) h3
    have hd : (9000000000000 : Int) ≤ (2 ^ 63 - 1) / j := by
      refine Int.le_ediv_of_mul_le (by omega) ?_
      have : (9000000000000 : Int) * j ≤ 9000000000000 * 1000000 := Int.mul_le_mul_of_nonneg_left h2 (by decide)
      omega
    have lim : LIM = 1000000 := rfl
    omega
  · show decide (z.length * j.toNat > sizeLine) = false
    exact decide_eq_false (by omega)
  · split
    · rename_i hj
      have e0 : j.toNat = 0 := by omega
      rw [e0] at q
      have e1 : strRep z 0 = Str.empty := by unfold strRep; rfl
      rw [e1] at q
      exact ⟨by decide, .str _, H, I.tok _, ⟨_, rfl⟩, q⟩
    · split
      · rename_i hj hb
        simp only [Bool.or_eq_true, beq_iff_eq] at hb
        have e1 : strRep z j.toNat = z := by
          rcases hb with hb | hb
          · subst hb; exact strRep_one z
          · exact strRep_empty z _ hb
        rw [e1] at q
        exact ⟨.str _, H, I, ⟨_, rfl⟩, q⟩
      · rw [strRep_eq]
        refine ⟨?_, .str _, H, I.tok _, ⟨_, rfl⟩, q⟩
        have e1 : (strRep z j.toNat).length = j.toNat * z.length := by
          show (List.replicate j.toNat z.cps.toList).flatten.toArray.size = _
          rw [List.size_toArray]
          simp
          first | rfl | exact .inl rfl | exact .inr rfl
        show (strRep z j.toNat).length ≤ sizeLine
        rw [e1, Nat.mul_comm]
        exact q3
/-- a binary operator -/
theorem opr_bin {op : Operator} : OpR X (binaryOp op) (fun x y H Q => rP ca (P.bin op).sem [x, y] H Q) := by
  intro pins s σ H x y v u Q I rx ry h
  obtain ⟨F, d1, d2, r, sb, e, r1, r2, fl, k⟩ := rP2 h
  have e' : semBin op d1 d2 = .ok r := e
  unfold semBin at e'
  split at e'
  · -- int + int
    cases e'
    exact op_add pins s σ H x y v u Q I rx ry ⟨_, _, a_int r1, a_int r2, k _ _ _ (fin_int sb)⟩
  · split at e'
    · rename_i hl
      cases e'
      exact op_add_str pins s σ H x y v u Q I rx ry ⟨_, _, a_str r1, a_str r2, lim_of hl, k _ _ _ (fin_str sb)⟩
    · cases e'
  · split at e'
    · rename_i hl
      cases e'
      obtain ⟨a, vs, rfl, h1, h2⟩ := a_lst r1
      obtain ⟨b, us, rfl, h3, h4⟩ := a_lst r2
      refine op_cat pins s σ H _ _ v u Q I rx ry ⟨a, b, vs, us, rfl, rfl, h1, h3, ?_, fun p hp => k _ _ _ (fin_lst sb hp (h2.append h4))⟩
      rw [h2.length, h4.length]
      exact lim_of hl
    · cases e'
  · cases e'
    exact op_sub pins s σ H x y v u Q I rx ry ⟨_, _, a_int r1, a_int r2, k _ _ _ (fin_int sb)⟩
  · split at e'
    · rename_i hl
      cases e'
      exact op_mul pins s σ H x y v u Q I rx ry ⟨_, _, a_int r1, a_int r2, small_ok hl, k _ _ _ (fin_int sb)⟩
    · cases e'
  · split at e'
    · rename_i hl
      cases e'
      obtain ⟨a, vs, rfl, h1, h2⟩ := a_lst r1
      refine op_rep pins s σ H _ y v u Q I rx ry ⟨a, _, vs, rfl, a_int r2, h1, by omega, by omega, ?_, fun p hp => k _ _ _ (fin_lst sb hp (reps_rep h2 _))⟩
      rw [h2.length]
      exact lim_of hl.2.2
    · cases e'
  · split at e'
    · rename_i hl
      cases e'
      have e1 := a_str r1
      have e2 := a_int r2
      subst e1 e2
      obtain ⟨t, rfl⟩ := rx
      obtain ⟨t2, rfl⟩ := ry
      exact mulS I hl.1 hl.2.1 hl.2.2 (k _ _ _ (fin_str sb))
    · cases e'
  · split at e'
    · rename_i hl
      cases e'
      exact op_fdiv pins s σ H x y v u Q I rx ry ⟨_, _, a_int r1, a_int r2, hl, k _ _ _ (fin_int sb)⟩
    · cases e'
  · split at e'
    · rename_i hl
      cases e'
      exact op_mod pins s σ H x y v u Q I rx ry ⟨_, _, a_int r1, a_int r2, hl, k _ _ _ (fin_int sb)⟩
    · cases e'
  · split at e'
    · rename_i hl
      cases e'
      exact op_pow pins s σ H x y v u Q I rx ry ⟨_, _, a_int r1, a_int r2, hl, k _ _ _ (fin_int sb)⟩
    · cases e'
  · split at e'
    · rename_i hl
      cases e'
      exact op_shl pins s σ H x y v u Q I rx ry ⟨_, _, a_int r1, a_int r2, hl, k _ _ _ (fin_int sb)⟩
    · cases e'
  · split at e'
    · rename_i hl
      cases e'
      exact op_shr pins s σ H x y v u Q I rx ry ⟨_, _, a_int r1, a_int r2, hl, k _ _ _ (fin_int sb)⟩
    · cases e'
  · split at e'
    · rename_i i j hl
      cases e'
      obtain ⟨n, rfl⟩ := Int.eq_ofNat_of_zero_le hl.1
      refine op_odd pins s σ H x y v u Q I rx ry ⟨n, a_int r1, by rw [a_int r2, hl.2], ?_⟩
      exact k _ _ _ (fin_int sb)
    · cases e'
  · cases e'
/-! ### data compared -/
mutual
theorem rep_dp {K : PySem.W.Frag} {F H : Hp} (sb : Sub F H) : ∀ (d : D) (v : V) (x : PyData), Rep ca F d v → toPy d = some x → x.canLay0 = true → Dp K H v x
  | .non, v, x, h, e, c => by unfold Rep at h; subst h; unfold toPy at e; cases e; exact .non
  | .bl b, v, x, h, e, c => by unfold Rep at h; subst h; unfold toPy at e; cases e; exact .bl b
  | .int i, v, x, h, e, c => by unfold Rep at h; subst h; unfold toPy at e; cases e; exact .int i
  | .str s, v, x, h, e, c => by unfold Rep at h; subst h; unfold toPy at e; cases e; exact .str s
  | .scr ns, v, x, h, e, c => by unfold toPy at e; cases e
  | .obj _ _, v, x, h, e, c => by unfold toPy at e; cases e
  | .lst t xs, v, x, h, e, c => by
    unfold Rep at h
    obtain ⟨a, vs, rfl, h2, _, h4⟩ := h
    unfold toPy at e
    cases q : toPys xs with
    | none => rw [q] at e; cases e
    | some ys =>
      rw [q] at e
      cases e
      unfold PyData.canLay0 at c
      exact .lst (SqL.of (sb _ _ h2)) (reps_dp sb xs vs ys h4 q c)
  | .tup xs, v, x, h, e, c => by
    unfold Rep at h
    obtain ⟨a, vs, rfl, h2, h4⟩ := h
    unfold toPy at e
    cases q : toPys xs with
    | none => rw [q] at e; cases e
    | some ys =>
      rw [q] at e
      cases e
      unfold PyData.canLay0 at c
      exact .tup (SqT.of (sb _ _ h2)) (reps_dp sb xs vs ys h4 q c)
  | .dic t kvs, v, x, h, e, c => by
    unfold toPy at e
    cases q : toPyK kvs with
    | none => rw [q] at e; cases e
    | some ys =>
      rw [q] at e
      cases e
      unfold PyData.canLay0 at c
      cases c
theorem reps_dp {K : PySem.W.Frag} {F H : Hp} (sb : Sub F H) : ∀ (ds : List D) (vs : List V) (xs : List PyData), Reps ca F ds vs → toPys ds = some xs → PyData.canLayAll0 xs = true → DpAll K H vs xs
  | [], vs, xs, h, e, c => by unfold Reps at h; subst h; unfold toPys at e; cases e; exact .nil
  | d :: ds, vs, xs, h, e, c => by
    unfold Reps at h
    obtain ⟨v, r, rfl, h2, h3⟩ := h
    unfold toPys at e
    cases q : toPy d with
    | none => rw [q] at e; cases e
    | some y =>
      cases q2 : toPys ds with
      | none => rw [q, q2] at e; cases e
      | some ys =>
        rw [q, q2] at e
        cases e
        unfold PyData.canLayAll0 at c
        simp only [Bool.and_eq_true] at c
        exact .cons (rep_dp sb d v y h2 q c.1) (reps_dp sb ds r ys h3 q2 c.2)
end
theorem a1_dp {K : PySem.W.Frag} {F H : Hp} (sb : Sub F H) {d : D} {v : V} {x : PyData} (h : RepA1 ca F H d v) (e : toPy d = some x) (c : x.canLay0 = true) : Dp K H v x := by
  cases d with
  | lst t xs =>
    obtain ⟨a, vs, rfl, h2, h4⟩ := h
    unfold toPy at e
    cases q : toPys xs with
    | none => rw [q] at e; cases e
    | some ys =>
      rw [q] at e
      cases e
      unfold PyData.canLay0 at c
      exact .lst (SqL.of h2) (reps_dp sb xs vs ys h4 q c)
  | dic t kvs =>
    unfold toPy at e
    cases q : toPyK kvs with
    | none => rw [q] at e; cases e
    | some ys =>
      rw [q] at e
      cases e
      unfold PyData.canLay0 at c
      cases c
  | obj C fs => unfold toPy at e; cases e
  | _ => exact rep_dp sb _ _ _ h e c
theorem all_dp {K : PySem.W.Frag} {F H : Hp} (sb : Sub F H) : ∀ {ds : List D} {vs : List V} {xs : List PyData}, vs.length = ds.length → (∀ (i : Nat) (d : D) (w : V), ds[i]? = some d → vs[i]? = some w → RepA1 ca F H d w) → toPys ds = some xs → PyData.canLayAll0 xs = true → DpAll K H vs xs
  | [], [], xs, _, _, e, c => by unfold toPys at e; cases e; exact .nil
  | d :: ds, v :: vs, xs, hl, h, e, c => by
    unfold toPys at e
    cases q : toPy d with
    | none => rw [q] at e; cases e
    | some y =>
      cases q2 : toPys ds with
      | none => rw [q, q2] at e; cases e
      | some ys =>
        rw [q, q2] at e
        cases e
        unfold PyData.canLayAll0 at c
        simp only [Bool.and_eq_true] at c
        exact .cons (a1_dp sb (h 0 d v rfl rfl) q c.1) (all_dp sb (by simpa using hl) (fun i d' w e1 e2 => h (i + 1) d' w (by simpa using e1) (by simpa using e2)) q2 c.2)
  | [], v :: vs, xs, hl, _, _, _ => by simp at hl
  | d :: ds, [], xs, hl, _, _, _ => by simp at hl
theorem a_dp {K : PySem.W.Frag} {F H : Hp} (sb : Sub F H) {d : D} {v : V} {x : PyData} (h : RepA ca F H d v) (e : toPy d = some x) (c : x.canLay0 = true) : Dp K H v x := by
  cases d with
  | tup xs =>
    obtain ⟨a, vs, rfl, h2, h3, h4⟩ := h
    unfold toPy at e
    cases q : toPys xs with
    | none => rw [q] at e; cases e
    | some ys =>
      rw [q] at e
      cases e
      unfold PyData.canLay0 at c
      exact .tup (SqT.of h2) (all_dp sb h3 h4 q c)
  | _ =>
    unfold RepA at h
    exact a1_dp sb h e c
/-- == of two data, at most a Boolean -/
theorem eqD_rule {neg : Bool} {F H : Hp} {d1 d2 : D} {b : Bool} {x y : V} (hu : X.A.units + 64 < cLine) {pins : List (Addr × Obj)} {σ : L2.St} {s : Shared} {v u : Value} {Q : VK} (I : Inv X pins σ H s) (rx : RelV x v) (ry : RelV y u) (sb : Sub F H)
    (r1 : RepA ca F H d1 x) (r2 : RepA ca F H d2 y) (e : eqD d1 d2 = some b) (q : Q (.bl (if neg then !b else b)) H) : wpAny (model X.prog X.w) X.A (compareOp (if neg then .NotEq else .Eq) v u) (EP X pins σ Q) X.xe s := by
  have one : ∀ {c : Bool}, scal x y = true → decide (x = y) = c → c = b → wpAny (model X.prog X.w) X.A (compareOp (if neg then .NotEq else .Eq) v u) (EP X pins σ Q) X.xe s := fun {c} h1 h2 h3 => by
    subst h3
    cases neg with
    | false => exact op_eq pins s σ H x y v u Q I rx ry ⟨h1, by rw [h2]; exact q⟩
    | true => exact op_ne pins s σ H x y v u Q I rx ry ⟨h1, by rw [h2]; exact q⟩
  unfold eqD at e
  split at e
  case h_15 =>
    unfold eqDeep at e
    cases q1 : toPy d1 with
    | none => rw [q1] at e; cases e
    | some p1 =>
      cases q2 : toPy d2 with
      | none => rw [q1, q2] at e; cases e
      | some p2 =>
        rw [q1, q2] at e
        simp only at e
        split at e
        · rename_i hs
          simp only [Bool.and_eq_true] at hs
          cases e
          have k1 := a_dp (K := X.K) sb r1 q1 (SeqAt.canLay_of_shaped hs.1)
          have k2 := a_dp (K := X.K) sb r2 q2 (SeqAt.canLay_of_shaped hs.2)
          cases neg with
          | false => exact op_eqD hu pins s σ H x y v u Q I rx ry ⟨p1, p2, k1, k2, hs.1, hs.2, q⟩
          | true => exact op_neD hu pins s σ H x y v u Q I rx ry ⟨p1, p2, k1, k2, hs.1, hs.2, q⟩
        · cases e
  all_goals
    (first
      | (have z1 := a_int r1)
      | (have z1 := a_str r1)
      | (have z1 := a_bl r1)
      | (have z1 := a_non r1))
    (first
      | (have z2 := a_int r2)
      | (have z2 := a_str r2)
      | (have z2 := a_bl r2)
      | (have z2 := a_non r2))
    subst z1 z2
    refine one rfl rfl (Option.some.inj ((show some (decide _) = some _ from ?_).trans e))
    first
      | (congr 1; simp; done)
      | (rfl)
end
end FH
set_option Elab.async false
set_option linter.all false
set_option maxRecDepth 100000
set_option maxHeartbeats 4000000
namespace FH
open PySem PySem.Spec PyProof.Rows L2
section
variable {X : Cx} {ca : Cs} {F H : Hp}
theorem flat_v {d : D} {v : V} (f : flatD d = true) (h : Rep ca F d v) : flatV v = true := by
  cases d <;> first
    | (unfold flatD at f; cases f; done)
    | (unfold Rep at h; subst h; rfl)
theorem eqF_v {d e : D} {v u : V} (f : flatD d = true) (g : flatD e = true) (h : Rep ca F d v) (k : Rep ca F e u) : eqV v u = eqF d e := by
  cases d <;> first
    | (unfold flatD at f; cases f; done)
    | (cases e <;> first
      | (unfold flatD at g; cases g; done)
      | (unfold Rep at h k; subst h k; rfl)
      | (unfold Rep at h k; subst h k; unfold eqV eqF; rw [Bool.beq_eq_decide_eq]))
theorem allFlat : ∀ {ds : List D} {vs : List V}, Reps ca F ds vs → ds.all flatD = true → vs.all flatV = true
  | [], vs, h, f => by unfold Reps at h; subst h; rfl
  | d :: ds, vs, h, f => by
    unfold Reps at h
    obtain ⟨v, r, rfl, h2, h3⟩ := h
    rw [List.all_cons, Bool.and_eq_true] at f
    rw [List.all_cons, flat_v f.1 h2, allFlat h3 f.2] <;> rfl
theorem inF_v {x : D} {v : V} (fx : flatD x = true) (hx : Rep ca F x v) : ∀ {ds : List D} {vs : List V}, Reps ca F ds vs → ds.all flatD = true → inV v vs = inF x ds
  | [], vs, h, f => by unfold Reps at h; subst h; rfl
  | d :: ds, vs, h, f => by
    unfold Reps at h
    obtain ⟨w, r, rfl, h2, h3⟩ := h
    rw [List.all_cons, Bool.and_eq_true] at f
    have ih := inF_v fx hx h3 f.2
    show (eqV w v || inV v r) = (eqF d x || inF x ds)
    rw [eqF_v f.1 fx h2 hx, ih]
theorem rep_flat {d : D} {v : V} (f : flatD d = true) (h : RepA ca F H d v) : Rep ca F d v := by
  cases d <;> first
    | (unfold flatD at f; cases f; done)
    | (unfold RepA RepA1 at h; exact h)
theorem a1_flat {d : D} {v : V} (f : flatD d = true) (h : RepA1 ca F H d v) : Rep ca F d v := by
  cases d <;> first
    | (unfold flatD at f; cases f; done)
    | (unfold RepA1 at h; exact h)
/-- a tuple of flat things, fresh or not -/
theorem tup_flat {ds : List D} {vs : List V} (hl : vs.length = ds.length) (h : ∀ (i : Nat) (d : D) (w : V), ds[i]? = some d → vs[i]? = some w → RepA1 ca F H d w) (f : ds.all flatD = true) : Reps ca F ds vs :=
  .of_get hl fun i d v e1 e2 => a1_flat (List.all_eq_true.mp f d (List.mem_of_getElem? e1)) (h i d v e1 e2)
theorem str_one {s : Str} {c : Nat} (h : s.cps.toList = [c]) : s = ⟨#[c]⟩ := by
  cases s with
  | mk a =>
    have : a = #[c] := by
      apply Array.toList_inj.mp
      simpa using h
    rw [this]
theorem keyV {x : D} {v : V} {k : Key} (e : keyD x = some k) (h : RepA ca F H x v) : v = kV k := by
  cases x <;> first
    | (unfold keyD at e; cases e; done)
    | (unfold keyD at e; cases e; unfold RepA RepA1 Rep at h; exact h)
theorem getK_v : ∀ {ds : List (Key × D)} {vs : List (Key × V)} {k : Key}, RepK ca F ds vs → (getK ds k = none ∧ valV vs k = none) ∨ ∃ d v, getK ds k = some d ∧ valV vs k = some v ∧ Rep ca F d v
  | [], vs, k, h => by unfold RepK at h; subst h; exact .inl ⟨rfl, rfl⟩
  | (j, d) :: ds, vs, k, h => by
    unfold RepK at h
    obtain ⟨v, r, rfl, h2, h3⟩ := h
    by_cases e : j = k
    · refine .inr ⟨d, v, ?_, ?_, h2⟩
      · simp [getK, List.find?_cons, e]
      · exact valV_pos e
    · have e1 : getK ((j, d) :: ds) k = getK ds k := by simp [getK, List.find?_cons, e]
      have e2 : valV ((j, v) :: r) k = valV r k := valV_neg e
      rw [e1, e2]
      exact getK_v h3
theorem semIn_rule {neg : Bool} {d1 d2 : D} {b : Bool} {x y : V} (hu : X.A.units + 64 < cLine) {pins : List (Addr × Obj)} {σ : L2.St} {s : Shared} {v u : Value} {Q : VK} (I : Inv X pins σ H s) (rx : RelV x v) (ry : RelV y u) (sb : Sub F H)
    (r1 : RepA ca F H d1 x) (r2 : RepA ca F H d2 y) (e : semIn d1 d2 = some b) (q : Q (.bl (if neg then !b else b)) H) : wpAny (model X.prog X.w) X.A (compareOp (if neg then .NotIn else .In) v u) (EP X pins σ Q) X.xe s := by
  have seq : ∀ {p : Addr} {ds : List D} {vs : List V}, y = .ref p → (SqL X.K H p vs ∨ SqT X.K H p vs) → Reps ca F ds vs → (flatD d1 && ds.all flatD) = true → inF d1 ds = b → wpAny (model X.prog X.w) X.A (compareOp (if neg then .NotIn else .In) v u) (EP X pins σ Q) X.xe s := fun {p ds vs} ey hs hr hf hb => by
    simp only [Bool.and_eq_true] at hf
    have hx := rep_flat hf.1 r1
    have key := inF_v hf.1 hx hr hf.2
    cases neg with
    | false => exact op_in_seq pins s σ H x y v u Q I rx ry ⟨p, vs, ey, hs, flat_v hf.1 hx, allFlat hr hf.2, by rw [key, hb]; exact q⟩
    | true => exact op_notIn_seq pins s σ H x y v u Q I rx ry ⟨p, vs, ey, hs, flat_v hf.1 hx, allFlat hr hf.2, by rw [key, hb]; exact q⟩
  unfold semIn at e
  split at e
  · rename_i z
    have ey := a_str r2
    split at e
    · rename_i w
      have ex := a_str r1
      unfold signIn at e
      split at e
      · rename_i c hc
        cases e
        have e1 := str_one hc
        subst e1
        cases neg with
        | false => exact op_in_sign pins s σ H x y v u Q I rx ry ⟨c, z, ex, ey, q⟩
        | true => exact op_notIn_sign pins s σ H x y v u Q I rx ry ⟨c, z, ex, ey, q⟩
      · cases e
    · cases e
  · rename_i ys
    split at e
    · rename_i hf
      obtain ⟨a, vs, ey, h1, h2⟩ := a_lst r2
      exact seq ey (.inl (SqL.of h1)) h2 hf (Option.some.inj e)
    · cases e
  · rename_i ys
    split at e
    · rename_i hf
      obtain ⟨a, vs, ey, h1, h2, h3⟩ := a_tup r2
      have hf' := hf
      simp only [Bool.and_eq_true] at hf'
      exact seq ey (.inr (SqT.of h1)) (tup_flat h2 h3 hf'.2) hf (Option.some.inj e)
    · cases e
  · rename_i kvs
    obtain ⟨a, vs, ey, h1, h2⟩ := a_dic r2
    cases ek : keyD d1 with
    | none => rw [ek] at e; cases e
    | some k =>
      rw [ek] at e
      have eb : (getK kvs k).isSome = b := Option.some.inj e
      have ex := keyV ek r1
      subst ex ey
      cases ry
      have g : DGet H a (kV k) (valV vs k) := DGet.k h1
      have es : (valV vs k).isSome = b := by
        rcases getK_v (k := k) h2 with ⟨z1, z2⟩ | ⟨d, v', z1, z2, _⟩
        · rw [z2]; rw [z1] at eb; exact eb
        · rw [z2]; rw [z1] at eb; exact eb
      cases neg with
      | false => exact d_in (by omega) I g rx fun s' J => ⟨.bl _, H, J, rfl, by rw [es]; exact q⟩
      | true => exact d_notIn (by omega) I g rx fun s' J => ⟨.bl _, H, J, rfl, by rw [es]; exact q⟩
  · cases e
theorem isNon_v {d : D} {v : V} (h : RepA ca F H d v) : decide (v = .non) = isNon d := by
  cases d with
  | non => unfold RepA RepA1 Rep at h; subst h; rfl
  | bl b => unfold RepA RepA1 Rep at h; subst h; rfl
  | int b => unfold RepA RepA1 Rep at h; subst h; rfl
  | str b => unfold RepA RepA1 Rep at h; subst h; rfl
  | scr ns =>
    unfold RepA RepA1 Rep at h
    obtain ⟨a, rfl, _⟩ := h
    rfl
  | lst t xs => obtain ⟨a, vs, rfl, _⟩ := h; rfl
  | tup xs => obtain ⟨a, vs, rfl, _⟩ := h; rfl
  | dic t xs => obtain ⟨a, vs, rfl, _⟩ := h; rfl
  | obj C fs =>
    unfold RepA RepA1 Rep at h
    obtain ⟨a, _, vs, rfl, _⟩ := h
    rfl
/-- a comparison -/
theorem opr_cmp (hu : X.A.units + 64 < cLine) {op : CmpOp} : OpR X (compareOp op) (fun x y H Q => rP ca (P.cmp op).sem [x, y] H Q) := by
  intro pins s σ H x y v u Q I rx ry h
  obtain ⟨F, d1, d2, r, sb, e, r1, r2, fl, k⟩ := rP2 h
  have e' : semCmp op d1 d2 = .ok r := e
  have bo : ∀ {o : Option Bool}, mbo o = .ok r → ∃ b, o = some b ∧ r = .sh (.bl b) := fun {o} z => by
    cases o with
    | none => cases z
    | some b => cases z; exact ⟨b, rfl, rfl⟩
  unfold semCmp at e'
  split at e'
  · cases e'; exact op_lt pins s σ H x y v u Q I rx ry ⟨_, _, a_int r1, a_int r2, k _ _ _ (fin_bl sb)⟩
  · cases e'; exact op_le pins s σ H x y v u Q I rx ry ⟨_, _, a_int r1, a_int r2, k _ _ _ (fin_bl sb)⟩
  · cases e'; exact op_gt pins s σ H x y v u Q I rx ry ⟨_, _, a_int r1, a_int r2, k _ _ _ (fin_bl sb)⟩
  · cases e'; exact op_ge pins s σ H x y v u Q I rx ry ⟨_, _, a_int r1, a_int r2, k _ _ _ (fin_bl sb)⟩
  · cases e'; exact op_le_str pins s σ H x y v u Q I rx ry ⟨_, _, a_str r1, a_str r2, k _ _ _ (fin_bl sb)⟩
  · obtain ⟨b, e1, rfl⟩ := bo e'
    exact eqD_rule (neg := false) hu I rx ry sb r1 r2 e1 (k _ _ _ (fin_bl sb))
  · obtain ⟨b, e1, rfl⟩ := bo e'
    cases eq : eqD d1 d2 with
    | none => rw [eq] at e1; cases e1
    | some c =>
      rw [eq] at e1
      cases e1
      exact eqD_rule (neg := true) hu I rx ry sb r1 r2 eq (k _ _ _ (fin_bl sb))
  · obtain ⟨b, e1, rfl⟩ := bo e'
    exact semIn_rule (neg := false) hu I rx ry sb r1 r2 e1 (k _ _ _ (fin_bl sb))
  · obtain ⟨b, e1, rfl⟩ := bo e'
    cases eq : semIn d1 d2 with
    | none => rw [eq] at e1; cases e1
    | some c =>
      rw [eq] at e1
      cases e1
      exact semIn_rule (neg := true) hu I rx ry sb r1 r2 eq (k _ _ _ (fin_bl sb))
  · cases e'; exact op_isBl pins s σ H x y v u Q I rx ry ⟨_, _, a_bl r1, a_bl r2, k _ _ _ (fin_bl sb)⟩
  · cases e'; exact op_notBl pins s σ H x y v u Q I rx ry ⟨_, _, a_bl r1, a_bl r2, k _ _ _ (fin_bl sb)⟩
  · cases e'; exact op_isN pins s σ H x y v u Q I rx ry ⟨a_non r2, by rw [isNon_v r1]; exact k _ _ _ (fin_bl sb)⟩
  · cases e'; exact op_notN pins s σ H x y v u Q I rx ry ⟨a_non r2, by rw [isNon_v r1]; exact k _ _ _ (fin_bl sb)⟩
  · cases e'
/-! ### items -/
theorem opt_ok {o : Option D} {r : R} (h : mopt o = .ok r) : ∃ d, o = some d ∧ r = .sh d := by
  cases o with
  | none => cases h
  | some d => cases h; exact ⟨d, rfl, rfl⟩
theorem atI_get2 {α β : Type} {xs : List α} {ys : List β} (hl : ys.length = xs.length) {i : Int} {a : α} (h : atI xs i = some a) : ∃ j : Nat, xs[j]? = some a ∧ ∀ b, ys[j]? = some b → atI ys i = some b := by
  unfold atI at h ⊢
  rw [hl]
  cases e : ixN xs.length i with
  | none => rw [e] at h; cases h
  | some j =>
    rw [e] at h
    exact ⟨j, h, fun b hb => hb⟩
theorem ixr_idx (hu : X.A.units + 64 < cLine) (hK : ca.K = X.K) : IxR X (fun x y H Q => rP ca P.idx.sem [x, y] H Q) := by
  intro value slice pins s σ H x y v u Q I rx ry h hs
  obtain ⟨F, d1, d2, r, sb, e, r1, r2, fl, k⟩ := rP2 h
  have e' : semIdx d1 d2 = .ok r := e
  unfold semIdx at e'
  split at e'
  · rename_i t xs i
    obtain ⟨d, e1, rfl⟩ := opt_ok e'
    obtain ⟨a, vs, rfl, h1, h2⟩ := a_lst r1
    obtain ⟨j, j1, j2⟩ := atI_get2 h2.length e1
    obtain ⟨w, w1, w2⟩ := h2.get j1
    exact ix_list value slice pins s σ H _ y v u Q I rx ry ⟨a, vs, i, w, rfl, a_int r2, SqL.of h1, j2 w w1, k _ _ _ (fin_sh sb w2)⟩ hs
  · rename_i ns i
    obtain ⟨d, e1, rfl⟩ := opt_ok e'
    have r1' : Rep ca F (.scr ns) x := r1
    unfold Rep at r1'
    obtain ⟨a, rfl, h1⟩ := r1'
    cases e2 : atI ns i with
    | none => rw [e2] at e1; cases e1
    | some n =>
      rw [e2] at e1
      have e3 : d = .int n := (Option.some.inj e1).symm
      subst e3
      obtain ⟨j, j1, j2⟩ := atI_get2 (ys := ns.map V.int) (by simp) e2
      have w1 : (ns.map V.int)[j]? = some (.int n) := by rw [List.getElem?_map, j1] <;> rfl
      rw [hK] at h1
      exact ix_list value slice pins s σ H _ y v u Q I rx ry ⟨a, _, i, .int n, rfl, a_int r2, Same.seq sb h1, j2 _ w1, k _ _ _ (fin_int sb)⟩ hs
  · rename_i xs i
    obtain ⟨d, e1, rfl⟩ := opt_ok e'
    obtain ⟨a, vs, rfl, h1, h2, h3⟩ := a_tup r1
    obtain ⟨j, j1, j2⟩ := atI_get2 h2 e1
    have hj : j < vs.length := by
      rw [h2]
      exact (List.getElem?_eq_some_iff.mp j1).1
    have w1 : vs[j]? = some vs[j] := List.getElem?_eq_getElem hj
    have w2 : Rep ca F d vs[j] := by
      rcases fl with fl | fl
      · have q : Rep ca F (.tup xs) (.ref a) := fl.1
        unfold Rep at q
        obtain ⟨a', vs', q1, q2, q3⟩ := q
        cases q1
        have q4 := sb _ _ q2
        rw [h1] at q4
        cases q4
        obtain ⟨w, z1, z2⟩ := q3.get j1
        rw [w1] at z1
        cases z1
        exact z2
      · exact a1_flat fl (h3 j d _ j1 w1)
    exact ix_tup value slice pins s σ H _ y v u Q I rx ry ⟨a, vs, i, _, rfl, a_int r2, SqT.of h1, j2 _ w1, k _ _ _ (fin_sh sb w2)⟩ hs
  · rename_i z i
    split at e'
    · rename_i hl
      obtain ⟨d, e1, rfl⟩ := opt_ok e'
      unfold oneStr at e1
      cases e2 : atI z.cps.toList i with
      | none => rw [e2] at e1; cases e1
      | some c =>
        rw [e2] at e1
        have e3 : d = .str ⟨#[c]⟩ := (Option.some.inj e1).symm
        subst e3
        exact ix_str value slice pins s σ H x y v u Q I rx ry ⟨z, i, c, a_str r1, a_int r2, lim_of hl, e2, k _ _ _ (fin_str sb)⟩ hs
    · cases e'
  · split at e'
    · rename_i key ek
      obtain ⟨d, e1, rfl⟩ := opt_ok e'
      obtain ⟨a, vs, rfl, h1, h2⟩ := a_dic r1
      have ey := keyV ek r2
      subst ey
      cases rx
      rcases getK_v (k := key) h2 with ⟨z1, z2⟩ | ⟨d', v', z1, z2, z3⟩
      · rw [z1] at e1; cases e1
      · rw [z1] at e1
        cases e1
        have g : DGet H a (kV key) (some v') := by rw [← z2]; exact DGet.k h1
        exact tail_any (dict_typeIs I g) PySem.F.slot_dict_getitem.lookup (d_getItem (by omega) I g ry fun w' s' J rw' => ⟨v', H, J, rw', k _ _ _ (fin_sh sb z3)⟩) hs
    · cases e'
  · cases e'
end
end FH
set_option Elab.async false
set_option linter.all false
set_option maxRecDepth 100000
set_option maxHeartbeats 4000000
namespace FH
open PySem PySem.Spec PyProof.Rows L2
section
variable {X : Cx} {ca : Cs} {F H : Hp}
theorem cut_reps {ds : List D} {vs : List V} (h : Reps ca F ds vs) (lo hi : Option Int) : Reps ca F (cutD ds lo hi) (cutV vs lo hi) := by
  unfold cutD cutV
  rw [h.length]
  exact (h.drop _).take _
/-- a slice by values -/
def rSl (ca : Cs) : V → Option Int → Option Int → Hp → VK → Prop := fun x lo hi H Q => ∃ F d r, Sub F H ∧ semSl d lo hi = .ok r ∧ RepA ca F H d x ∧ ∀ v F' H', Fin ca F H r v F' H' → Q v H'
theorem slr_all : SlR X (rSl ca) := by
  intro pins s σ H x v vl vu lo hi sl Q I rx hs pl pu h
  obtain ⟨F, d, r, sb, e, r1, k⟩ := h
  unfold semSl at e
  split at e
  · cases e
    obtain ⟨a, vs, ex, h1, h2⟩ := a_lst r1
    exact sl_list pins s σ H x v vl vu lo hi sl Q I rx hs pl pu ⟨a, vs, ex, SqL.of h1, fun p hp => k _ _ _ (fin_lst sb hp (cut_reps h2 lo hi))⟩
  · split at e
    · rename_i hl
      cases e
      exact sl_str pins s σ H x v vl vu lo hi sl Q I rx hs pl pu ⟨_, a_str r1, lim_of hl, k _ _ _ (fin_str sb)⟩
    · cases e
  · cases e
section
variable {e l h : Expr} {te tl th : TE} {p2 pos : Pos} {r : V → Option Int → Option Int → Hp → VK → Prop}
/-- both bounds: that they are ints is asked at the end -/
theorem pe_sl2 (hr : SlR X r) (he : PE X e te) (hl : PE X l tl) (hh : PE X h th) :
    PE X (.Subscript e (.Slice (some l) (some h) none p2) pos) (fun σ H Q => te σ H fun x H1 => tl σ H1 fun y H2 => th σ H2 fun z H3 => ∃ i j, y = .int i ∧ z = .int j ∧ r x (some i) (some j) H3 Q) := by
  constructor
  intro pins s σ H Q I q
  refine Subscript_ (thn (he.run pins s σ H _ I q) ?_)
  rintro v s1 ⟨x, H1, I1, r1, q1⟩
  refine wpAny_Slice ?_
  rw [evalPart_some]
  refine thn (hl.run pins s1 σ H1 _ I1 q1) ?_
  rintro vl s2 ⟨y, H2, I2, r2, q2⟩
  rw [evalPart_some]
  refine thn (hh.run pins s2 σ H2 _ I2 q2) ?_
  rintro vu s3 ⟨z, H3, I3, r3, i, j, rfl, rfl, q3⟩
  rw [evalPart_none]
  refine wpAny_pure ?_
  obtain ⟨t1, rfl⟩ := r2
  obtain ⟨t2, rfl⟩ := r3
  generalize hS : ({ s3 with heap := s3.heap.push { cls := .type "slice", data := .fields #[.int i t1, .int j t2, .none] } } : Shared) = s4
  have I4 : Inv X pins σ H3 s4 := by
    rw [← hS]
    exact I3.kept (t' := s3.toks) fun b ob z => Heap.get?_push_of_some _ z
  have hsl : s4.heap.IsSliceOf s3.heap.objs.size (.int i t1) (.int j t2) .none := by
    rw [← hS]
    exact Heap.IsSliceOf.new ..
  obtain ⟨T, id, hT, ht, hg⟩ := hr pins s4 σ H3 x v (.int i t1) (.int j t2) (some i) (some j) s3.heap.objs.size Q I4 r1 hsl (.int i t1) (.int j t2) q3
  have go := tail_any (value := e) (slice := .Slice (some l) (some h) none p2) (ops := [.ref s3.heap.objs.size, v]) ht hT hg (by with_unfolding_all rfl)
  rw [← hS] at go ⊢
  exact go
end
/-! ### functions by values -/
theorem ints_v : ∀ {ds : List D} {vs : List V} {is : List Int}, Reps ca F ds vs → intsOf ds = some is → vs = is.map V.int
  | [], vs, is, h, e => by unfold Reps at h; subst h; cases e; rfl
  | d :: ds, vs, is, h, e => by
    unfold Reps at h
    obtain ⟨v, r, rfl, h2, h3⟩ := h
    cases d <;> first
      | (unfold intsOf at e; cases e; done)
      | skip
    unfold intsOf at e
    cases q : intsOf ds with
    | none => rw [q] at e; cases e
    | some js =>
      rw [q] at e
      cases e
      unfold Rep at h2
      rw [h2, ints_v h3 q] <;> rfl
theorem bls_v : ∀ {ds : List D} {vs : List V} {is : List Bool}, Reps ca F ds vs → blsOf ds = some is → vs = is.map V.bl
  | [], vs, is, h, e => by unfold Reps at h; subst h; cases e; rfl
  | d :: ds, vs, is, h, e => by
    unfold Reps at h
    obtain ⟨v, r, rfl, h2, h3⟩ := h
    cases d <;> first
      | (unfold blsOf at e; cases e; done)
      | skip
    unfold blsOf at e
    cases q : blsOf ds with
    | none => rw [q] at e; cases e
    | some js =>
      rw [q] at e
      cases e
      unfold Rep at h2
      rw [h2, bls_v h3 q] <;> rfl
theorem strs_v : ∀ {ds : List D} {vs : List V} {is : List Str}, Reps ca F ds vs → strsOf ds = some is → vs = is.map V.str
  | [], vs, is, h, e => by unfold Reps at h; subst h; cases e; rfl
  | d :: ds, vs, is, h, e => by
    unfold Reps at h
    obtain ⟨v, r, rfl, h2, h3⟩ := h
    cases d <;> first
      | (unfold strsOf at e; cases e; done)
      | skip
    unfold strsOf at e
    cases q : strsOf ds with
    | none => rw [q] at e; cases e
    | some js =>
      rw [q] at e
      cases e
      unfold Rep at h2
      rw [h2, strs_v h3 q] <;> rfl
abbrev FnR1 (X : Cx) (ca : Cs) (f : Fn) (c : Value) : Prop := CallR X c (fun vs H Q => rP ca (P.fn f).sem vs H Q)
theorem all2_len {P : D → V → Prop} : ∀ {ds : List D} {vs : List V}, All2 P ds vs → vs.length = ds.length
  | [], vs, h => by unfold All2 at h; subst h; rfl
  | d :: ds, vs, h => by
    unfold All2 at h
    obtain ⟨v, w, rfl, _, h3⟩ := h
    rw [List.length_cons, List.length_cons, all2_len h3]
theorem rP_len {p : List D → M R} {vs : List V} {H : Hp} {Q : VK} {n : Nat} (h : rP ca p vs H Q) (hn : ∀ ds r, p ds = .ok r → ds.length = n) : vs.length = n := by
  obtain ⟨F, ds, r, sb, e, rep, k⟩ := h
  rw [← hn ds r e]
  rcases rep with rep | ⟨rep, _⟩
  · exact all2_len rep
  · exact all2_len rep
/-- one argument -/
theorem fn1 {f : Fn} {c : Value} (hn : ∀ ds r, semFn f ds = .ok r → ds.length = 1) (h : ∀ (pins : List (Addr × Obj)) (s : Shared) (σ : L2.St) (H : Hp) (x : V) (us : List Value) (Q : VK) (F : Hp) (d : D) (r : R), Inv X pins σ H s → Vals [x] us → Sub F H → semFn f [d] = .ok r → RepA ca F H d x → (RepA1 ca F H d x ∨ flatD r.d = true) →
    (∀ v F' H', Fin ca F H r v F' H' → Q v H') → wpAny (model X.prog X.w) X.A (call c us) (EP X pins σ Q) X.xe s) : CallR X c (fun vs H Q => rP ca (P.fn f).sem vs H Q) := by
  intro pins s σ H vs us Q I rv q
  have hl := rP_len q (n := 1) fun ds r e => hn ds r e
  match vs, hl with
  | [x], _ =>
    obtain ⟨F, d, r, sb, e, r1, fl, k⟩ := rP1 q
    exact h pins s σ H x us Q F d r I rv sb e r1 fl k
theorem fn_len (hK : ca.K = X.K) : CallR X (.builtin "len") (fun vs H Q => rP ca (P.fn .len).sem vs H Q) := by
  refine fn1 (fun ds r e => by
    replace e : semLen ds = .ok r := e
    unfold semLen at e
    split at e <;> first
      | (cases e; done)
      | rfl) fun pins s σ H x us Q F d r I rv sb e r1 fl k => ?_
  replace e : semLen [d] = .ok r := e
  unfold semLen at e
  split at e <;> (try (cases e; done))
  · split at e
    · rename_i h1 h2 hl
      cases h2
      cases e
      exact call_len_str pins s σ H [x] us Q I rv ⟨_, by rw [a_str r1], lim_of hl, k _ _ _ (fin_int sb)⟩
    · cases e
  · rename_i h2
    cases h2
    cases e
    obtain ⟨a, vs, rfl, h1, h2⟩ := a_lst r1
    exact call_len_seq pins s σ H _ us Q I rv ⟨a, vs, rfl, .inl (SqL.of h1), by rw [h2.length]; exact k _ _ _ (fin_int sb)⟩
  · rename_i h2
    cases h2
    cases e
    have r1' : Rep ca F (.scr _) x := r1
    unfold Rep at r1'
    obtain ⟨a, rfl, h1⟩ := r1'
    rw [hK] at h1
    exact call_len_seq pins s σ H _ us Q I rv ⟨a, _, rfl, .inl (Same.seq sb h1), by rw [List.length_map]; exact k _ _ _ (fin_int sb)⟩
  · rename_i h2
    cases h2
    cases e
    obtain ⟨a, vs, rfl, h1, h2, h3⟩ := a_tup r1
    exact call_len_seq pins s σ H _ us Q I rv ⟨a, vs, rfl, .inr (SqT.of h1), by rw [h2]; exact k _ _ _ (fin_int sb)⟩
theorem fn_int : CallR X (.type "int") (fun vs H Q => rP ca (P.fn .int).sem vs H Q) := by
  refine fn1 (fun ds r e => by
    replace e : semInt ds = .ok r := e
    unfold semInt at e
    split at e <;> first
      | (cases e; done)
      | rfl) fun pins s σ H x us Q F d r I rv sb e r1 fl k => ?_
  replace e : semInt [d] = .ok r := e
  unfold semInt at e
  split at e <;> (try (cases e; done))
  · rename_i h2
    cases h2
    cases e
    exact call_int1 pins s σ H [x] us Q I rv (.inl ⟨_, by rw [a_int r1], k _ _ _ (fin_int sb)⟩)
  · rename_i h2
    cases h2
    cases e
    exact call_int1 pins s σ H [x] us Q I rv (.inr ⟨_, by rw [a_bl r1], k _ _ _ (fin_int sb)⟩)
  · rename_i h2
    cases h2
    split at e
    · rename_i hn
      split at e
      · rename_i hl
        cases e
        exact call_int_str pins s σ H [x] us Q I rv ⟨_, _, by rw [a_str r1], hn, hl, k _ _ _ (fin_int sb)⟩
      · cases e
    · cases e
theorem fn_str : CallR X (.type "str") (fun vs H Q => rP ca (P.fn .str).sem vs H Q) := by
  refine fn1 (fun ds r e => by
    replace e : semStr ds = .ok r := e
    unfold semStr at e
    split at e <;> first
      | (cases e; done)
      | rfl) fun pins s σ H x us Q F d r I rv sb e r1 fl k => ?_
  replace e : semStr [d] = .ok r := e
  unfold semStr at e
  split at e <;> (try (cases e; done))
  rename_i h2
  cases h2
  split at e
  · rename_i hl
    cases e
    exact call_str_int pins s σ H [x] us Q I rv ⟨_, by rw [a_int r1], hl, k _ _ _ (fin_str sb)⟩
  · cases e
theorem fn_all (hc : X.calm = true) : CallR X (.builtin "all") (fun vs H Q => rP ca (P.fn .all).sem vs H Q) := by
  refine fn1 (fun ds r e => by
    replace e : semAll ds = .ok r := e
    unfold semAll at e
    split at e <;> first
      | (cases e; done)
      | rfl) fun pins s σ H x us Q F d r I rv sb e r1 fl k => ?_
  replace e : semAll [d] = .ok r := e
  unfold semAll at e
  split at e <;> (try (cases e; done))
  rename_i h2
  cases h2
  split at e
  · rename_i hb
    cases e
    obtain ⟨a, vs, rfl, h1, h2⟩ := a_lst r1
    have ev := bls_v h2 hb
    subst ev
    exact cr_all hc pins s σ H _ us Q I rv ⟨a, _, rfl, SqL.of h1, k _ _ _ (fin_bl sb)⟩
  · cases e
theorem fn_any (hc : X.calm = true) : CallR X (.builtin "any") (fun vs H Q => rP ca (P.fn .any).sem vs H Q) := by
  refine fn1 (fun ds r e => by
    replace e : semAny ds = .ok r := e
    unfold semAny at e
    split at e <;> first
      | (cases e; done)
      | rfl) fun pins s σ H x us Q F d r I rv sb e r1 fl k => ?_
  replace e : semAny [d] = .ok r := e
  unfold semAny at e
  split at e <;> (try (cases e; done))
  rename_i h2
  cases h2
  split at e
  · rename_i hb
    cases e
    obtain ⟨a, vs, rfl, h1, h2⟩ := a_lst r1
    have ev := bls_v h2 hb
    subst ev
    exact cr_any hc pins s σ H _ us Q I rv ⟨a, _, rfl, SqL.of h1, k _ _ _ (fin_bl sb)⟩
  · cases e
theorem fn_sum (hc : X.calm = true) : CallR X (.builtin "sum") (fun vs H Q => rP ca (P.fn .sum).sem vs H Q) := by
  refine fn1 (fun ds r e => by
    replace e : semSum ds = .ok r := e
    unfold semSum at e
    split at e <;> first
      | (cases e; done)
      | rfl) fun pins s σ H x us Q F d r I rv sb e r1 fl k => ?_
  replace e : semSum [d] = .ok r := e
  unfold semSum at e
  split at e <;> (try (cases e; done))
  rename_i h2
  cases h2
  split at e
  · rename_i hb
    cases e
    obtain ⟨a, vs, rfl, h1, h2⟩ := a_lst r1
    have ev := ints_v h2 hb
    subst ev
    exact cr_sum hc pins s σ H _ us Q I rv ⟨a, _, rfl, SqL.of h1, k _ _ _ (fin_int sb)⟩
  · cases e
theorem strs_of_items : ∀ {vs : List Value} {ys : List Nat}, vs.length = ys.length → (∀ (j : Nat) (v : Value), vs[j]? = some v → ∃ (c : Nat) (t : Tok), ys[j]? = some c ∧ v = Value.str ⟨#[c]⟩ t) → StrsAre vs (ys.map fun c => (⟨#[c]⟩ : Str))
  | [], [], _, _ => .nil
  | [], _ :: _, h, _ => by simp at h
  | _ :: _, [], h, _ => by simp at h
  | v :: vs, y :: ys, h, f => by
    obtain ⟨c, t, h1, rfl⟩ := f 0 v rfl
    have e : y = c := by simpa using h1
    subst e
    exact .cons _ t (strs_of_items (by simpa using h) fun j w hw => f (j + 1) w hw)
theorem strs_reps {xs : List Str} : Reps ca F (xs.map .str) (xs.map V.str) := by
  induction xs with
  | nil => exact .nil
  | cons x xs ih => exact .cons (by unfold Rep; rfl) ih
theorem fn_list (hc : X.calm = true) : CallR X (.type "list") (fun vs H Q => rP ca (P.fn .list).sem vs H Q) := by
  refine fn1 (fun ds r e => by
    replace e : semList ds = .ok r := e
    unfold semList at e
    split at e <;> first
      | (cases e; done)
      | rfl) fun pins s σ H x us Q F d r I rv sb e r1 fl k => ?_
  replace e : semList [d] = .ok r := e
  unfold semList at e
  split at e <;> (try (cases e; done))
  · rename_i h2
    cases h2
    cases e
    obtain ⟨a, vs, rfl, h1, h2⟩ := a_lst r1
    exact call_list_of pins s σ H _ us Q I rv ⟨a, vs, rfl, .inl (SqL.of h1), fun p hp => k _ _ _ (fin_lst sb hp h2)⟩
  · rename_i h2
    cases h2
    cases e
    rcases fl with fl | fl
    · have q : Rep ca F (.tup _) x := fl
      unfold Rep at q
      obtain ⟨a, vs, rfl, h1, h2⟩ := q
      exact call_list_of pins s σ H _ us Q I rv ⟨a, vs, rfl, .inr (SqT.of (sb _ _ h1)), fun p hp => k _ _ _ (fin_lst sb hp h2)⟩
    · cases fl
  · rename_i h2
    cases h2
    split at e
    · rename_i hl
      cases e
      have ex := a_str r1
      subst ex
      obtain ⟨u, rfl, ru⟩ := vals1 rv
      obtain ⟨t, rfl⟩ := ru
      have hsz : PySem.Str.length _ ≤ sizeLine := Nat.le_trans hl lim_le
      refine PySem.call_list_str (I.ok.hd hc) _ t (hn := hsz) fun h' tk acc' c' hk hS hacc => ?_
      have sa := strs_of_items (vs := acc'.toList) (ys := Str.cps _ |>.toList) (by simpa using hacc.1) fun j v hv => by
        obtain ⟨c, u, hc, rfl⟩ := hacc.2 j v (by simpa using hv)
        exact ⟨c, u, by simpa using hc, rfl⟩
      refine ⟨.ref _, _, I.laid (t' := tk) hk (Nat.le_refl _) ?_, rfl, k _ _ _ (fin_lst sb (I.hok.fresh (Nat.le_refl _)) strs_reps)⟩
      refine ⟨?_, acc'.toList, c', vals_of_strs sa, by simpa using hS⟩
      unfold signs
      rw [List.length_map, List.length_map, Array.length_toList]
      exact hsz
    · cases e
theorem fn_max2 (hc : X.calm = true) : CallR X (.builtin "max") (fun vs H Q => rP ca (P.fn .max2).sem vs H Q) := by
  intro pins s σ H vs us Q I rv q
  have hl := rP_len q (n := 2) fun ds r e => by
    replace e : semMax2 ds = .ok r := e
    unfold semMax2 at e
    split at e <;> first
      | (cases e; done)
      | rfl
  match vs, hl with
  | [x, y], _ =>
    obtain ⟨F, d1, d2, r, sb, e, r1, r2, fl, k⟩ := rP2 q
    have e' : semFn .max2 [d1, d2] = .ok r := e
    replace e' : semMax2 [d1, d2] = .ok r := e'
    unfold semMax2 at e'
    split at e' <;> (try (cases e'; done))
    rename_i h2
    cases h2
    cases e'
    exact call_max2 hc pins s σ H _ us Q I rv ⟨_, _, by rw [a_int r1, a_int r2], k _ _ _ (fin_int sb)⟩
theorem fn_min2 (hc : X.calm = true) : CallR X (.builtin "min") (fun vs H Q => rP ca (P.fn .min2).sem vs H Q) := by
  intro pins s σ H vs us Q I rv q
  have hl := rP_len q (n := 2) fun ds r e => by
    replace e : semMin2 ds = .ok r := e
    unfold semMin2 at e
    split at e <;> first
      | (cases e; done)
      | rfl
  match vs, hl with
  | [x, y], _ =>
    obtain ⟨F, d1, d2, r, sb, e, r1, r2, fl, k⟩ := rP2 q
    have e' : semFn .min2 [d1, d2] = .ok r := e
    replace e' : semMin2 [d1, d2] = .ok r := e'
    unfold semMin2 at e'
    split at e' <;> (try (cases e'; done))
    rename_i h2
    cases h2
    cases e'
    exact call_min2 hc pins s σ H _ us Q I rv ⟨_, _, by rw [a_int r1, a_int r2], k _ _ _ (fin_int sb)⟩
theorem fn_repr (hu : X.A.units + 64 < cLine) (hg : X.A.guards = some []) : CallR X (.builtin "repr") (fun vs H Q => rP ca (P.fn .repr).sem vs H Q) := by
  refine fn1 (fun ds r e => by
    replace e : semRepr ds = .ok r := e
    unfold semRepr at e
    split at e <;> first
      | (cases e; done)
      | rfl) fun pins s σ H x us Q F d r I rv sb e r1 fl k => ?_
  replace e : semRepr [d] = .ok r := e
  unfold semRepr at e
  simp only at e
  split at e
  · rename_i y ey
    split at e
    · rename_i hc
      simp only [Bool.and_eq_true, decide_eq_true_eq] at hc
      obtain ⟨c1, c2, c3, c4⟩ := hc
      cases e
      have dp := a_dp (K := X.K) sb r1 ey c1
      obtain ⟨u, rfl, ru⟩ := vals1 rv
      obtain ⟨as, rd⟩ := Dp.reads I y x u dp ru
      have hz : y.shown.length ≤ sizeLine := lim_of c4
      have go : ∀ (h' : Heap) (t : Tok) (tk : Nat), (∀ b o, s.heap.get? b = some o → h'.get? b = some o) → EP X pins σ Q (.str y.shown t) { s with heap := h', toks := tk } := fun h' t tk hk =>
        ⟨.str y.shown, H, I.kept hk, ⟨t, rfl⟩, k _ _ _ (fin_str sb)⟩
      cases y with
      | none => cases rd; exact PySem.P.repr_of_none (go s.heap s.toks (s.toks + 1) fun _ _ z => z)
      | bool b => cases rd; exact PySem.P.repr_of_bool (go s.heap s.toks (s.toks + 1) fun _ _ z => z)
      | int i =>
        cases rd
        have hi : i.natAbs.log2 < 1920 := of_decide_eq_true c2
        exact PySem.P.repr_of_int hi (go s.heap s.toks (s.toks + 1) fun _ _ z => z)
      | str z =>
        cases rd
        exact PySem.P.repr_of_str (go s.heap s.toks (s.toks + 1) fun _ _ z => z) hz
      | list zs =>
        cases rd with
        | list g1 g2 g3 g4 =>
          exact repr_of_reads' (.list g1 g2 g3 g4) c2 (PyData.noDict_hsm (PyData.hasDict_of_canLay _ c1)) hg (by omega) (fun _ _ z => z) (fun h' t tk hk => go h' t tk hk) hz
      | tuple zs =>
        cases rd with
        | tuple g1 g2 g3 g4 =>
          exact repr_of_reads' (.tuple g1 g2 g3 g4) c2 (PyData.noDict_hsm (PyData.hasDict_of_canLay _ c1)) hg (by omega) (fun _ _ z => z) (fun h' t tk hk => go h' t tk hk) hz
      | dict kvs => cases c1
    · cases e
  · cases e
theorem fold_max : ∀ (is : List Int) (i : Int), (is.foldl max i = i ∨ is.foldl max i ∈ is) ∧ i ≤ is.foldl max i ∧ ∀ y, y ∈ is → y ≤ is.foldl max i
  | [], i => ⟨.inl rfl, Int.le_refl _, fun y h => (nomatch h)⟩
  | j :: is, i => by
    obtain ⟨h1, h2, h3⟩ := fold_max is (max i j)
    refine ⟨?_, by show i ≤ is.foldl max (max i j); omega, fun y hy => ?_⟩
    · show is.foldl max (max i j) = i ∨ is.foldl max (max i j) ∈ j :: is
      rcases h1 with e | e
      · rw [e]
        rcases Int.le_total i j with z | z
        · right
          rw [Int.max_eq_right z]
          exact List.mem_cons_self
        · left
          exact Int.max_eq_left z
      · exact .inr (List.mem_cons_of_mem _ e)
    · show y ≤ is.foldl max (max i j)
      rcases List.mem_cons.mp hy with e | e
      · subst e; omega
      · exact h3 y e
theorem fold_min : ∀ (is : List Int) (i : Int), (is.foldl min i = i ∨ is.foldl min i ∈ is) ∧ is.foldl min i ≤ i ∧ ∀ y, y ∈ is → is.foldl min i ≤ y
  | [], i => ⟨.inl rfl, Int.le_refl _, fun y h => (nomatch h)⟩
  | j :: is, i => by
    obtain ⟨h1, h2, h3⟩ := fold_min is (min i j)
    refine ⟨?_, by show is.foldl min (min i j) ≤ i; omega, fun y hy => ?_⟩
    · show is.foldl min (min i j) = i ∨ is.foldl min (min i j) ∈ j :: is
      rcases h1 with e | e
      · rw [e]
        rcases Int.le_total i j with z | z
        · left
          exact Int.min_eq_left z
        · right
          rw [Int.min_eq_right z]
          exact List.mem_cons_self
      · exact .inr (List.mem_cons_of_mem _ e)
    · show is.foldl min (min i j) ≤ y
      rcases List.mem_cons.mp hy with e | e
      · subst e; omega
      · exact h3 y e
theorem fn_max1 (hc : X.calm = true) : CallR X (.builtin "max") (fun vs H Q => rP ca (P.fn .max1).sem vs H Q) := by
  refine fn1 (fun ds r e => by
    replace e : semMax1 ds = .ok r := e
    unfold semMax1 at e
    split at e <;> first
      | (cases e; done)
      | rfl) fun pins s σ H x us Q F d r I rv sb e r1 fl k => ?_
  replace e : semMax1 [d] = .ok r := e
  unfold semMax1 at e
  split at e <;> (try (cases e; done))
  rename_i h2
  cases h2
  split at e
  · rename_i i is hb
    cases e
    obtain ⟨a, vs, rfl, h1, h2⟩ := a_lst r1
    have ev := ints_v h2 hb
    subst ev
    obtain ⟨m1, m2, m3⟩ := fold_max is i
    refine cr_max hc pins s σ H _ us Q I rv ⟨a, _, rfl, SqL.of h1, by simp, fun m hm hy => ?_⟩
    have em : m = is.foldl max i := by
      refine Int.le_antisymm ?_ (hy _ ?_)
      · rcases List.mem_cons.mp hm with z | z
        · rw [z]; exact m2
        · exact m3 m z
      · rcases m1 with z | z
        · rw [z]; exact List.mem_cons_self
        · exact List.mem_cons_of_mem _ z
    rw [em]
    exact k _ _ _ (fin_int sb)
  · cases e
theorem fn_min1 (hc : X.calm = true) : CallR X (.builtin "min") (fun vs H Q => rP ca (P.fn .min1).sem vs H Q) := by
  refine fn1 (fun ds r e => by
    replace e : semMin1 ds = .ok r := e
    unfold semMin1 at e
    split at e <;> first
      | (cases e; done)
      | rfl) fun pins s σ H x us Q F d r I rv sb e r1 fl k => ?_
  replace e : semMin1 [d] = .ok r := e
  unfold semMin1 at e
  split at e <;> (try (cases e; done))
  rename_i h2
  cases h2
  split at e
  · rename_i i is hb
    cases e
    obtain ⟨a, vs, rfl, h1, h2⟩ := a_lst r1
    have ev := ints_v h2 hb
    subst ev
    obtain ⟨m1, m2, m3⟩ := fold_min is i
    refine cr_min hc pins s σ H _ us Q I rv ⟨a, _, rfl, SqL.of h1, by simp, fun m hm hy => ?_⟩
    have em : m = is.foldl min i := by
      refine Int.le_antisymm (hy _ ?_) ?_
      · rcases m1 with z | z
        · rw [z]; exact List.mem_cons_self
        · exact List.mem_cons_of_mem _ z
      · rcases List.mem_cons.mp hm with z | z
        · rw [z]; exact m2
        · exact m3 m z
    rw [em]
    exact k _ _ _ (fin_int sb)
  · cases e
theorem fin_tup {p : Addr} {xs : List D} {vs : List V} (s : Sub F H) (h : H p = none) (r : Reps ca F xs vs) : Fin ca F H (.sh (.tup xs)) (.ref p) (upd F p (.tup vs)) (upd H p (.tup vs)) := by
  have n : F p = none := by
    cases e : F p with
    | none => rfl
    | some o => rw [s p o e] at h; cases h
  refine ⟨sub_upd h, sub_upd n, fun a o e => ?_, fun a o e => ?_, ?_⟩
  · by_cases ha : a = p
    · subst ha; rw [upd_same] at e ⊢; exact e
    · rw [upd_ne ha] at e ⊢; exact s a o e
  · by_cases ha : a = p
    · subst ha; exact .inr h
    · rw [upd_ne ha] at e; exact .inl e
  · show Rep ca _ (.tup xs) (.ref p)
    unfold Rep
    exact ⟨p, vs, rfl, upd_same, Reps.mono (sub_upd n) _ _ r⟩
theorem fn_tuple : CallR X (.type "tuple") (fun vs H Q => rP ca (P.fn .tuple).sem vs H Q) := by
  refine fn1 (fun ds r e => by
    replace e : semTuple ds = .ok r := e
    unfold semTuple at e
    split at e <;> first
      | (cases e; done)
      | rfl) fun pins s σ H x us Q F d r I rv sb e r1 fl k => ?_
  replace e : semTuple [d] = .ok r := e
  unfold semTuple at e
  split at e <;> (try (cases e; done))
  · rename_i h2
    cases h2
    cases e
    obtain ⟨a, vs, rfl, h1, h2⟩ := a_lst r1
    exact call_tuple_of pins s σ H _ us Q I rv ⟨a, vs, rfl, .inl ⟨SqL.of h1, fun p hp => k _ _ _ (fin_tup sb hp h2)⟩⟩
  · rename_i h2
    cases h2
    cases e
    rcases fl with fl | fl
    · have q : Rep ca F (.tup _) x := fl
      have q' := q
      unfold Rep at q'
      obtain ⟨a, vs, rfl, h1, h2⟩ := q'
      exact call_tuple_of pins s σ H _ us Q I rv ⟨a, vs, rfl, .inr ⟨SqT.of (sb _ _ h1), k _ _ _ (fin_sh sb q)⟩⟩
    · cases fl
theorem keys_v : ∀ {ds : List (Key × D)} {vs : List (Key × V)} {ks : List Str}, RepK ca F ds vs → keysS ds = some ks → vs.map (·.1) = ks.map Sum.inr
  | [], vs, ks, h, e => by unfold RepK at h; subst h; cases e; rfl
  | (k, d) :: ds, vs, ks, h, e => by
    unfold RepK at h
    obtain ⟨v, r, rfl, h2, h3⟩ := h
    cases k with
    | inl i => cases e
    | inr s =>
      have e' : (keysS ds).map (s :: ·) = some ks := e
      cases q : keysS ds with
      | none => rw [q] at e'; cases e'
      | some js =>
        rw [q] at e'
        cases e'
        rw [List.map_cons, List.map_cons, keys_v h3 q]
theorem fn_sorted (hc : X.calm = true) (hK : ca.K = X.K) : CallR X (.builtin "sorted") (fun vs H Q => rP ca (P.fn .sorted).sem vs H Q) := by
  refine fn1 (fun ds r e => by
    replace e : semSorted ds = .ok r := e
    unfold semSorted at e
    split at e <;> first
      | (cases e; done)
      | rfl) fun pins s σ H x us Q F d r I rv sb e r1 fl k => ?_
  replace e : semSorted [d] = .ok r := e
  unfold semSorted at e
  split at e <;> (try (cases e; done))
  · rename_i h2
    cases h2
    split at e
    · rename_i ss hb
      split at e
      · rename_i hl
        cases e
        obtain ⟨a, vs, rfl, h1, h2⟩ := a_lst r1
        have ev := strs_v h2 hb
        subst ev
        obtain ⟨its, rv2, hl2, _⟩ := I.list (SqL.of (K := X.K) h1)
        rw [Vals.ref1 rv]
        have hlen0 := rv2.length
        rw [List.length_map] at hlen0
        refine PyProof.Rows.sorted_strsAny hl2.isList rv2.strs (by rw [← hlen0]; exact lim_of hl.2) fun out ys z1 z2 z3 => ?_
        have ey := sorted_is z3 (z2.nodup_iff.mpr hl.1) fun y => z2.mem_iff
        subst ey
        obtain ⟨ep, he⟩ := PyProof.Rows.sortedAll_at s.heap its out
        have hlen : ((sortU ss).map V.str).length ≤ sizeLine := by rw [List.length_map, z2.length_eq]; exact lim_of hl.2
        exact ⟨.ref _, upd H (s.heap.objs.size + 1) (.lst ((sortU ss).map V.str)), I.laid (t' := s.toks) (fun _ _ => PyProof.Rows.sortedAll_old) (Nat.le_succ _) ⟨hlen, out.toList, ep, vals_of_strs z1, he⟩, rfl,
          k _ _ _ (fin_lst sb (I.hok.fresh (Nat.le_succ _)) strs_reps)⟩
      · cases e
    · cases e
  · rename_i h2
    cases h2
    split at e
    · rename_i ss hb
      split at e
      · rename_i hl
        cases e
        obtain ⟨a, vs, rfl, h1, h2⟩ := a_dic r1
        refine call_sortedD hc pins s σ H _ us Q I rv ⟨a, vs, ss, rfl, Rd.of h1, keys_v h2 hb, hl.2, fun ys p z2 z3 hp => ?_⟩
        have ey := sorted_is z3 (z2.nodup_iff.mpr hl.1) fun y => z2.mem_iff
        subst ey
        exact k _ _ _ (fin_lst sb hp strs_reps)
      · cases e
    · cases e
end
end FH
set_option Elab.async false
set_option linter.all false
set_option maxRecDepth 100000
set_option maxHeartbeats 2000000
namespace FH
open PySem PySem.Spec PyProof.Rows L2
section
variable {X : Cx}
theorem bt_sorted : bootBuiltins "sorted" = some (.builtin "sorted") := by decide +kernel
theorem bt_set : bootBuiltins "set" = some (.type "set") := by decide +kernel
theorem bt_len : bootBuiltins "len" = some (.builtin "len") := by decide +kernel
/-- a text, or a list of texts -/
def IsTx (K : PySem.W.Frag) (H : Hp) (x : V) (xs : List Str) : Prop := (∃ t : Str, x = .str t ∧ xs = signs t) ∨ ∃ l, x = .ref l ∧ SqL K H l (xs.map V.str)
def tSset (K : PySem.W.Frag) (ta : TE) : TE := fun σ H Q => ta σ H fun x H1 => ∃ xs : List Str, IsTx K H1 x xs ∧ xs.length < 3900 ∧ ∀ p, H1 p = none → Q (.ref p) (upd H1 p (.lst ((sortU xs).map V.str)))
def tLset (K : PySem.W.Frag) (ta : TE) : TE := fun σ H Q => ta σ H fun x H1 => ∃ xs : List Str, IsTx K H1 x xs ∧ xs.length < 3900 ∧ Q (.int (sortU xs).length) H1
theorem signs_len (t : Str) : (signs t).length = t.length := by
  unfold signs
  rw [List.length_map]
  simp [Str.length]
/-- the inner call, and what follows it -/
theorem set_run {x : V} {u : Value} {xs : List Str} {pins : List (Addr × Obj)} {σ : L2.St} {H : Hp} {s : Shared} {Q : Value → Shared → Prop} (hc : X.calm = true) (I : Inv X pins σ H s) (r : RelV x u) (h : IsTx X.K H x xs) (few : xs.length < 3900)
    (fin : ∀ h' tk, SetX X.w h' s.heap.objs.size (fun y => y ∈ xs) xs.length → (∀ b o, b < s.heap.objs.size → s.heap.get? b = some o → h'.get? b = some o) → Q (.ref s.heap.objs.size) { s with heap := h', toks := tk }) :
    wpAny (model X.prog X.w) X.A (call (.type "set") [u]) Q X.xe s := by
  rcases h with ⟨t, rfl, rfl⟩ | ⟨l, rfl, hl⟩
  · obtain ⟨tk, rfl⟩ := r
    have e := signs_len t
    refine setX_text (P := X.prog) (w := X.w) (I.ok.hd hc) (by omega) fun h' tk hS hk => fin h' tk (by rw [e]; exact hS) hk
  · cases r
    obtain ⟨its, rv, pl, hz⟩ := I.list hl
    exact setX_list (P := X.prog) (w := X.w) (I.ok.hd hc) pl.isList (by simpa using rv.strs) few fin
theorem pe_sset {a : Expr} {ta : TE} {p p2 q pos : Pos} (hc : X.calm = true) (hg : Gl X "sorted") (hm : X.mg "sorted" = none) (hg2 : Gl X "set") (hm2 : X.mg "set" = none) (ha : PE X a ta) (na : plain a = true) :
    PE X (.Call (.Name "sorted" p) [.Call (.Name "set" p2) [a] [] q] [] pos) (tSset X.K ta) := by
  refine ⟨fun pins s σ H Q I h => Call_ (ld_blt I hg hm bt_sorted ?_)⟩
  refine PyProof.Rows.callWith_builtin1 (PyProof.Rows.args_cons ?_ rfl) rfl rfl
  refine Call_ (ld_blt I hg2 hm2 bt_set ?_)
  refine PyProof.Rows.callWith_type1 (PyProof.Rows.args_cons (thn (ha.run pins s σ H _ I h) fun v s1 ⟨x, H1, I1, r1, q1⟩ => PyProof.Rows.args_nil ?_) (star_plain na)) (star_plain na) rfl
  obtain ⟨xs, hx, few, q1⟩ := q1
  refine set_run hc I1 r1 hx few fun h' tk hS hk => PyProof.Rows.args_nil ?_
  have I2 : Inv X pins σ H1 { s1 with heap := h', toks := tk } := I1.kept fun b o e => hk b o (Heap.lt_size e) e
  have hS2 : SetX X.w ({ s1 with heap := h', toks := tk } : Shared).heap s1.heap.objs.size (fun y => y ∈ xs) xs.length := hS
  generalize ({ s1 with heap := h', toks := tk } : Shared) = z at I2 hS2 ⊢
  refine sorted_X hS2 (I2.ok.hd hc) fun s' p' out c ys k k1 k2 hp e hy y1 y2 y3 => ?_
  have ey := sorted_is y1 y2 y3
  subst ey
  have I3 : Inv X pins σ (upd H1 p' (.lst ((sortU xs).map V.str))) { z with heap := s'.heap, gens := s'.gens, drawn := s'.drawn, toks := s'.toks } := by
    have sz : ((sortU xs).map V.str).length ≤ sizeLine := by
      have le : (sortU xs).length ≤ xs.length := by
        have : ∀ l : List Str, (sortU l).length ≤ l.length := by
          intro l
          induction l with
          | nil => exact Nat.le_refl _
          | cons b l ih =>
            show (insU b (sortU l)).length ≤ _
            have : ∀ m : List Str, (insU b m).length ≤ m.length + 1 := by
              intro m
              induction m with
              | nil => exact Nat.le_refl _
              | cons d m ihm =>
                unfold insU
                split
                · exact Nat.le_refl _
                · split
                  · exact Nat.le_succ _
                  · rw [List.length_cons, List.length_cons]; omega
            have := this (sortU l)
            rw [List.length_cons]
            omega
        exact this xs
      rw [List.length_map, sizeLine_eq]
      omega
    have hn : H1 p' = none := I2.hok.fresh hp
    exact I2.call (ch := []) (Un.laid k hp hn) (I2.hok.laid k hp ⟨sz, out.toList, c, vals_of_strs hy, e⟩) (by rw [k1]; exact I2.bare) (fun _ z => nomatch z)
  have e2 : s' = { z with heap := s'.heap, gens := s'.gens, drawn := s'.drawn, toks := s'.toks } := by
    cases s'
    cases z
    cases k2
    rfl
  rw [e2]
  exact ⟨.ref p', _, I3, rfl, q1 p' (I2.hok.fresh hp)⟩
theorem pe_lset {a : Expr} {ta : TE} {p p2 q pos : Pos} (hc : X.calm = true) (hg : Gl X "len") (hm : X.mg "len" = none) (hg2 : Gl X "set") (hm2 : X.mg "set" = none) (ha : PE X a ta) (na : plain a = true) :
    PE X (.Call (.Name "len" p) [.Call (.Name "set" p2) [a] [] q] [] pos) (tLset X.K ta) := by
  refine ⟨fun pins s σ H Q I h => Call_ (ld_blt I hg hm bt_len ?_)⟩
  refine PyProof.Rows.callWith_builtin1 (PyProof.Rows.args_cons ?_ rfl) rfl rfl
  refine Call_ (ld_blt I hg2 hm2 bt_set ?_)
  refine PyProof.Rows.callWith_type1 (PyProof.Rows.args_cons (thn (ha.run pins s σ H _ I h) fun v s1 ⟨x, H1, I1, r1, q1⟩ => PyProof.Rows.args_nil ?_) (star_plain na)) (star_plain na) rfl
  obtain ⟨xs, hx, few, q1⟩ := q1
  refine set_run hc I1 r1 hx few fun h' tk hS hk => PyProof.Rows.args_nil ?_
  have I2 : Inv X pins σ H1 { s1 with heap := h', toks := tk } := I1.kept fun b o e => hk b o (Heap.lt_size e) e
  obtain ⟨⟨o, es, ep, t, g0, g1, g2, g3, g4, g5, g6, g7, _⟩, _⟩ := hS
  have en : (es.toList.map txtE).length = (sortU xs).length := by
    refine List.Perm.length_eq ((List.perm_ext_iff_of_nodup g4 ?_).mpr fun z => (g5 z).symm.trans sortU_mem.symm)
    exact (sortU_up xs).imp fun {x y} hab (e : x = y) => ltT_irr y (by rw [e] at hab; exact hab)
  have sz : es.size = (sortU xs).length := by rw [← en, List.length_map, Array.length_toList]
  exact call_len_set g0 g1 g2 g7 (by omega) ⟨.int (sortU xs).length, H1, I2.tok _, ⟨_, by rw [sz]⟩, q1⟩
/-- the calls by values -/
theorem txs_is {ca : Cs} {F H : Hp} {d : D} {x : V} {ss : List Str} (h : txsOf d = some ss) (r : RepA ca F H d x) : IsTx X.K H x ss := by
  cases d with
  | str s =>
    cases h
    exact .inl ⟨s, a_str r, rfl⟩
  | lst t xs =>
    obtain ⟨a, vs, rfl, h1, h2⟩ := a_lst r
    have ev := strs_v h2 h
    subst ev
    exact .inr ⟨a, rfl, SqL.of h1⟩
  | _ => cases h
theorem prim_sset {ca : Cs} {a : Expr} {ts : List TE} {p p2 q pos : Pos} (hc : X.calm = true) (hg : Gl X "sorted") (hm : X.mg "sorted" = none) (hg2 : Gl X "set") (hm2 : X.mg "set" = none) (pe : PEs X [a] ts) (na : plain a = true) :
    PrimE X ca (.sp .sset) (.Call (.Name "sorted" p) [.Call (.Name "set" p2) [a] [] q] [] pos) ts := by
  cases pe with
  | cons h1 h2 =>
  cases h2
  refine peImp (pe_sset hc hg hm hg2 hm2 (peMono h1) na) fun σ H Q z => ⟨_, z, fun v H' q => ?_⟩
  obtain ⟨F, d, r, sb, e, r1, fl, k⟩ := rP1 q
  have e' : semSset [d] = .ok r := e
  unfold semSset at e'
  simp only at e'
  split at e'
  · rename_i ss hs
    split at e'
    · rename_i few
      cases e'
      exact ⟨ss, txs_is hs r1, few, fun p hp => k _ _ _ (fin_lst sb hp strs_reps)⟩
    · cases e'
  · cases e'
theorem prim_lset {ca : Cs} {a : Expr} {ts : List TE} {p p2 q pos : Pos} (hc : X.calm = true) (hg : Gl X "len") (hm : X.mg "len" = none) (hg2 : Gl X "set") (hm2 : X.mg "set" = none) (pe : PEs X [a] ts) (na : plain a = true) :
    PrimE X ca (.sp .lset) (.Call (.Name "len" p) [.Call (.Name "set" p2) [a] [] q] [] pos) ts := by
  cases pe with
  | cons h1 h2 =>
  cases h2
  refine peImp (pe_lset hc hg hm hg2 hm2 (peMono h1) na) fun σ H Q z => ⟨_, z, fun v H' q => ?_⟩
  obtain ⟨F, d, r, sb, e, r1, fl, k⟩ := rP1 q
  have e' : semLset [d] = .ok r := e
  unfold semLset at e'
  simp only at e'
  split at e'
  · rename_i ss hs
    split at e'
    · rename_i few
      cases e'
      exact ⟨ss, txs_is hs r1, few, k _ _ _ (fin_int sb)⟩
    · cases e'
  · cases e'
end
end FH
set_option Elab.async false
set_option linter.all false
set_option maxRecDepth 100000
set_option maxHeartbeats 4000000
namespace FH
open PySem PySem.Spec PyProof.Rows L2
section
variable {X : Cx} {ca : Cs} {F H : Hp} {gs : GX} {Φ : FT} {W : WX}
/-! ### isinstance -/
def tyS : D → String
  | .non => "NoneType" | .bl _ => "bool" | .int _ => "int" | .str _ => "str" | .scr _ => "list" | .lst _ _ => "list" | .tup _ => "tuple" | .dic _ _ => "dict" | .obj _ _ => "object"
theorem ty_of (hK : ca.K = X.K) (sb : Sub F H) {d : D} {v : V} (h : RepA ca F H d v) (n : isObj d = false) : TyX X.K H v (.type (tyS d)) := by
  cases d with
  | non => rw [a_non h]; exact .base .non
  | bl b => rw [a_bl h]; exact .base (.bl b)
  | int b => rw [a_int h]; exact .base (.int b)
  | str b => rw [a_str h]; exact .base (.str b)
  | scr ns =>
    unfold RepA RepA1 Rep at h
    obtain ⟨a, rfl, h1⟩ := h
    rw [hK] at h1
    rcases h1 with (h1 | ⟨o, h1⟩) | ⟨o, its, n, h1, h2, _⟩
    · exact .base (.lst (sb _ _ h1))
    · exact .base (.frz (sb _ _ h1))
    · exact .kList h1 h2
  | lst t xs => obtain ⟨a, vs, rfl, h1, _⟩ := h; exact .base (.lst h1)
  | tup xs => obtain ⟨a, vs, rfl, h1, _⟩ := h; exact .base (.tup h1)
  | dic t xs => obtain ⟨a, vs, rfl, h1, _⟩ := h; exact .base (.dK h1)
  | obj C fs => cases n
theorem okTy_cases {y : Str} (h : okTy y = true) : ∃ n : String, bootBuiltins y = some (.type n) ∧ y ≠ "__name__" ∧ (y == ("__debug__" : Str)) = false ∧ ∀ d, isObj d = false → kitB (tyS d) n = some (isOf [y] d) := by
  unfold okTy at h
  have h' := of_decide_eq_true h
  simp only [List.mem_cons, List.mem_nil_iff, or_false] at h'
  have key : ∀ (z : Str) (n : String), bootBuiltins z = some (.type n) → z ≠ "__name__" → (z == ("__debug__" : Str)) = false → kitB "NoneType" n = some (isOfS [z] "NoneType") → kitB "bool" n = some (isOfS [z] "bool") → kitB "int" n = some (isOfS [z] "int") →
      kitB "str" n = some (isOfS [z] "str") → kitB "list" n = some (isOfS [z] "list") → kitB "tuple" n = some (isOfS [z] "tuple") → kitB "dict" n = some (isOfS [z] "dict") →
      ∃ n : String, bootBuiltins z = some (.type n) ∧ z ≠ "__name__" ∧ (z == ("__debug__" : Str)) = false ∧ ∀ d, isObj d = false → kitB (tyS d) n = some (isOf [z] d) := fun z n h1 h2 h3 a1 a2 a3 a4 a5 a6 a7 =>
    ⟨n, h1, h2, h3, fun d hd => by cases d <;> first | exact a1 | exact a2 | exact a3 | exact a4 | exact a5 | exact a6 | exact a7 | cases hd⟩
  rcases h' with rfl | rfl | rfl | rfl | rfl | rfl
  · exact key "int" "int" (by decide +kernel) (by decide +kernel) (by decide +kernel) (by decide +kernel) (by decide +kernel) (by decide +kernel) (by decide +kernel) (by decide +kernel) (by decide +kernel) (by decide +kernel)
  · exact key "str" "str" (by decide +kernel) (by decide +kernel) (by decide +kernel) (by decide +kernel) (by decide +kernel) (by decide +kernel) (by decide +kernel) (by decide +kernel) (by decide +kernel) (by decide +kernel)
  · exact key "bool" "bool" (by decide +kernel) (by decide +kernel) (by decide +kernel) (by decide +kernel) (by decide +kernel) (by decide +kernel) (by decide +kernel) (by decide +kernel) (by decide +kernel) (by decide +kernel)
  · exact key "list" "list" (by decide +kernel) (by decide +kernel) (by decide +kernel) (by decide +kernel) (by decide +kernel) (by decide +kernel) (by decide +kernel) (by decide +kernel) (by decide +kernel) (by decide +kernel)
  · exact key "tuple" "tuple" (by decide +kernel) (by decide +kernel) (by decide +kernel) (by decide +kernel) (by decide +kernel) (by decide +kernel) (by decide +kernel) (by decide +kernel) (by decide +kernel) (by decide +kernel)
  · exact key "dict" "dict" (by decide +kernel) (by decide +kernel) (by decide +kernel) (by decide +kernel) (by decide +kernel) (by decide +kernel) (by decide +kernel) (by decide +kernel) (by decide +kernel) (by decide +kernel)
theorem okTy_in {y : Str} (h : okTy y = true) : y ∈ bnames := by
  unfold okTy at h
  have h' := of_decide_eq_true h
  simp only [List.mem_cons, List.mem_nil_iff, or_false] at h'
  rcases h' with rfl | rfl | rfl | rfl | rfl | rfl <;> decide +kernel
theorem isi_sem {ts : List Str} {d : D} {r : R} (h : (P.isi ts).sem [d] = .ok r) : isObj d = false ∧ r = .sh (.bl (isOf ts d)) := by
  have h' : (if isObj d then M.no else mb (isOf ts d)) = .ok r := h
  cases e : isObj d with
  | true => rw [e] at h'; cases h'
  | false => rw [e] at h'; cases h'; exact ⟨rfl, rfl⟩
theorem prim_isi1 (hK : ca.K = X.K) (G : Good X ca Φ gs W) {y : Str} {a : Expr} {ta : TE} {p1 p2 pos : Pos} {z : Str} (hz : z = "isinstance") (g1 : gl (cOf X gs) z = true) (g2 : gl (cOf X gs) y = true) (hy : okTy y = true) (hp : plain a = true) (h : PE X a ta) :
    PrimE X ca (.isi [y]) (.Call (.Name z p1) [a, .Name y p2] [] pos) [ta] := by
  subst hz
  obtain ⟨n, b1, b2, b3, b4⟩ := okTy_cases hy
  have hm := G.un y (okTy_in hy)
  have pty : PE X (.Name y p2) (tC (.ty n)) := pe_bltn (gl_ok g2).1 hm b1 rfl b2 b3
  have pa : PA X [a, .Name y p2] (tCons (mono ta) (tCons (tC (.ty n)) tNil)) := pa_cons (peMono h) (pa_cons pty pa_nil rfl) (star_plain hp)
  refine peImp (pe_callB call_isi (gl_ok g1).1 (G.un _ (by decide +kernel)) (by decide +kernel) pa (by decide) (by decide) (star_plain hp) rfl) fun σ H Q q => ⟨_, q, fun x H1 q1 => ?_⟩
  obtain ⟨F, d, r, sb, e, r1, _, k⟩ := rP1 q1
  obtain ⟨e1, rfl⟩ := isi_sem e
  exact ⟨x, .ty n, .type (tyS d), .type n, isOf [y] d, rfl, .ty n, ty_of hK sb r1 e1, kit_ty (b4 d e1), k _ _ _ (fin_bl sb)⟩
theorem RepA1.grow {H' : Hp} (e : Sub H H') {d : D} {v : V} (h : RepA1 ca F H d v) : RepA1 ca F H' d v := by
  cases d with
  | lst t xs => obtain ⟨a, vs, h1, h2, h3⟩ := h; exact ⟨a, vs, h1, e _ _ h2, h3⟩
  | dic t xs => obtain ⟨a, vs, h1, h2, h3⟩ := h; exact ⟨a, vs, h1, e _ _ h2, h3⟩
  | obj C fs => obtain ⟨a, dx, vs, h1, h2, h3⟩ := h; exact ⟨a, dx, vs, h1, e _ _ h2, h3⟩
  | _ => exact h
theorem RepA.grow {H' : Hp} (e : Sub H H') {d : D} {v : V} (h : RepA ca F H d v) : RepA ca F H' d v := by
  cases d with
  | tup xs =>
    obtain ⟨a, vs, h1, h2, h3, h4⟩ := h
    exact ⟨a, vs, h1, e _ _ h2, h3, fun i d w e1 e2 => (h4 i d w e1 e2).grow e⟩
  | _ =>
    unfold RepA at h ⊢
    exact RepA1.grow e h
theorem isOf_two (y z : Str) (d : D) : (isOf [y] d || isOf [z] d) = isOf [y, z] d := by
  unfold isOf isOfS
  simp only [List.mem_cons, List.mem_nil_iff, or_false, Bool.decide_or]
  cases decide (tyD d = y) <;> cases decide (tyD d = z) <;> cases decide (tyD d = "bool") <;> cases decide (("int" : Str) = y) <;> cases decide (("int" : Str) = z) <;> rfl
theorem prim_isi2 (hK : ca.K = X.K) (G : Good X ca Φ gs W) {y y' : Str} {a : Expr} {ta : TE} {p1 p2 p3 p4 pos : Pos} {m : Nat} {z : Str} (hz : z = "isinstance") (g1 : gl (cOf X gs) z = true) (g2 : gl (cOf X gs) y = true) (g3 : gl (cOf X gs) y' = true) (hy : okTy y = true) (hy' : okTy y' = true) (hp : plain a = true) (h : PE X a ta) :
    PrimE X ca (.isi [y, y']) (.Call (.Name z p1) [a, .Tuple [.Name y p2, .Name y' p3] m p4] [] pos) [ta] := by
  subst hz
  obtain ⟨n, b1, b2, b3, b4⟩ := okTy_cases hy
  obtain ⟨n', c1, c2, c3, c4⟩ := okTy_cases hy'
  have pty : PE X (.Name y p2) (tC (.ty n)) := pe_bltn (gl_ok g2).1 (G.un y (okTy_in hy)) b1 rfl b2 b3
  have pty' : PE X (.Name y' p3) (tC (.ty n')) := pe_bltn (gl_ok g3).1 (G.un y' (okTy_in hy')) c1 rfl c2 c3
  have pt : PE X (.Tuple [.Name y p2, .Name y' p3] m p4) (tTup (tCons (tC (.ty n)) (tCons (tC (.ty n')) tNil))) := pe_tup (pa_cons pty (pa_cons pty' pa_nil rfl) rfl)
  have pa : PA X [a, .Tuple [.Name y p2, .Name y' p3] m p4] (tCons (mono ta) (tCons (tTup (tCons (tC (.ty n)) (tCons (tC (.ty n')) tNil))) tNil)) := pa_cons (peMono h) (pa_cons pt pa_nil rfl) (star_plain hp)
  refine peImp (pe_callB call_isiT (gl_ok g1).1 (G.un _ (by decide +kernel)) (by decide +kernel) pa (by decide) (by decide) (star_plain hp) rfl) fun σ H Q q => ⟨_, q, fun x H1 q1 => ?_⟩
  obtain ⟨F, d, r, sb, e, r1, _, k⟩ := rP1 q1
  obtain ⟨e1, rfl⟩ := isi_sem e
  refine ⟨by show 2 ≤ sizeLine; rw [sizeLine_eq]; decide, fun p hp => ?_⟩
  have sb2 : Sub F (upd H1 p (.tup [.ty n, .ty n'])) := sb.trans (sub_upd hp)
  refine ⟨x, p, [.ty n, .ty n'], .type (tyS d), [.type n, .type n'], isOf [y, y'] d, rfl, upd_same, .cons (.ty n) (.cons (.ty n') .nil), ty_of hK sb2 (r1.grow (sub_upd hp)) e1, ?_, k _ _ _ ⟨sub_upd hp, .refl _, sb2, fun _ _ z => .inl z, (fin_bl (F := F) (ca := ca) sb).val⟩⟩
  rw [← isOf_two]
  refine kitAny_cons (kit_ty (b4 d e1)) (fun hb => ?_) fun hb => by rw [hb] <;> rfl
  rw [hb]
  refine kitAny_cons (kit_ty (c4 d e1)) (fun hc => ?_) fun hc => by rw [hc] <;> rfl
  rw [hc]
  exact kitAny_nil
/-! ### the others -/
theorem plainIx {b : Expr} (h : plain b = true) : PlainIx b := by
  intro o i
  cases b <;> first
    | rfl
    | (unfold plain at h; cases h; done)
theorem un_neg' : UnR X (unaryOp .USub) (fun x H Q => rP ca P.neg.sem [x] H Q) := by
  intro pins s σ H x v Q I rx q
  obtain ⟨F, d, r, sb, e, r1, _, k⟩ := rP1 q
  cases d <;> first
    | (cases e; done)
    | skip
  cases e
  exact un_neg pins s σ H x v Q I rx ⟨_, a_int r1, k _ _ _ (fin_int sb)⟩
theorem fn_call (hK : ca.K = X.K) (G : Good X ca Φ gs W) {f : Fn} {y : Str} {args : List Expr} {ts : List TE} {p pos : Pos} (hy : y = f.name) (hg : gl (cOf X gs) y = true) (ha : args.length = f.arity) (pe : PEs X args ts) (hp : plains args = true) : PrimE X ca (.fn f) (.Call (.Name y p) args [] pos) ts := by
  have ne : args ≠ [] := fun e => by
    subst e
    cases f <;> cases ha
  obtain ⟨e, es, rfl⟩ := List.exists_cons_of_ne_nil ne
  have pa := pe.pa hp
  unfold plains at hp
  simp only [Bool.and_eq_true] at hp
  subst hy
  have hu : X.A.units + 64 < cLine := G.room.room.units
  have B : ∀ {id : String} {r : List V → Hp → VK → Prop}, CallR X (.builtin id) r → bootBuiltins f.name = some (.builtin id) → PE X (.Call (.Name f.name p) (e :: es) [] pos) (tCB r (seqT ts)) := fun {id r} hc hv =>
    pe_callB hc (gl_ok hg).1 (G.un _ (by cases f <;> decide +kernel)) hv pa (by cases f <;> decide) (by cases f <;> decide) (star_plain hp.1) (star_plains hp.2)
  have Ty : ∀ {id : String} {r : List V → Hp → VK → Prop}, CallR X (.type id) r → bootBuiltins f.name = some (.type id) → PE X (.Call (.Name f.name p) (e :: es) [] pos) (tCB r (seqT ts)) := fun {id r} hc hv =>
    pe_callTy hc (gl_ok hg).1 (G.un _ (by cases f <;> decide +kernel)) hv pa (by cases f <;> decide) (by cases f <;> decide) (star_plain hp.1) (star_plains hp.2)
  cases f with
  | len => exact B (fn_len hK) (by decide +kernel)
  | int => exact Ty fn_int (by decide +kernel)
  | str => exact Ty fn_str (by decide +kernel)
  | repr => exact B (fn_repr hu G.room.gd) (by decide +kernel)
  | list => exact Ty (fn_list G.calm) (by decide +kernel)
  | sum => exact B (fn_sum G.calm) (by decide +kernel)
  | all => exact B (fn_all G.calm) (by decide +kernel)
  | any => exact B (fn_any G.calm) (by decide +kernel)
  | max2 => exact B (fn_max2 G.calm) (by decide +kernel)
  | min2 => exact B (fn_min2 G.calm) (by decide +kernel)
  | max1 => exact B (fn_max1 G.calm) (by decide +kernel)
  | min1 => exact B (fn_min1 G.calm) (by decide +kernel)
  | tuple => exact Ty fn_tuple (by decide +kernel)
  | sorted => exact B (fn_sorted G.calm hK) (by decide +kernel)
end
end FH
set_option Elab.async false
set_option linter.all false
set_option maxRecDepth 100000
set_option maxHeartbeats 4000000
namespace FH
open PySem PySem.Spec PyProof.Rows L2
section
variable {X : Cx} {ca : Cs} {gs : GX} {Φ : FT} {W : WX}
theorem pes1 {a : Expr} {ts : List TE} (pe : PEs X [a] ts) : ∃ t, ts = [t] ∧ PE X a t := by
  cases pe with | cons h1 pe => cases pe; exact ⟨_, rfl, h1⟩
theorem pes2 {a b : Expr} {ts : List TE} (pe : PEs X [a, b] ts) : ∃ t u, ts = [t, u] ∧ PE X a t ∧ PE X b u := by
  cases pe with | cons h1 pe => obtain ⟨u, rfl, h2⟩ := pes1 pe; exact ⟨_, u, rfl, h1, h2⟩
theorem pes3 {a b c : Expr} {ts : List TE} (pe : PEs X [a, b, c] ts) : ∃ t u w, ts = [t, u, w] ∧ PE X a t ∧ PE X b u ∧ PE X c w := by
  cases pe with | cons h1 pe => obtain ⟨u, w, rfl, h2, h3⟩ := pes2 pe; exact ⟨_, u, w, rfl, h1, h2, h3⟩
theorem plains_1 {a : Expr} {r : List Expr} (h : plains (a :: r) = true) : plain a = true ∧ plains r = true := by
  unfold plains at h
  simpa only [Bool.and_eq_true] using h
theorem endR {b : Expr} (hb : plain b = true) {env : Env} : True := trivial
theorem prim_bin {op : Operator} {a b : Expr} {pos : Pos} {ts : List TE} (pe : PEs X [a, b] ts) : PrimE X ca (.bin op) (.BinOp a op b pos) ts := by
  obtain ⟨t, u, rfl, h1, h2⟩ := pes2 pe
  have := pe_op (pos := pos) (opr_bin (X := X) (ca := ca) (op := op)) h1 h2
  exact this
theorem prim_cmp (hu : X.A.units + 64 < cLine) {op : CmpOp} {a b : Expr} {pos : Pos} {ts : List TE} (hb : plain b = true) (pe : PEs X [a, b] ts) : PrimE X ca (.cmp op) (.Compare a [op] [b] pos) ts := by
  obtain ⟨t, u, rfl, h1, h2⟩ := pes2 pe
  have := pe_cmpR (pos := pos) (opr_cmp (ca := ca) (op := op) hu) h1 h2 (by cases b <;> first | rfl | (unfold plain at hb; cases hb; done))
  exact this
theorem prim_cmpT (hu : X.A.units + 64 < cLine) {op : CmpOp} {a b : Expr} {pos : Pos} {ts : List TE} (hb : plain b = true) (pe : PEs X [a, b] ts) : PrimT X ca (.cmp op) (.Compare a [op] [b] pos) ts := by
  obtain ⟨t, u, rfl, h1, h2⟩ := pes2 pe
  have := pt_cmpR (pos := pos) (opr_cmp (ca := ca) (op := op) hu) h1 h2 (by cases b <;> first | rfl | (unfold plain at hb; cases hb; done))
  exact this
theorem prim_neg {a : Expr} {pos : Pos} {ts : List TE} (pe : PEs X [a] ts) : PrimE X ca .neg (.UnaryOp .USub a pos) ts := by
  obtain ⟨t, rfl, h1⟩ := pes1 pe
  have := pe_un (pos := pos) (un_neg' (X := X) (ca := ca)) h1
  exact this
theorem prim_idx (hu : X.A.units + 64 < cLine) (hK : ca.K = X.K) {a b : Expr} {pos : Pos} {ts : List TE} (hb : plain b = true) (pe : PEs X [a, b] ts) : PrimE X ca .idx (.Subscript a b pos) ts := by
  obtain ⟨t, u, rfl, h1, h2⟩ := pes2 pe
  have := pe_ix (pos := pos) (ixr_idx (ca := ca) hu hK) h1 h2 (plainIx hb)
  exact this
theorem rP3 {p : List D → M R} {F H : Hp} {x y z : V} {Q : VK} (h : rP ca p [x, y, z] H Q) : ∃ F d1 d2 d3 r, Sub F H ∧ p [d1, d2, d3] = .ok r ∧ RepA ca F H d1 x ∧ RepA ca F H d2 y ∧ RepA ca F H d3 z ∧ ∀ v F' H', Fin ca F H r v F' H' → Q v H' := by
  obtain ⟨F, ds, r, s, e, rep, k⟩ := h
  have sh : ∀ {P : D → V → Prop}, All2 P ds [x, y, z] → ∃ d1 d2 d3, ds = [d1, d2, d3] ∧ P d1 x ∧ P d2 y ∧ P d3 z := fun {P} h => by
    match ds, h with
    | [], h => cases h
    | [_], ⟨_, _, h1, _, h2⟩ => cases h1; cases h2
    | [_, _], ⟨_, _, h1, h2, _, _, h3, h4, h5⟩ => cases h1; cases h3; cases h5
    | [d1, d2, d3], ⟨_, _, h1, h2, _, _, h3, h4, _, _, h5, h6, h7⟩ => cases h1; cases h3; cases h5; exact ⟨d1, d2, d3, rfl, h2, h4, h6⟩
    | _ :: _ :: _ :: _ :: _, ⟨_, _, h1, _, _, _, h3, _, _, _, h5, _, _, _, h7, _⟩ => cases h1; cases h3; cases h5; cases h7
  rcases rep with rep | ⟨rep, fl⟩
  · obtain ⟨d1, d2, d3, rfl, r1, r2, r3⟩ := sh rep
    exact ⟨F, d1, d2, d3, r, s, e, r1.a s, r2.a s, r3.a s, k⟩
  · obtain ⟨d1, d2, d3, rfl, r1, r2, r3⟩ := sh rep
    exact ⟨F, d1, d2, d3, r, s, e, r1, r2, r3, k⟩
def dInt : D → Option Int
  | .int i => some i
  | _ => none
theorem sl_tt {d l h : D} {r : R} (e : (P.sl true true).sem [d, l, h] = .ok r) : ∃ i j, l = .int i ∧ h = .int j ∧ semSl d (some i) (some j) = .ok r := by
  cases l <;> cases h <;> first
    | exact ⟨_, _, rfl, rfl, e⟩
    | (exact nomatch (show (M.no : M R) = .ok r from e))
theorem sl_tf {d l : D} {r : R} (e : (P.sl true false).sem [d, l] = .ok r) : ∃ i, l = .int i ∧ semSl d (some i) none = .ok r := by
  cases l <;> first
    | exact ⟨_, rfl, e⟩
    | (exact nomatch (show (M.no : M R) = .ok r from e))
theorem sl_ft {d l : D} {r : R} (e : (P.sl false true).sem [d, l] = .ok r) : ∃ i, l = .int i ∧ semSl d none (some i) = .ok r := by
  cases l <;> first
    | exact ⟨_, rfl, e⟩
    | (exact nomatch (show (M.no : M R) = .ok r from e))
theorem rv_ok {d : D} {r : R} (e : P.rv.sem [d] = .ok r) : (∃ t xs, d = .lst t xs ∧ r = .ow (.lst none xs.reverse)) ∨ ∃ s, d = .str s ∧ s.length ≤ LIM ∧ r = .sh (.str ⟨s.cps.toList.reverse.toArray⟩) := by
  cases d with
  | lst t xs =>
    have e' : (M.ok (R.ow (D.lst none xs.reverse)) : M R) = .ok r := e
    cases e'
    exact .inl ⟨_, _, rfl, rfl⟩
  | str s =>
    have e' : (if s.length ≤ LIM then ms ⟨s.cps.toList.reverse.toArray⟩ else M.no : M R) = .ok r := e
    split at e'
    · rename_i h
      cases e'
      exact .inr ⟨_, rfl, h, rfl⟩
    · cases e'
  | _ => exact nomatch (show (M.no : M R) = .ok r from e)
/-- x[::-1], x a list or a text -/
def tRevX (K : PySem.W.Frag) (te : TE) : TE := fun σ H Q => te σ H fun x H1 => (∃ a xs, x = .ref a ∧ SqL K H1 a xs ∧ ∀ p, H1 p = none → Q (.ref p) (upd H1 p (.lst xs.reverse))) ∨
  ∃ z, x = .str z ∧ z.length ≤ sizeLine ∧ Q (.str ⟨z.cps.toList.reverse.toArray⟩) H1
theorem revS_eq (z : Str) (u : Tok) : (Txt.sliceBy z none none (-1, u)) = ⟨z.cps.toList.reverse.toArray⟩ := by
  have h := step_rev_list z u
  generalize Txt.sliceBy z none none (-1, u) = w at h
  obtain ⟨⟨w⟩⟩ := w
  have h' : w = (List.range z.length).map fun k => z.cps.getD (z.length - 1 - k) 0 := h
  subst h'
  congr 2
  have key : ∀ c : List Nat, (List.range c.length).map (fun k => c.toArray.getD (c.length - 1 - k) 0) = c.reverse := fun c => by
    apply List.ext_getElem
    · simp
    · intro i h1 h2
      have hi : i < c.length := by simpa using h1
      have hj : c.length - 1 - i < c.length := by omega
      simp only [List.getElem_map, List.getElem_range, List.getElem_reverse]
      simp [Array.getD, hj]
  have := key z.cps.toList
  simpa [PySem.Str.length] using this
theorem pe_revX {e : Expr} {te : TE} {k : Nat} {p1 p2 p3 pos : Pos} (he : PE X e te) : PE X (.Subscript e (.Slice none none (some (.UnaryOp .USub (.Constant (.int 1) k p1) p2)) p3) pos) (tRevX X.K te) := by
  refine ⟨fun pins s σ H Q I h => ?_⟩
  refine Subscript_ (thn (he.run pins s σ H _ I h) fun v s1 ⟨x, H1, I1, r1, q1⟩ => ?_)
  have hst : PO X (some (.UnaryOp .USub (.Constant (.int 1) k p1) p2)) (tPart (tUn (rU fun i => .int (-i)) (tC (.int 1)))) := po_some (pe_un un_neg pe_int)
  refine wpAny_Slice (thn (po_none.run pins s1 σ H1 (fun o H2 => o = none ∧ H2 = H1) I1 ⟨rfl, rfl⟩) fun vl s2 ⟨l, H2, I2, pl, el, e2⟩ => ?_)
  subst el e2
  refine thn (po_none.run pins s2 σ H2 (fun o H3 => o = none ∧ H3 = H2) I2 ⟨rfl, rfl⟩) fun vu s3 ⟨u, H3, I3, pu, eu, e3⟩ => ?_
  subst eu e3
  refine thn (hst.run pins s3 σ H3 (fun o H4 => o = some (-1) ∧ H4 = H3) I3 ⟨1, rfl, -1, rfl, rfl, rfl⟩) fun vs s4 ⟨o, H4, I4, ps, eo, e4⟩ => ?_
  subst eo e4
  have I5 : Inv X pins σ H4 { s4 with heap := s4.heap.push { cls := .type "slice", data := .fields #[vl, vu, vs] } } := I4.kept (t' := s4.toks) fun b ob q => Heap.get?_push_of_some _ q
  show wpAny (model X.prog X.w) X.A (subscriptTail e (.Slice none none (some (.UnaryOp .USub (.Constant (.int 1) k p1) p2)) p3) v (.ref s4.heap.objs.size)) (EP X pins σ Q) X.xe { s4 with heap := s4.heap.push { cls := .type "slice", data := .fields #[vl, vu, vs] } }
  rcases q1 with ⟨a, xs, rfl, hx, q⟩ | ⟨z, rfl, hz, q⟩
  · cases r1
    obtain ⟨its, r, ht, hz⟩ := I5.list hx
    have hlen := r.length
    refine tail_any (ops := [.ref a, .ref s4.heap.objs.size]) ht.isList.typeIs (PySem.slot_list_getitem.lookup) ?_ (by with_unfolding_all rfl)
    refine wpAny_getItem_list_slice ht.isList (Heap.IsSliceOf.new _ vl vu vs) pl pu ps (by decide) ?_ (by rw [List.size_toArray]; omega)
    rw [PySem.W.krv_pick]
    refine ⟨.ref _, _, I5.laid (t' := s4.toks) (o := .lst xs.reverse) (fun b ob q => Heap.get?_push_of_some _ q) (Nat.le_refl _) ?_, rfl, q _ (I5.hok.fresh (Nat.le_refl _))⟩
    exact ⟨by rw [List.length_reverse]; exact hz, _, 0, r.reverse, Heap.get?_push_size _ rfl⟩
  · obtain ⟨t, rfl⟩ := r1
    obtain ⟨l, rfl, el⟩ := IsPart.raw pl
    obtain ⟨u, rfl, eu⟩ := IsPart.raw pu
    obtain ⟨st, rfl, es⟩ := IsPart.raw ps
    have el' : l = none := by cases l <;> first | rfl | cases el
    have eu' : u = none := by cases u <;> first | rfl | cases eu
    subst el' eu'
    obtain ⟨⟨i, w⟩, rfl⟩ : ∃ i, st = some i := by
      cases st with
      | none => cases es
      | some i => exact ⟨i, rfl⟩
    have ei : i = -1 := by simp at es; omega
    subst ei
    refine tail_any (ops := [.str z t, .ref s4.heap.objs.size]) (typeIs_str _ _ _) PySem.F.slot_str_getitem.lookup ?_ (by with_unfolding_all rfl)
    refine wpAny_getItem_str_slice (l := none) (u := none) (st := some (-1, w)) (Heap.IsSliceOf.new _ _ _ _) rfl ?_
    have hr := revS_eq z w
    rw [← hr] at q
    have hl : (Txt.sliceBy z none none (-1, w)).length ≤ sizeLine := by rw [step_rev_len]; exact hz
    unfold Txt.sliceBy at q hl
    have hc : ¬ ((((some ((-1 : Int), w)).map (·.1)).getD 1 == 1 && (slicePicked z none none (some ((-1 : Int), w))).length == z.length) = true) := by
      have : ((((some ((-1 : Int), w)).map (·.1)).getD 1 == 1)) = false := rfl
      rw [this]; simp
    unfold sliceMade
    rw [if_neg hc] at q hl ⊢
    exact ⟨hl, .str _, H4, I5.tok _, ⟨_, rfl⟩, q⟩
theorem prim_sl2 {a l h : Expr} {p2 pos : Pos} {ts : List TE} (pe : PEs X [a, l, h] ts) : PrimE X ca (.sl true true) (.Subscript a (.Slice (some l) (some h) none p2) pos) ts := by
  obtain ⟨t, u, w, rfl, h1, h2, h3⟩ := pes3 pe
  have := pe_sl2 (pos := pos) (p2 := p2) (slr_all (X := X) (ca := ca)) (peMono h1) (peMono h2) (peMono h3)
  refine peImp this fun σ H Q q => ⟨_, q, fun x H1 q1 => ⟨_, q1, fun y H2 q2 => ⟨_, q2, fun z H3 q3 => ?_⟩⟩⟩
  obtain ⟨F, d1, d2, d3, r, sb, e, a1, a2, a3, k⟩ := rP3 (F := H3) q3
  obtain ⟨i, j, rfl, rfl, e2⟩ := sl_tt e
  exact ⟨i, j, a_int a2, a_int a3, F, d1, r, sb, e2, a1, k⟩
theorem prim_sl1 {a l : Expr} {p2 pos : Pos} {ts : List TE} (pe : PEs X [a, l] ts) : PrimE X ca (.sl true false) (.Subscript a (.Slice (some l) none none p2) pos) ts := by
  obtain ⟨t, u, rfl, h1, h2⟩ := pes2 pe
  have := pe_slice (pos := pos) (p2 := p2) (slr_all (X := X) (ca := ca)) (peMono h1) (po_some (peMono h2)) po_none
  refine peImp this fun σ H Q q => ⟨_, q, fun x H1 q1 => ⟨_, q1, fun y H2 q2 => ?_⟩⟩
  obtain ⟨F, d1, d2, r, sb, e, a1, a2, _, k⟩ := rP2 q2
  obtain ⟨i, rfl, e2⟩ := sl_tf e
  exact ⟨i, a_int a2, F, d1, r, sb, e2, a1, k⟩
theorem prim_sl0 {a l : Expr} {p2 pos : Pos} {ts : List TE} (pe : PEs X [a, l] ts) : PrimE X ca (.sl false true) (.Subscript a (.Slice none (some l) none p2) pos) ts := by
  obtain ⟨t, u, rfl, h1, h2⟩ := pes2 pe
  have := pe_slice (pos := pos) (p2 := p2) (slr_all (X := X) (ca := ca)) (peMono h1) po_none (po_some (peMono h2))
  refine peImp this fun σ H Q q => ⟨_, q, fun x H1 q1 => ⟨_, q1, fun y H2 q2 => ?_⟩⟩
  obtain ⟨F, d1, d2, r, sb, e, a1, a2, _, k⟩ := rP2 q2
  obtain ⟨i, rfl, e2⟩ := sl_ft e
  exact ⟨i, a_int a2, F, d1, r, sb, e2, a1, k⟩
theorem prim_rv {a : Expr} {p1 p2 p3 pos : Pos} {n : Nat} {ts : List TE} (pe : PEs X [a] ts) : PrimE X ca .rv (.Subscript a (.Slice none none (some (.UnaryOp .USub (.Constant (.int 1) n p1) p2)) p3) pos) ts := by
  obtain ⟨t, rfl, h1⟩ := pes1 pe
  refine peImp (pe_revX (peMono h1)) fun σ H Q q => ⟨_, q, fun x H1 q1 => ?_⟩
  obtain ⟨F, d, r, sb, e, a1, _, k⟩ := rP1 q1
  rcases rv_ok e with ⟨t, xs, rfl, rfl⟩ | ⟨s, rfl, hl, rfl⟩
  · obtain ⟨a, vs, rfl, b1, b2⟩ := a_lst a1
    exact .inl ⟨a, vs, rfl, SqL.of b1, fun p hp => k _ _ _ (fin_lst sb hp b2.reverse)⟩
  · exact .inr ⟨_, a_str a1, lim_of hl, k _ _ _ (fin_str sb)⟩
theorem base_ok {o : Expr} {name : Str} {env : Env} {t : Sem Value} (hp : plain o = true) : attributeBase o name env t = t := by
  cases o <;> first
    | rfl
    | skip
  rename_i f args kws pos
  cases f <;> first
    | rfl
    | (unfold plain at hp; cases hp; done)
    | skip
  rename_i id p
  have hid : (!(id == ("super" : Str))) = true := by unfold plain at hp; exact hp
  cases args <;> cases kws <;> first
    | rfl
    | skip
  unfold attributeBase
  have e : (id != ("super" : Str)) = true := hid
  simp only [e, Bool.true_or, if_true]
/-- a field of an instance -/
theorem repF_get : ∀ {fs : List (Str × D)} {vs : List (Str × V)} {F : Hp} {f : Str} {d : D}, RepF ca F fs vs → fs.lookup f = some d → ∃ v, vs.lookup f = some v ∧ Rep ca F d v
  | [], vs, F, f, d, h, e => by cases e
  | (k, d0) :: fs, vs, F, f, d, h, e => by
    unfold RepF at h
    obtain ⟨v, r, h1, h2, h3⟩ := h
    subst h1
    rw [List.lookup_cons] at e ⊢
    cases hk : f == k with
    | true =>
      rw [hk] at e
      cases e
      exact ⟨v, rfl, h2⟩
    | false =>
      rw [hk] at e
      exact repF_get h3 e
theorem prim_fld (G : Good X ca Φ gs W) {C f g : Str} {o : Expr} {pos : Pos} {ts : List TE} (hg : g = f) (hc : gs.has C f = true) (hp : plain o = true) (pe : PEs X [o] ts) : PrimE X ca (.fld C f) (.Attribute o g pos) ts := by
  subst hg
  obtain ⟨t, rfl, h1⟩ := pes1 pe
  obtain ⟨c1, c2⟩ := G.cl C g hc
  refine peImp (pe_fld (peMono h1) (base_ok hp)) fun σ H Q q => ⟨_, q, fun x H1 q1 => ?_⟩
  obtain ⟨F, d, r, sb, e, ra, rep, k⟩ := rP1 q1
  have e' : (match d with
    | .obj A fs => if A = C then mopt (fs.lookup g) else M.no
    | _ => M.no) = .ok r := by
    cases d <;> first
      | exact e
      | (cases e; done)
  cases d <;> first
    | (cases e'; done)
    | skip
  rename_i A fs
  simp only at e'
  by_cases hA : A = C
  · subst hA
    rw [if_pos rfl] at e'
    cases el : fs.lookup g with
    | none => rw [el] at e'; cases e'
    | some d0 =>
      rw [el] at e'
      cases e'
      obtain ⟨a, dx, vs, k1, k2, k3⟩ := ra
      obtain ⟨v, l1, l2⟩ := repF_get k3 el
      exact ⟨a, ca.ad A, dx, vs, v, k1, k2, c1, c2, l1, k _ _ _ (fin_sh sb l2)⟩
  · rw [if_neg hA] at e'
    cases e'
theorem prim_isc (hK : ca.K = X.K) (G : Good X ca Φ gs W) {z y C : Str} {As : List Str} {a : Expr} {p1 p2 pos : Pos} {ts : List TE} (hz : z = "isinstance") (g1 : gl (cOf X gs) z = true) (g2 : gl (cOf X gs) y = true) (hy : y = C) (hc : gs.isC C = true) (ha : As.all gs.isC = true) (hp : plain a = true) (pe : PEs X [a] ts) :
    PrimE X ca (.isc C As) (.Call (.Name z p1) [a, .Name y p2] [] pos) ts := by
  subst hz hy
  obtain ⟨t, rfl, h⟩ := pes1 pe
  obtain ⟨c1, c2, c3, c4, c5⟩ := G.ic y hc
  obtain ⟨q1, q2, _⟩ := gl_ok g2
  have pty : PE X (.Name y p2) (tC (.ref (ca.ad y))) := pe_glob q1 c4 rfl q2
  have pa : PA X [a, .Name y p2] (tCons (mono t) (tCons (tC (.ref (ca.ad y))) tNil)) := pa_cons (peMono h) (pa_cons pty pa_nil rfl) (star_plain hp)
  refine peImp (pe_callB call_isi (gl_ok g1).1 (G.un _ (by decide +kernel)) (by decide +kernel) pa (by decide) (by decide) (star_plain hp) rfl) fun σ H Q q => ⟨_, q, fun x H1 q1 => ?_⟩
  obtain ⟨F, d, r, sb, e, ra, _, k⟩ := rP1 q1
  have e' : semIsc y As d = .ok r := e
  by_cases ho : isObj d = true
  · cases d <;> first
      | (cases ho; done)
      | skip
    rename_i A fs rep
    have e2 : (if A ∈ As then mb (decide (A = y)) else M.no) = .ok r := e'
    by_cases hA : A ∈ As
    · rw [if_pos hA] at e2
      have er : r = .sh (.bl (decide (A = y))) := by cases e2; rfl
      subst er
      obtain ⟨a', dx, vs, k1, k2, k3⟩ := ra
      subst k1
      obtain ⟨d1, d2, _, _, _⟩ := G.ic A (List.all_eq_true.mp ha A hA)
      exact ⟨_, .ref (ca.ad y), .ref (ca.ad A), .ref (ca.ad y), decide (A = y), rfl, .own _, .base (.ins k2 d1 d2.ha d2.hn d2.tk d2.hm), c5 A (List.all_eq_true.mp ha A hA), k _ _ _ (fin_bl sb)⟩
    · rw [if_neg hA] at e2
      cases e2
  · have ho' : isObj d = false := by simpa using ho
    have er : r = .sh (.bl false) := by
      cases d <;> first
        | (cases ho'; done)
        | (cases e'; rfl)
    subst er
    have tn : tyS d ∈ tyNames := by
      cases d <;> first
        | (cases ho'; done)
        | exact (show ("NoneType" : String) ∈ tyNames by decide)
        | exact (show ("bool" : String) ∈ tyNames by decide)
        | exact (show ("int" : String) ∈ tyNames by decide)
        | exact (show ("str" : String) ∈ tyNames by decide)
        | exact (show ("list" : String) ∈ tyNames by decide)
        | exact (show ("tuple" : String) ∈ tyNames by decide)
        | exact (show ("dict" : String) ∈ tyNames by decide)
    exact ⟨x, .ref (ca.ad y), .type (tyS d), .ref (ca.ad y), false, rfl, .own _, ty_of hK sb ra ho', ownKit_ok c3 tn, k _ _ _ (fin_bl sb)⟩
theorem prim_all (hK : ca.K = X.K) (G : Good X ca Φ gs W) {p : P} {x : Expr} {xs : List Expr} {ts : List TE} (hm : mP (cOf X gs) p x = some xs) (hp : plains xs = true) (pe : PEs X xs ts) : PrimE X ca p x ts := by
  have hu : X.A.units + 64 < cLine := G.room.room.units
  unfold mP at hm
  split at hm
  · split at hm
    · rename_i h; subst h
      cases (Option.some.inj hm)
      exact prim_bin pe
    · cases hm
  · split at hm
    · rename_i h; subst h
      cases (Option.some.inj hm)
      exact prim_cmp hu (plains_1 (plains_1 hp).2).1 pe
    · cases hm
  · cases (Option.some.inj hm)
    exact prim_neg pe
  · cases (Option.some.inj hm)
    exact prim_idx hu hK (plains_1 (plains_1 hp).2).1 pe
  · cases (Option.some.inj hm)
    exact prim_sl2 pe
  · cases (Option.some.inj hm)
    exact prim_sl1 pe
  · cases (Option.some.inj hm)
    exact prim_sl0 pe
  · cases (Option.some.inj hm)
    exact prim_rv pe
  · split at hm
    · rename_i hz
      simp only [Bool.and_eq_true, decide_eq_true_eq] at hz
      obtain ⟨hz, g1⟩ := hz
      split at hm
      · split at hm
        · rename_i h
          simp only [Bool.and_eq_true, decide_eq_true_eq] at h
          obtain ⟨⟨g2, rfl⟩, g3⟩ := h
          cases (Option.some.inj hm)
          obtain ⟨t, rfl, h1⟩ := pes1 pe
          exact prim_isi1 hK G hz g1 g2 g3 (plains_1 hp).1 h1
        · cases hm
      · split at hm
        · rename_i h
          simp only [Bool.and_eq_true, decide_eq_true_eq] at h
          obtain ⟨⟨⟨⟨g2, g3⟩, rfl⟩, g4⟩, g5⟩ := h
          cases (Option.some.inj hm)
          obtain ⟨t, rfl, h1⟩ := pes1 pe
          exact prim_isi2 hK G hz g1 g2 g3 g4 g5 (plains_1 hp).1 h1
        · cases hm
      · cases hm
    · cases hm
  · split at hm
    · rename_i h
      simp only [Bool.and_eq_true, decide_eq_true_eq] at h
      obtain ⟨⟨⟨⟨⟨h1, h2⟩, h3⟩, h4⟩, h5⟩, h6⟩ := h
      cases (Option.some.inj hm)
      exact prim_isc hK G h1 h2 h3 h4 h5 h6 (plains_1 hp).1 pe
    · cases hm
  · split at hm
    · rename_i h
      simp only [Bool.and_eq_true, decide_eq_true_eq] at h
      cases (Option.some.inj hm)
      exact prim_fld G h.1.1 h.1.2 h.2 pe
    · cases hm
  · split at hm
    · rename_i h
      simp only [Bool.and_eq_true, decide_eq_true_eq] at h
      obtain ⟨⟨⟨rfl, rfl⟩, h3⟩, h4⟩ := h
      cases (Option.some.inj hm)
      exact prim_sset G.calm (gl_ok h3).1 (G.un _ (by decide +kernel)) (gl_ok h4).1 (G.un _ (by decide +kernel)) pe (plains_1 hp).1
    · cases hm
  · split at hm
    · rename_i h
      simp only [Bool.and_eq_true, decide_eq_true_eq] at h
      obtain ⟨⟨⟨rfl, rfl⟩, h3⟩, h4⟩ := h
      cases (Option.some.inj hm)
      exact prim_lset G.calm (gl_ok h3).1 (G.un _ (by decide +kernel)) (gl_ok h4).1 (G.un _ (by decide +kernel)) pe (plains_1 hp).1
    · cases hm
  · split at hm
    · rename_i h
      simp only [Bool.and_eq_true, decide_eq_true_eq] at h
      cases (Option.some.inj hm)
      exact fn_call hK G h.1.1 h.1.2 h.2 pe hp
    · cases hm
  · cases hm
end
end FH
set_option Elab.async false
set_option linter.all false
set_option maxRecDepth 100000
set_option maxHeartbeats 2000000
namespace FH
open PySem PySem.Spec PyProof.Rows L2
/-- what an iterator over these data does -/
def ItD (ca : Cs) (F : Hp) (J : It) (xs : List D) : Prop := ∀ (i : Nat) (F1 H : Hp), Sub F F1 → Sub F1 H →
  (∀ d, xs[i]? = some d → J.go i H ∧ ∀ x H', J.yld i H x H' → ∃ F2, Sub F1 F2 ∧ Sub F2 H' ∧ Sub H H' ∧ (∀ a o, F2 a = some o → F1 a = some o ∨ H a = none) ∧ Rep ca F2 d x) ∧ (i = xs.length → J.stop i H)
section
variable {ca : Cs} {F : Hp} {K : PySem.W.Frag}
theorem itd_list {a : Addr} {vs : List V} {xs : List D} (h : F a = some (.lst vs)) (r : Reps ca F xs vs) : ItD ca F (Itl K a) xs := fun i F1 H s1 s2 => by
  have hq : SqL K H a vs := SqL.of (s2 _ _ (s1 _ _ h))
  refine ⟨fun d e => ?_, fun e => ⟨vs, hq, ?_⟩⟩
  · obtain ⟨v, e1, e2⟩ := r.get e
    refine ⟨⟨vs, v, hq, e1⟩, fun x H' y => ?_⟩
    obtain ⟨y1, y2⟩ := y
    have e3 := y2 vs hq
    rw [e1] at e3
    cases e3
    rw [y1]
    exact ⟨F1, .refl _, s2, .refl _, fun _ _ z => .inl z, Rep.mono s1 _ _ e2⟩
  · rw [r.length]
    exact Nat.le_of_eq e.symm
theorem itd_tup {a : Addr} {vs : List V} {xs : List D} (h : F a = some (.tup vs)) (r : Reps ca F xs vs) : ItD ca F (Itt K a) xs := fun i F1 H s1 s2 => by
  have hq : SqT K H a vs := SqT.of (s2 _ _ (s1 _ _ h))
  refine ⟨fun d e => ?_, fun e => ⟨vs, hq, ?_⟩⟩
  · obtain ⟨v, e1, e2⟩ := r.get e
    refine ⟨⟨vs, v, hq, e1⟩, fun x H' y => ?_⟩
    obtain ⟨y1, y2⟩ := y
    have e3 := y2 vs hq
    rw [e1] at e3
    cases e3
    rw [y1]
    exact ⟨F1, .refl _, s2, .refl _, fun _ _ z => .inl z, Rep.mono s1 _ _ e2⟩
  · rw [r.length]
    exact Nat.le_of_eq e.symm
theorem itd_str {s : Str} : ItD ca F (Its s) (strItems s) := fun i F1 H s1 s2 => by
  have hl : (strItems s).length = s.cps.size := by unfold strItems; simp
  refine ⟨fun d e => ?_, fun e => ?_⟩
  · have hi : i < s.cps.size := by rw [← hl]; exact (List.getElem?_eq_some_iff.mp e).1
    refine ⟨hi, fun x H' y => ?_⟩
    obtain ⟨y1, c, y2, y3⟩ := y
    rw [y1, y3]
    refine ⟨F1, .refl _, s2, .refl _, fun _ _ z => .inl z, ?_⟩
    have e2 : (strItems s)[i]? = some (.str ⟨#[c]⟩) := by
      unfold strItems
      rw [List.getElem?_map, Array.getElem?_toList, y2] <;> rfl
    rw [e] at e2
    cases e2
    unfold Rep
    rfl
  · show s.cps.size ≤ i
    omega
theorem itd_rng {lo hi : Int} {n : Nat} (hn : n = (hi - lo).toNat) : ItD ca F (Itr lo n) (rngD lo hi) := fun i F1 H s1 s2 => by
  have hl : (rngD lo hi).length = n := by unfold rngD; simp [hn]
  refine ⟨fun d e => ?_, fun e => ?_⟩
  · have hi' : i < n := by rw [← hl]; exact (List.getElem?_eq_some_iff.mp e).1
    refine ⟨hi', fun x H' y => ?_⟩
    obtain ⟨y1, y2⟩ := y
    rw [y1, y2]
    refine ⟨F1, .refl _, s2, .refl _, fun _ _ z => .inl z, ?_⟩
    have e2 : (rngD lo hi)[i]? = some (.int (lo + (i : Int))) := by
      unfold rngD
      rw [List.getElem?_map, List.getElem?_range (by omega)] <;> rfl
    rw [e] at e2
    cases e2
    unfold Rep
    rfl
  · show n ≤ i
    omega
theorem rep_tup2 {F1 : Hp} {T : Addr} {d1 d2 : D} {x y : V} {H : Hp} (s2 : Sub F1 H) (hT : H T = none) (r1 : Rep ca F1 d1 x) (r2 : Rep ca F1 d2 y) :
    ∃ F2, Sub F1 F2 ∧ Sub F2 (upd H T (.tup [x, y])) ∧ Sub H (upd H T (.tup [x, y])) ∧ (∀ a o, F2 a = some o → F1 a = some o ∨ H a = none) ∧ Rep ca F2 (.tup [d1, d2]) (.ref T) := by
  have n1 : F1 T = none := by
    cases e : F1 T with
    | none => rfl
    | some o => rw [s2 _ _ e] at hT; cases hT
  have sb := sub_upd (o := .tup [x, y]) n1
  refine ⟨upd F1 T (.tup [x, y]), sb, fun a o e => ?_, sub_upd hT, fun a o e => ?_, ?_⟩
  · by_cases ha : a = T
    · subst ha; rw [upd_same] at e ⊢; exact e
    · rw [upd_ne ha] at e ⊢; exact s2 _ _ e
  · by_cases ha : a = T
    · subst ha; exact .inr hT
    · rw [upd_ne ha] at e; exact .inl e
  · unfold Rep
    exact ⟨T, [x, y], rfl, upd_same, .cons (Rep.mono sb _ _ r1) (.cons (Rep.mono sb _ _ r2) .nil)⟩
theorem enumD_get {xs : List D} {i : Nat} {d : D} (h : (enumD xs)[i]? = some d) : ∃ e, xs[i]? = some e ∧ d = .tup [.int (i : Nat), e] := by
  unfold enumD at h
  rw [List.getElem?_map, List.getElem?_zipIdx] at h
  cases e : xs[i]? with
  | none => rw [e] at h; cases h
  | some x =>
    rw [e] at h
    have h' := Option.some.inj h
    refine ⟨x, rfl, ?_⟩
    rw [← h']
    simp
theorem enumD_len {xs : List D} : (enumD xs).length = xs.length := by unfold enumD; simp
theorem itd_enum {a : Addr} {vs : List V} {xs : List D} (h : F a = some (.lst vs)) (r : Reps ca F xs vs) : ItD ca F (Ite K a) (enumD xs) := fun i F1 H s1 s2 => by
  have hq : SqL K H a vs := SqL.of (s2 _ _ (s1 _ _ h))
  refine ⟨fun d e => ?_, fun e => ⟨vs, hq, ?_⟩⟩
  · obtain ⟨q, q1, rfl⟩ := enumD_get e
    obtain ⟨v, e1, e2⟩ := r.get q1
    refine ⟨⟨vs, v, hq, e1⟩, fun x H' y => ?_⟩
    obtain ⟨T, w, y1, y2, y3, y4⟩ := y
    have e3 := y4 vs hq
    rw [e1] at e3
    cases e3
    rw [y1, y3]
    exact rep_tup2 s2 y2 (by unfold Rep; rfl) (Rep.mono s1 _ _ e2)
  · rw [r.length]
    rw [enumD_len] at e
    omega
theorem zipD_get {xs ys : List D} {i : Nat} {d : D} (h : (zipD xs ys)[i]? = some d) : ∃ e f, xs[i]? = some e ∧ ys[i]? = some f ∧ d = .tup [e, f] := by
  unfold zipD at h
  rw [List.getElem?_map] at h
  cases e : (xs.zip ys)[i]? with
  | none => rw [e] at h; cases h
  | some p =>
    rw [e] at h
    obtain ⟨h1, h2⟩ := List.getElem?_zip_eq_some.mp e
    exact ⟨p.1, p.2, h1, h2, (Option.some.inj h).symm⟩
theorem itd_zip {a b : Addr} {vs us : List V} {xs ys : List D} (h : F a = some (.lst vs)) (h2 : F b = some (.lst us)) (r : Reps ca F xs vs) (r2 : Reps ca F ys us) : ItD ca F (Itz K a b) (zipD xs ys) := fun i F1 H s1 s2 => by
  have hq : SqL K H a vs := SqL.of (s2 _ _ (s1 _ _ h))
  have hq2 : SqL K H b us := SqL.of (s2 _ _ (s1 _ _ h2))
  refine ⟨fun d e => ?_, fun e => ⟨vs, us, hq, hq2, ?_⟩⟩
  · obtain ⟨q, q', q1, q2, rfl⟩ := zipD_get e
    obtain ⟨v, e1, e2⟩ := r.get q1
    obtain ⟨u, f1, f2⟩ := r2.get q2
    refine ⟨⟨vs, us, v, u, hq, hq2, e1, f1⟩, fun x H' y => ?_⟩
    obtain ⟨T, w, z, y1, y2, y3, y4, y5⟩ := y
    have e3 := y4 vs hq
    have e4 := y5 us hq2
    rw [e1] at e3
    rw [f1] at e4
    cases e3
    cases e4
    rw [y1, y3]
    exact rep_tup2 s2 y2 (Rep.mono s1 _ _ e2) (Rep.mono s1 _ _ f2)
  · rw [r.length, r2.length]
    unfold zipD at e
    rw [List.length_map, List.length_zip] at e
    omega
end
/-! ### readings of sources -/
def tI (ca : Cs) (Φ : FT) (W : WX) (e : T) : TI := fun σ H R => ∃ F O env k, AE ca F O env σ H ∧ Below O k ∧ PostG ca W σ k F O H (one1 (ev Φ e env)) (fun a F1 O1 H1 => AE ca F1 O1 a.2 σ H1 → Below O1 k → ∀ t xs, a.1 = .sh (.lst t xs) → ∀ J, ItD ca F1 J xs → R J H1)
section
variable {X : Cx} {ca : Cs} {Φ : FT} {gs : GX} {W : WX} {tg x : Expr}
theorem piImp {t t' : TI} (h : PI X tg x t) (i : ∀ σ H Q, t' σ H Q → t σ H Q) : PI X tg x t' := ⟨fun pins s σ H Q I q => h.run pins s σ H Q I (i σ H Q q)⟩
/-- a list, a tuple, a text -/
def iUni (K : PySem.W.Frag) (te : TE) : TI := fun σ H R => te σ H fun x H1 => (∃ a, x = .ref a ∧ (∃ xs, SqL K H1 a xs) ∧ R (Itl K a) H1) ∨ (∃ a, x = .ref a ∧ (∃ xs, SqT K H1 a xs) ∧ R (Itt K a) H1) ∨ ∃ z, x = .str z ∧ R (Its z) H1
theorem pi_uni {te : TE} (hl : PE X x te) : PI X tg x (iUni X.K te) := by
  constructor
  intro pins s0 σ H R I0 hw
  refine thn (hl.run pins s0 σ H _ I0 hw) ?_
  rintro w s1 ⟨y, H1, J, ry, (⟨a, rfl, ⟨zs, hz⟩, q⟩ | ⟨a, rfl, ⟨zs, hz⟩, q⟩ | ⟨z, rfl, q⟩)⟩
  · obtain rfl : w = .ref a := ry
    obtain ⟨us, _, pl, _⟩ := J.list hz
    exact wpAny_pyIter_list pl.isList (pi_one (tk := s1.toks) J _ (turn_list a _) ⟨_, Heap.get?_push_size _ rfl, rfl, rfl⟩ q)
  · obtain rfl : w = .ref a := ry
    obtain ⟨us, _, pl, _⟩ := J.tuple hz
    exact wpAny_pyIter_tuple (show s1.heap.IsTuple a us.toArray from pl) (pi_one (tk := s1.toks) J _ (turn_tuple a _) ⟨_, Heap.get?_push_size _ rfl, rfl, rfl⟩ q)
  · obtain ⟨t, rfl⟩ := ry
    cases hw : z.cps.all (· < 128) with
    | true => exact wpAny_pyIter_ascii hw (pi_one (tk := s1.toks) J _ (turn_str _ z t _ (.inl rfl)) ⟨_, Heap.get?_push_size _ rfl, rfl, rfl⟩ q)
    | false => exact wpAny_pyIter_wide hw (pi_one (tk := s1.toks) J _ (turn_str _ z t _ (.inr rfl)) ⟨_, Heap.get?_push_size _ rfl, rfl, rfl⟩ q)
theorem srcR_ok {xs : List D} {env : En} : (xs.length ≤ LIM ∧ srcR xs env = .ok ([.sh (.lst none xs)], env)) ∨ srcR xs env = .no := by
  unfold srcR
  split
  · rename_i h; exact .inl ⟨h, rfl⟩
  · exact .inr rfl
/-- the source's value frozen -/
theorem src_go {σ : L2.St} {k : Nat} {F : Hp} {O : Own} {H : Hp} {env : En} {xs : List D} {R : It → Hp → Prop} {J : It}
    (p : PostG ca W σ k F O H (one1 (srcR xs env)) (fun a F1 O1 H1 => AE ca F1 O1 a.2 σ H1 → Below O1 k → ∀ t xs, a.1 = .sh (.lst t xs) → ∀ J, ItD ca F1 J xs → R J H1)) (ae : AE ca F O env σ H)
    (hJ : ItD ca (mF (aTz k) O F H) J xs) : R J H := by
  rcases srcR_ok (xs := xs) (env := env) with ⟨_, e⟩ | e
  · rw [e] at p
    have p2 : PostG ca W σ k F O H (.ok (FH.R.sh (.lst none xs), env)) _ := p
    exact p2 _ _ _ (ae.bs.stp (aTz_low k)) (ae.mapS _ fun _ _ => rfl) below_tz none xs rfl J hJ
  · rw [e] at p
    exact p.elim
theorem snd_sval {e : T} (h : PE X x (tE ca Φ W e)) : PI X tg x (tI ca Φ W (.sval e)) := by
  refine piImp (pi_uni h) fun σ H R q => ?_
  obtain ⟨F, O, env, k, ae, bl, p⟩ := q
  have e3 : one1 (ev Φ (.sval e) env) = (one1 (ev Φ e env)).bind fun a => one1 (match itemsOf a.1.d with
    | some xs => srcR xs a.2
    | none => .no) := by
    show one1 ((one1 (ev Φ e env)).bind _) = _
    rw [one1_bind] <;> rfl
  rw [e3] at p
  refine ⟨F, O, env, k, ae, bl, p.bind.imp fun a F1 O1 H1 st1 p1 v ae1 rv bl1 => ?_⟩
  have rz : Rep ca (mF (aTz k) O1 F1 H1) a.1.d v := rv.frz (φ := aTz k) ae1.bs fun c => if_neg (Nat.lt_irrefl k)
  have sb := (ae1.bs.map (aTz k)).sub
  cases ei : itemsOf a.1.d with
  | none => rw [ei] at p1; exact p1.elim
  | some xs =>
    rw [ei] at p1
    unfold itemsOf at ei
    split at ei
    · rename_i t ys ed
      cases ei
      rw [ed] at rz
      unfold Rep at rz
      obtain ⟨a', vs, rfl, h1, _, h2⟩ := rz
      exact .inl ⟨a', rfl, ⟨vs, SqL.of (sb _ _ h1)⟩, src_go p1 ae1 (itd_list h1 h2)⟩
    · rename_i ys ed
      cases ei
      rw [ed] at rz
      unfold Rep at rz
      obtain ⟨a', vs, rfl, h1, h2⟩ := rz
      exact .inr (.inl ⟨a', rfl, ⟨vs, SqT.of (sb _ _ h1)⟩, src_go p1 ae1 (itd_tup h1 h2)⟩)
    · rename_i z ed
      cases ei
      rw [ed] at rz
      unfold Rep at rz
      subst rz
      exact .inr (.inr ⟨z, rfl, src_go p1 ae1 itd_str⟩)
    · cases ei
theorem RepRs.tz {F H : Hp} {O : Own} {k : Nat} {rs : List FH.R} {vs : List V} (b : Bs F O H) (h : RepRs ca F H O Lab.t k rs vs) : Reps ca (mF (aTz k) O F H) (rs.map FH.R.d) vs :=
  RepRs.frz (L := Lab.t) (φ := aTz k) b (fun j c hj => (show (if j < k then some (some (Lab.t j c)) else none) = none from if_neg (by omega))) h
theorem int_of {F : Hp} {i : Int} {v : V} (h : Rep ca F (.int i) v) : v = .int i := by unfold Rep at h; exact h
theorem lim62 : (LIM : Int) < 2 ^ 62 := by unfold LIM; decide
theorem rngE {es : T} {env : En} : one1 (ev Φ (.srng es) env) = (ev Φ es env).bind fun a => one1 (match a.1.map FH.R.d with
    | [.int n] => if -LIM ≤ n ∧ n ≤ LIM then srcR (rngD 0 n) a.2 else .no
    | [.int a', .int b] => if -LIM ≤ a' ∧ a' ≤ LIM ∧ -LIM ≤ b ∧ b ≤ LIM then srcR (rngD a' b) a.2 else .no
    | _ => .no) := by
  show one1 ((ev Φ es env).bind _) = _
  rw [one1_bind] <;> rfl
theorem snd_rng1 (G : Good X ca Φ gs W) {es : T} {a : Expr} {p pos : Pos} (h : ArgOk X ca Φ W es [a]) (hp : plain a = true) (hg : gl (cOf X gs) "range" = true) : PI X tg (.Call (.Name "range" p) [a] [] pos) (tI ca Φ W (.srng es)) := by
  obtain ⟨ts, pe, i⟩ := h
  have pa := pe.pa (by unfold plains plains; rw [hp] <;> rfl)
  refine piImp (pi_range1 (gl_ok hg).1 (G.un _ (by decide +kernel)) pa (star_plain hp)) fun σ H R q => ?_
  obtain ⟨F, O, env, k, ae, bl, p⟩ := q
  rw [rngE] at p
  refine i _ _ _ ⟨F, O, env, k, ae, bl, p.bind.imp fun a F1 O1 H1 st1 p1 vs ae1 rvs bl1 z => ?_⟩
  have rz := rvs.tz ae1.bs
  have hl : (a.1.map FH.R.d).length = 1 := by rw [List.length_map, ← rvs.length]; exact z.2
  generalize a.1.map FH.R.d = ds at p1 rz hl
  match ds, hl with
  | [d], _ =>
    unfold Reps at rz
    obtain ⟨v, r, rfl, r1, r2⟩ := rz
    unfold Reps at r2
    subst r2
    cases d with
    | int n =>
      have ev := int_of r1
      subst ev
      have p2 : PostG ca W σ k F1 O1 H1 (one1 (if -(LIM : Int) ≤ n ∧ n ≤ (LIM : Int) then srcR (rngD 0 n) a.2 else .no)) _ := p1
      split at p2
      · have l62 := lim62
        exact ⟨n, rfl, by omega, by omega, src_go p2 ae1 (itd_rng (by simp))⟩
      · exact p2.elim
    | _ => exact p1.elim
theorem snd_rng2 (G : Good X ca Φ gs W) {es : T} {a b : Expr} {p pos : Pos} (h : ArgOk X ca Φ W es [a, b]) (hp : plain a = true) (hp2 : plain b = true) (hg : gl (cOf X gs) "range" = true) : PI X tg (.Call (.Name "range" p) [a, b] [] pos) (tI ca Φ W (.srng es)) := by
  obtain ⟨ts, pe, i⟩ := h
  have pa := pe.pa (by unfold plains plains plains; rw [hp, hp2] <;> rfl)
  have s2 : starEach [b] X.env = [(false, eval b X.env)] := star_plain hp2
  refine piImp (pi_range2 (gl_ok hg).1 (G.un _ (by decide +kernel)) pa (by rw [star_plain hp, s2]) s2) fun σ H R q => ?_
  obtain ⟨F, O, env, k, ae, bl, p⟩ := q
  rw [rngE] at p
  refine i _ _ _ ⟨F, O, env, k, ae, bl, p.bind.imp fun a F1 O1 H1 st1 p1 vs ae1 rvs bl1 z => ?_⟩
  have rz := rvs.tz ae1.bs
  have hl : (a.1.map FH.R.d).length = 2 := by rw [List.length_map, ← rvs.length]; exact z.2
  generalize a.1.map FH.R.d = ds at p1 rz hl
  match ds, hl with
  | [d, d'], _ =>
    unfold Reps at rz
    obtain ⟨v, r, rfl, r1, r2⟩ := rz
    unfold Reps at r2
    obtain ⟨v', r', rfl, r3, r4⟩ := r2
    unfold Reps at r4
    subst r4
    cases d with
    | int n =>
      cases d' with
      | int m =>
        have ev := int_of r1
        have ev2 := int_of r3
        subst ev ev2
        have p2 : PostG ca W σ k F1 O1 H1 (one1 (if -(LIM : Int) ≤ n ∧ n ≤ (LIM : Int) ∧ -(LIM : Int) ≤ m ∧ m ≤ (LIM : Int) then srcR (rngD n m) a.2 else .no)) _ := p1
        split at p2
        · have l62 := lim62
          exact ⟨n, m, rfl, ⟨by omega, by omega, by omega, by omega⟩, src_go p2 ae1 (itd_rng rfl)⟩
        · exact p2.elim
      | _ => exact p1.elim
    | _ => exact p1.elim
end
end FH
set_option Elab.async false
set_option linter.all false
set_option maxRecDepth 100000
set_option maxHeartbeats 2000000
namespace FH
open PySem PySem.Spec PyProof.Rows L2
/-- the signs of a text, numbered, in new pairs -/
def Ies (x : Str) : It :=
  ⟨fun i _ => i < x.cps.size, fun i H v H' => ∃ T c, v = .ref T ∧ H T = none ∧ H' = upd H T (.tup [.int (i : Nat), .str ⟨#[c]⟩]) ∧ x.cps[i]? = some c, fun i _ => i = x.cps.size⟩
def draws_text {prog : Program} {w : World} {A : Around} (hh : A.handled = none) (it : Addr) (x : Str) (t : Tok) :
    Draws prog w A it [it] x.cps.size (fun i v => ∃ c u, x.cps[i]? = some c ∧ v = .str ⟨#[c]⟩ u) (fun i h => h.IsStrIter it (strIterType x) x t i) := by
  unfold strIterType
  cases x.cps.all (· < 128) with
  | true => exact Draws.strAscii hh it x t
  | false => exact Draws.strWide hh it x t
theorem turn_enumS {P : Program} {w : World} {K : PySem.W.Frag} {elts : List Expr} {kk : Nat} {tpos : Pos} (x : Str) (t : Tok) (e it : Addr) (ne : e ≠ it) :
    Turn P w K (.Tuple elts kk tpos) (Ies x) [e, it] e (fun i h => (∃ old, IsEnum h e it ((i : Nat) : Int) old) ∧ h.IsStrIter it (strIterType x) x t i) where
  mem := List.mem_cons_self
  obj := by
    rintro i h ⟨⟨old, q1⟩, ⟨o, q2, q3, q4⟩⟩ b hb
    have two : b = e ∨ b = it := by simpa using hb
    rcases two with rfl | rfl
    · exact ⟨_, q1, fun v y => nomatch y⟩
    · exact ⟨o, q2, fun v y => by rw [q4] at y; cases y⟩
  keep := by
    rintro i h h' ⟨⟨old, q1⟩, ⟨o, q2, q3⟩⟩ kp
    exact ⟨⟨old, kp e List.mem_cons_self _ q1⟩, ⟨o, kp it (List.mem_cons_of_mem _ List.mem_cons_self) o q2, q3⟩⟩
  item := by
    rintro X rfl rfl rfl hc i pins s σ H E I hf ⟨⟨old, q1⟩, q2⟩ hg
    have lt1 : e < s.heap.objs.size := Heap.lt_size q1
    have lt2 : it < s.heap.objs.size := by obtain ⟨_, y, _⟩ := q2; exact Heap.lt_size y
    have D := draws_text (prog := X.prog) (w := X.w) (A := X.A.in1) (I.ok.hd hc) it x t
    refine wpAny_pyNext_enum_itemD D q1 q2 hg ne (by simpa using ne) fun v h1 tk hv ho st2 hT hsz hk => ?_
    obtain ⟨c, u, hcx, rfl⟩ := hv
    refine ⟨_, rfl, wpAny_letOwnedTupleGo_enum (s := { s with heap := h1, toks := tk + 1 }) ho fun h2 ho2 sb => ?_⟩
    have hT2 : h2.get? s.heap.objs.size = some { cls := .type "tuple", data := .seq #[.int i tk, .str ⟨#[c]⟩ u] } := (sb.2 _ (Nat.ne_of_gt lt1)).trans hT
    have fresh : ObjOk X.prog X.w (upd H s.heap.objs.size (.tup [.int (i : Nat), .str ⟨#[c]⟩])) h2 s.heap.objs.size (.tup [.int (i : Nat), .str ⟨#[c]⟩]) :=
      ⟨by show 2 ≤ sizeLine; rw [sizeLine_eq]; decide, [.int i tk, .str ⟨#[c]⟩ u], .cons ⟨_, rfl⟩ (.cons ⟨_, rfl⟩ .nil), ⟨_, hT2, rfl, _, rfl⟩⟩
    have J : Inv X pins σ (upd H s.heap.objs.size (.tup [.int (i : Nat), .str ⟨#[c]⟩])) { s with heap := h2, toks := tk + 1 } :=
      I.turnedNew (ch := [e, it]) (fun b ob hb y => (sb.2 b (fun z => hb (by rw [z]; exact List.mem_cons_self))).trans (hk b ob (fun z => hb (by rw [z]; exact List.mem_cons_self)) (fun z => hb (by rw [z]; exact List.mem_cons_of_mem _ List.mem_cons_self)) y)) hf (Nat.le_refl _) fresh
    refine ⟨.ref s.heap.objs.size, _, J, rfl, ⟨_, c, rfl, I.hok.fresh (Nat.le_refl _), rfl, hcx⟩, ⟨⟨.str ⟨#[c]⟩ u, ?_⟩, ?_⟩, fun b hb => ?_⟩
    · have e1 : ((i + 1 : Nat) : Int) = (i : Int) + 1 := by omega
      rw [e1]
      exact ho2
    · obtain ⟨o, y1, y2⟩ := st2
      exact ⟨o, (sb.2 it (Ne.symm ne)).trans y1, y2⟩
    · have two : b = e ∨ b = it := by simpa using hb
      have lt3 : b < s.heap.objs.size := by rcases two with rfl | rfl <;> assumption
      rw [upd_ne (Nat.ne_of_lt lt3)]
      exact (hf b hb).1
  done := by
    rintro X rfl rfl rfl hc i pins s σ H E I hf ⟨⟨old, q1⟩, q2⟩ hg
    obtain ⟨f0, f1, f2, f3, f4, f5⟩ := hf it (List.mem_cons_of_mem _ List.mem_cons_self)
    have hg' : i = x.cps.size := hg
    subst hg'
    have D := draws_text (prog := X.prog) (w := X.w) (A := X.A.in1) (I.ok.hd hc) it x t
    refine wpAny_pyNext_enum_endD D q1 q2 fun h1 eb => ⟨rfl, ?_⟩
    exact I.turned (t' := s.toks) (fun b o hb y => eb b o hb y) f0 f1 f3 f4 f5
  self := by
    rintro A i s Q E ⟨⟨old, q1⟩, q2⟩ h
    exact wpAny_pyIter_enum q1 h
/-! ### the sources -/
section
variable {X : Cx} {ca : Cs} {Φ : FT} {gs : GX} {W : WX} {x : Expr}
def iEnumU (K : PySem.W.Frag) (ta : TA) : TI := fun σ H R => ta σ H fun vs H1 => (∃ a, vs = [.ref a] ∧ (∃ xs, SqL K H1 a xs) ∧ R (Ite K a) H1) ∨ ∃ z, vs = [.str z] ∧ R (Ies z) H1
theorem pi_enumU {e : Expr} {ta : TA} {p pos tpos : Pos} {elts : List Expr} {kk : Nat} (hg : Gl X "enumerate") (hm : X.mg "enumerate" = none) (ha : PA X [e] ta) (hs : starEach [e] X.env = [(false, eval e X.env)]) :
    PI X (.Tuple elts kk tpos) (.Call (.Name "enumerate" p) [e] [] pos) (iEnumU X.K ta) := by
  constructor
  intro pins s0 σ H R I0 hw
  refine Call_ (ld_blt I0 hg hm boot_enumerate (PyProof.Rows.callWith_type1 (thn (ha.run pos pins s0 σ H _ I0 hw) ?_) hs rfl))
  rintro us s1 ⟨vs, H1, J, ru, (⟨a, rfl, ⟨zs, hz⟩, q⟩ | ⟨z, rfl, q⟩)⟩
  · cases ru with
    | cons r1 r2 =>
      cases r2
      rename_i u
      obtain rfl : u = .ref a := r1
      obtain ⟨us, _, pl, _⟩ := J.list hz
      refine call_enumerate_list pl.isList fun h1 y1 y2 y3 y4 => wpAny_pyIter_enum y1 ?_
      have J2 : Inv X pins σ H1 { s1 with heap := h1 } := J.kept (t' := s1.toks) y4
      refine ⟨s1.heap.objs.size + 1, [s1.heap.objs.size + 1, s1.heap.objs.size], _, _, H1, rfl, J2, turn_enum a (s1.heap.objs.size + 1) s1.heap.objs.size, ⟨⟨.none, y1⟩, y2, Nat.succ_ne_self _⟩, fun b hb => ?_, q⟩
      have two : b = s1.heap.objs.size + 1 ∨ b = s1.heap.objs.size := by simpa using hb
      have le : s1.heap.objs.size ≤ b := by rcases two with rfl | rfl <;> omega
      exact J.fpOk le (J.hok.fresh le)
  · cases ru with
    | cons r1 r2 =>
      cases r2
      obtain ⟨t, rfl⟩ := r1
      refine call_enumerate_str fun h1 y1 y2 y3 y4 => wpAny_pyIter_enum y1 ?_
      have J2 : Inv X pins σ H1 { s1 with heap := h1 } := J.kept (t' := s1.toks) y4
      refine ⟨s1.heap.objs.size + 1, [s1.heap.objs.size + 1, s1.heap.objs.size], _, _, H1, rfl, J2, turn_enumS z t (s1.heap.objs.size + 1) s1.heap.objs.size (Nat.succ_ne_self _), ⟨⟨.none, y1⟩, y2⟩, fun b hb => ?_, q⟩
      have two : b = s1.heap.objs.size + 1 ∨ b = s1.heap.objs.size := by simpa using hb
      have le : s1.heap.objs.size ≤ b := by rcases two with rfl | rfl <;> omega
      exact J.fpOk le (J.hok.fresh le)
theorem itd_enumS {F : Hp} {s : Str} : ItD ca F (Ies s) (enumD (strItems s)) := fun i F1 H s1 s2 => by
  have hl : (strItems s).length = s.cps.size := by unfold strItems; simp
  refine ⟨fun d e => ?_, fun e => ?_⟩
  · obtain ⟨q, q1, rfl⟩ := enumD_get e
    have hi : i < s.cps.size := by rw [← hl]; exact (List.getElem?_eq_some_iff.mp q1).1
    refine ⟨hi, fun x H' y => ?_⟩
    obtain ⟨T, c, y1, y2, y3, y4⟩ := y
    have e2 : (strItems s)[i]? = some (.str ⟨#[c]⟩) := by
      unfold strItems
      rw [List.getElem?_map, Array.getElem?_toList, y4] <;> rfl
    rw [q1] at e2
    cases e2
    rw [y1, y3]
    exact rep_tup2 s2 y2 (by unfold Rep; rfl) (by unfold Rep; rfl)
  · rw [enumD_len] at e
    show i = s.cps.size
    omega
theorem snd_enum (G : Good X ca Φ gs W) {e : T} {a : Expr} {p pos tpos : Pos} {elts : List Expr} {kk : Nat} (h : PE X a (tE ca Φ W e)) (hp : plain a = true) (hg : gl (cOf X gs) "enumerate" = true) :
    PI X (.Tuple elts kk tpos) (.Call (.Name "enumerate" p) [a] [] pos) (tI ca Φ W (.senum e)) := by
  have pa : PA X [a] (tCons (tE ca Φ W e) tNil) := pa_cons h pa_nil (star_plain hp)
  refine piImp (pi_enumU (gl_ok hg).1 (G.un _ (by decide +kernel)) pa (star_plain hp)) fun σ H R q => ?_
  obtain ⟨F, O, env, k, ae, bl, p⟩ := q
  have e3 : one1 (ev Φ (.senum e) env) = (one1 (ev Φ e env)).bind fun a => one1 (match enumOf a.1.d with
    | some xs => srcR (enumD xs) a.2
    | none => .no) := by
    show one1 ((one1 (ev Φ e env)).bind _) = _
    rw [one1_bind] <;> rfl
  rw [e3] at p
  refine ⟨F, O, env, k, ae, bl, p.bind.imp fun a F1 O1 H1 st1 p1 v ae1 rv bl1 => ?_⟩
  show _ ∨ _
  have rz : Rep ca (mF (aTz k) O1 F1 H1) a.1.d v := rv.frz (φ := aTz k) ae1.bs fun c => if_neg (Nat.lt_irrefl k)
  have sb := (ae1.bs.map (aTz k)).sub
  cases ei : enumOf a.1.d with
  | none => rw [ei] at p1; exact p1.elim
  | some xs =>
    rw [ei] at p1
    unfold enumOf at ei
    split at ei
    · rename_i t ys ed
      cases ei
      rw [ed] at rz
      unfold Rep at rz
      obtain ⟨a', vs, rfl, h1, _, h2⟩ := rz
      exact .inl ⟨a', rfl, ⟨vs, SqL.of (sb _ _ h1)⟩, src_go p1 ae1 (itd_enum h1 h2)⟩
    · rename_i z ed
      cases ei
      rw [ed] at rz
      unfold Rep at rz
      subst rz
      exact .inr ⟨z, rfl, src_go p1 ae1 itd_enumS⟩
    · cases ei
theorem zipE {es : T} {env : En} : one1 (ev Φ (.szip es) env) = (ev Φ es env).bind fun a => one1 (match a.1.map FH.R.d with
    | [a', b] => (match lstOf a', lstOf b with
      | some xs, some ys => srcR (zipD xs ys) a.2
      | _, _ => .no)
    | _ => .no) := by
  show one1 ((ev Φ es env).bind _) = _
  rw [one1_bind] <;> rfl
theorem snd_zip (G : Good X ca Φ gs W) {es : T} {a b : Expr} {p pos tpos : Pos} {elts : List Expr} {kk : Nat} (h : ArgOk X ca Φ W es [a, b]) (hp : plain a = true) (hp2 : plain b = true) (hg : gl (cOf X gs) "zip" = true) :
    PI X (.Tuple elts kk tpos) (.Call (.Name "zip" p) [a, b] [] pos) (tI ca Φ W (.szip es)) := by
  obtain ⟨ts, pe, i⟩ := h
  have pa := pe.pa (by unfold plains plains plains; rw [hp, hp2] <;> rfl)
  have s2 : starEach [b] X.env = [(false, eval b X.env)] := star_plain hp2
  refine piImp (pi_zip (gl_ok hg).1 (G.un _ (by decide +kernel)) pa (star_plain hp) (by rw [s2] <;> rfl)) fun σ H R q => ?_
  obtain ⟨F, O, env, k, ae, bl, p⟩ := q
  rw [zipE] at p
  refine i _ _ _ ⟨F, O, env, k, ae, bl, p.bind.imp fun a F1 O1 H1 st1 p1 vs ae1 rvs bl1 z => ?_⟩
  have rz := rvs.tz ae1.bs
  have sb := (ae1.bs.map (aTz k)).sub
  have hl : (a.1.map FH.R.d).length = 2 := by rw [List.length_map, ← rvs.length]; exact z.2
  generalize a.1.map FH.R.d = ds at p1 rz hl
  match ds, hl with
  | [d, d'], _ =>
    unfold Reps at rz
    obtain ⟨v, r, rfl, r1, r2⟩ := rz
    unfold Reps at r2
    obtain ⟨v', r', rfl, r3, r4⟩ := r2
    unfold Reps at r4
    subst r4
    cases d with
    | lst t xs =>
      cases d' with
      | lst t' ys =>
        unfold Rep at r1 r3
        obtain ⟨a1, us, rfl, h1, _, h2⟩ := r1
        obtain ⟨a2, us2, rfl, h3, _, h4⟩ := r3
        exact ⟨a1, a2, us, us2, rfl, SqL.of (sb _ _ h1), SqL.of (sb _ _ h3), src_go p1 ae1 (itd_zip h1 h3 h2 h4)⟩
      | _ => exact p1.elim
    | _ => exact p1.elim
end
end FH
set_option Elab.async false
set_option linter.all false
set_option maxRecDepth 100000
set_option maxHeartbeats 2000000
namespace FH
open PySem PySem.Spec PyProof.Rows L2
section
variable {ca : Cs} {W : WX} {σ : L2.St} {k : Nat} {F F' : Hp} {O O' : Own} {H H' : Hp} {α : Type} {m : M α}
theorem PostG.at {C : α → Hp → Own → Hp → Prop} (h : PostG ca W σ k F O H m C) (st : Stp k F O H F' O' H') : PostG ca W σ k F' O' H' m C :=
  (PostG.bind (m := .ok ()) (f := fun _ => m) h) _ _ _ st
end
section
variable {X : Cx} {ca : Cs} {Φ : FT} {gs : GX} {W : WX} {x : Expr}
/-! ### methods of texts -/
def Mt.id : Mt → String
  | .join => "str.join" | .count => "str.count" | .find => "str.find" | .startswith => "str.startswith" | .split => "str.split" | .get => "dict.get" | .index => "list.index"
theorem len_join {ds : List D} {r : R} (e : semJoin ds = .ok r) : ds.length = 2 := by
  unfold semJoin at e
  split at e <;> first
    | rfl
    | (cases e; done)
theorem len_count {ds : List D} {r : R} (e : semCount ds = .ok r) : ds.length = 2 := by
  unfold semCount at e
  split at e <;> first
    | rfl
    | (cases e; done)
theorem len_find {ds : List D} {r : R} (e : semFind ds = .ok r) : ds.length = 2 := by
  unfold semFind at e
  split at e <;> first
    | rfl
    | (cases e; done)
theorem rP_arg {p : List D → M R} {x : V} {xs : List V} {H : Hp} {Q : VK} (q : rP ca p (x :: xs) H Q) (hn : ∀ ds r, p ds = .ok r → ds.length = 2) : ∃ y, xs = [y] := by
  have h := rP_len q hn
  match xs, h with
  | [y], _ => exact ⟨y, rfl⟩
theorem mt_j : MtR X "str.join" (fun x xs H Q => rP ca (semMt .join) (x :: xs) H Q) := by
  intro pins s σ H x xs v us Q I rx rs q
  obtain ⟨y, rfl⟩ := rP_arg q fun ds r e => len_join e
  obtain ⟨F, d1, d2, r, sb, e, r1, r2, fl, kk⟩ := rP2 q
  replace e : semJoin [d1, d2] = .ok r := e
  unfold semJoin at e
  split at e
  · rename_i hd
    cases hd
    split at e
    · rename_i ss hs
      split at e
      · rename_i hl
        cases e
        obtain ⟨a, vs, rfl, h1, h2⟩ := a_lst r2
        have ev := strs_v h2 hs
        subst ev
        exact mt_join pins s σ H x _ v us Q I rx rs ⟨_, a, ss, a_str r1, rfl, .inl (SqL.of h1), Nat.le_trans hl (by decide), kk _ _ _ (fin_str sb)⟩
      · cases e
    · cases e
  · cases e
theorem mt_c : MtR X "str.count" (fun x xs H Q => rP ca (semMt .count) (x :: xs) H Q) := by
  intro pins s σ H x xs v us Q I rx rs q
  obtain ⟨y, rfl⟩ := rP_arg q fun ds r e => len_count e
  obtain ⟨F, d1, d2, r, sb, e, r1, r2, fl, kk⟩ := rP2 q
  replace e : semCount [d1, d2] = .ok r := e
  unfold semCount at e
  split at e
  · rename_i hd
    cases hd
    cases e
    exact mt_count pins s σ H x _ v us Q I rx rs ⟨_, _, a_str r1, by rw [a_str r2], kk _ _ _ (fin_int sb)⟩
  · cases e
theorem mt_f : MtR X "str.find" (fun x xs H Q => rP ca (semMt .find) (x :: xs) H Q) := by
  intro pins s σ H x xs v us Q I rx rs q
  obtain ⟨y, rfl⟩ := rP_arg q fun ds r e => len_find e
  obtain ⟨F, d1, d2, r, sb, e, r1, r2, fl, kk⟩ := rP2 q
  replace e : semFind [d1, d2] = .ok r := e
  unfold semFind at e
  split at e
  · rename_i hd
    cases hd
    cases e
    exact mt_find pins s σ H x _ v us Q I rx rs ⟨_, _, a_str r1, by rw [a_str r2], kk _ _ _ (fin_int sb)⟩
  · cases e
theorem len_starts {ds : List D} {r : R} (e : semStarts ds = .ok r) : ds.length = 2 := by
  unfold semStarts at e
  split at e <;> first
    | rfl
    | (cases e; done)
theorem len_split {ds : List D} {r : R} (e : semSplit ds = .ok r) : ds.length = 2 := by
  unfold semSplit at e
  split at e <;> first
    | rfl
    | (cases e; done)
theorem mt_s : MtR X "str.startswith" (fun x xs H Q => rP ca (semMt .startswith) (x :: xs) H Q) := by
  intro pins s σ H x xs v us Q I rx rs q
  obtain ⟨y, rfl⟩ := rP_arg q fun ds r e => len_starts e
  obtain ⟨F, d1, d2, r, sb, e, r1, r2, fl, kk⟩ := rP2 q
  replace e : semStarts [d1, d2] = .ok r := e
  unfold semStarts at e
  split at e
  · rename_i hd
    cases hd
    cases e
    exact mt_startswith pins s σ H x _ v us Q I rx rs ⟨_, _, a_str r1, by rw [a_str r2], kk _ _ _ (fin_bl sb)⟩
  · cases e
theorem mt_sp : MtR X "str.split" (fun x xs H Q => rP ca (semMt .split) (x :: xs) H Q) := by
  intro pins s σ H x xs v us Q I rx rs q
  obtain ⟨y, rfl⟩ := rP_arg q fun ds r e => len_split e
  obtain ⟨F, d1, d2, r, sb, e, r1, r2, fl, kk⟩ := rP2 q
  replace e : semSplit [d1, d2] = .ok r := e
  unfold semSplit at e
  split at e
  · rename_i hd
    cases hd
    split at e
    · rename_i hl
      cases e
      refine mt_split pins s σ H x _ v us Q I rx rs ⟨_, _, a_str r1, by rw [a_str r2], by simpa using hl.1, ?_, fun p hp => kk _ _ _ (fin_lst sb hp strs_reps)⟩
      have := hl.2
      unfold LIM at this
      rw [sizeLine_eq]
      omega
    · cases e
  · cases e
theorem len_get {ds : List D} {r : R} (e : semGet ds = .ok r) : ds.length = 3 := by
  unfold semGet at e
  split at e <;> first
    | rfl
    | (cases e; done)
theorem len_index {ds : List D} {r : R} (e : semIndex ds = .ok r) : ds.length = 2 := by
  unfold semIndex at e
  split at e <;> first
    | rfl
    | (cases e; done)
theorem index_ok {d1 d2 : D} {r : R} (e : semIndex [d1, d2] = .ok r) : ∃ t xs, ∃ j : Nat, d1 = .lst t xs ∧ flatD d2 = true ∧ xs.all flatD = true ∧ xs.findIdx? (fun x => eqF x d2) = some j ∧ r = .sh (.int j) := by
  unfold semIndex at e
  split at e
  · rename_i t xs y hd
    cases hd
    split at e
    · rename_i hf
      simp only [Bool.and_eq_true] at hf
      split at e
      · rename_i j hj
        cases e
        exact ⟨_, _, j, rfl, hf.1, hf.2, hj, rfl⟩
      · cases e
    · cases e
  · cases e
theorem get_ok {d1 d2 d3 : D} {r : R} (e : semGet [d1, d2, d3] = .ok r) : ∃ t kvs key, d1 = .dic t kvs ∧ keyD d2 = some key ∧ flatD d3 = true ∧ r = .sh ((getK kvs key).getD d3) := by
  unfold semGet at e
  split at e
  · rename_i hd
    cases hd
    split at e
    · rename_i key ek
      split at e
      · rename_i hf
        cases e
        exact ⟨_, _, key, rfl, ek, hf, rfl⟩
      · cases e
    · cases e
  · cases e
theorem mt_ix : MtR X "list.index" (fun x xs H Q => rP ca (semMt .index) (x :: xs) H Q) := by
  intro pins s σ H x xs v us Q I rx rs q
  obtain ⟨y, rfl⟩ := rP_arg q fun ds r e => len_index e
  obtain ⟨F, d1, d2, r, sb, e, r1, r2, fl, kk⟩ := rP2 q
  obtain ⟨t, ds, j, rfl, f1, f2, hj, rfl⟩ := index_ok e
  obtain ⟨a, vs, rfl, h1, h2⟩ := a_lst r1
  have fv := allFlat h2 f2
  have r2' : Rep ca F d2 y := rep_flat f1 r2
  obtain ⟨hj1, hj2, hj3⟩ := List.findIdx?_eq_some_iff_getElem.mp hj
  have hlen := h2.length
  have at1 : ∀ (m : Nat) (hm : m < ds.length) (z : V), vs[m]? = some z → eqV z y = eqF ds[m] d2 := fun m hm z hz => by
    obtain ⟨d', hd', hr'⟩ := h2.get' hz
    have e1 : ds[m] = d' := by
      rw [List.getElem?_eq_getElem hm] at hd'
      exact Option.some.inj hd'
    rw [e1]
    exact eqF_v (List.all_eq_true.mp f2 _ (List.mem_of_getElem? hd')) f1 hr' r2'
  have hjv : j < vs.length := by omega
  refine mt_index pins s σ H _ _ v us Q I rx rs ⟨a, vs, y, j, vs[j], rfl, rfl, SqL.of h1, flat_v f1 r2', fv, List.getElem?_eq_getElem hjv, ?_, ?_, kk _ _ _ (fin_int sb)⟩
  · rw [at1 j hj1 _ (List.getElem?_eq_getElem hjv)]
    exact hj2
  · intro m z' hm hz'
    rw [at1 m (by omega) _ hz']
    simpa using hj3 m hm
theorem mt_g (hu : X.A.units + 1 < cLine) : MtR X "dict.get" (fun x xs H Q => rP ca (semMt .get) (x :: xs) H Q) := by
  intro pins s σ H x xs v us Q I rx rs q
  have h := rP_len q (n := 3) fun ds r e => len_get e
  match xs, h with
  | [y, w], _ =>
    obtain ⟨F, d1, d2, d3, r, sb, e, r1, r2, r3, kk⟩ := rP3 (F := H) q
    obtain ⟨t, kvs, key, rfl, ek, hf, rfl⟩ := get_ok e
    obtain ⟨a, vs, rfl, h1, h2⟩ := a_dic r1
    have ey := keyV ek r2
    subst ey
    cases rx
    obtain ⟨u1, u2, rfl, ru1, ru2⟩ := rs.two
    have r3' : Rep ca F d3 w := rep_flat hf r3
    refine d_get2 hu I (DGet.k h1) ru1 ru2 fun w' s' J rw' => ?_
    rcases getK_v (k := key) h2 with ⟨z1, z2⟩ | ⟨d', v', z1, z2, z3⟩
    · refine ⟨w, H, J, by rw [z2] at rw'; exact rw', kk w F H (by rw [z1]; exact fin_sh sb r3')⟩
    · refine ⟨v', H, J, by rw [z2] at rw'; exact rw', kk v' F H (by rw [z1]; exact fin_sh sb z3)⟩
/-- the receiver, asked for its type, then the arguments -/
theorem meth_imp {e es : T} {te : TE} {tr : TA} {Z : L2.St → V → Prop} {Y : L2.St → List V → Prop} {C : V → Hp → Prop} {okD : D → Bool} {f : R → List R → En → M (R × En)} {Rd : V → List V → Hp → VK → Prop}
    (h1 : ∀ σ H Q, (tE ca Φ W e σ H fun v H' => Z σ v → Q v H') → te σ H Q) (h2 : ∀ σ H Q, (tA ca Φ W es σ H fun vs H' => Y σ vs → Q vs H') → tr σ H Q)
    (hC : ∀ F H d v, Sub F H → RepA ca F H d v → okD d = true → C v H)
    (hk : ∀ σ F O H env k r rs v vs Q, AE ca F O env σ H → RepRs ca F H O Lab.t k (r :: rs) (v :: vs) → Below O (k + (rs.length + 1)) → Z σ v → Y σ vs → PostG ca W σ k F O H (f r rs env) (CE ca σ k Q) → Rd v vs H Q) :
    ∀ σ H Q, (∃ F O env k, AE ca F O env σ H ∧ Below O k ∧ PostG ca W σ k F O H ((one1 (ev Φ e env)).bind fun a => if okD a.1.d then (ev Φ es a.2).bind fun b => f a.1 b.1 b.2 else .no) (CE ca σ k Q)) → te σ H fun v H1 => C v H1 ∧ tr σ H1 fun vs H2 => Rd v vs H2 Q := by
  intro σ H Q q
  obtain ⟨F, O, env, k, ae, bl, p⟩ := q
  refine h1 _ _ _ ⟨F, O, env, k, ae, bl, p.bind.imp fun a F1 O1 H1 st1 p1 v ae1 rv bl1 z => ?_⟩
  cases ok : okD a.1.d with
  | false => rw [ok] at p1; exact p1.elim
  | true =>
    rw [ok] at p1
    have p2 : PostG ca W σ k F1 O1 H1 ((ev Φ es a.2).bind fun b => f a.1 b.1 b.2) (CE ca σ k Q) := p1
    refine ⟨hC _ _ _ _ ae1.sub (rv.a ae1.sub) ok, h2 _ _ _ ⟨F1, O1, a.2, k + 1, ae1, bl1, ?_⟩⟩
    refine (p2.bind.lift (Nat.le_succ k)).imp fun b F2 O2 H2 st2 p3 vs ae2 rvs bl2 y => ?_
    refine hk σ F2 O2 H2 b.2 k a.1 b.1 v vs Q ae2 ⟨v, vs, rfl, rv.stp st2 (Nat.lt_succ_self k), rvs⟩ ?_ z y p3
    intro a' j c w
    have := bl2 a' j c w
    omega
theorem few_ok {cpos : Pos} : ∀ {es : List Expr} {env : Env}, plains es = true → es.length < 20 → ((backTo cpos (starEach es env)).all (fun x => !x.1) && (backToKw cpos (keywordEach [] env)).all (fun x => x.1.isSome)
      && decide (es.length + ([] : List Keyword).length + (if ([] : List Keyword).isEmpty then 0 else 1) < 30)) = true := by
  intro es env hp hl
  have key : ∀ {es : List Expr}, plains es = true → (backTo cpos (starEach es env)).all (fun x => !x.1) = true := by
    intro es
    induction es with
    | nil => intro _; rfl
    | cons e es ih =>
      intro h
      unfold plains at h
      simp only [Bool.and_eq_true] at h
      rw [star_plain h.1]
      show (!false && (backTo cpos (starEach es env)).all (fun x => !x.1)) = true
      rw [ih h.2] <;> rfl
  rw [key hp, Bool.true_and]
  have e1 : (backToKw cpos (keywordEach [] env)).all (fun x => x.1.isSome) = true := rfl
  rw [e1, Bool.true_and]
  exact decide_eq_true (by simp; omega)
theorem mth_e {m : Mt} {e es : T} {env : En} : one1 (ev Φ (.mth m e es) env) = (one1 (ev Φ e env)).bind fun a => if m.okD a.1.d then (ev Φ es a.2).bind fun b => (semMt m (a.1.d :: b.1.map R.d)).bind fun q => if okRes (a.1 :: b.1) q then .ok (q, backs (some a.1 :: b.1.map some) (bkOf (.cons e es)) b.2) else .no else .no := by
  have e0 : ev Φ (.mth m e es) env = (one1 (ev Φ e env)).bind fun a => if m.okD a.1.d then (ev Φ es a.2).bind fun b => (semMt m (a.1.d :: b.1.map R.d)).bind fun q => if okRes (a.1 :: b.1) q then .ok ([q], backs (some a.1 :: b.1.map some) (bkOf (.cons e es)) b.2) else .no else .no := rfl
  rw [e0, one1_bind]
  congr 1
  funext a
  cases m.okD a.1.d with
  | false => rfl
  | true =>
    simp only [if_true]
    rw [one1_bind]
    congr 1
    funext b
    rw [one1_bind]
    congr 1
    funext q
    cases okRes (a.1 :: b.1) q <;> rfl
theorem okD_str {m : Mt} {F H : Hp} {d : D} {v : V} (r : RepA ca F H d v) (h : m.okD d = true) : tyV X.K m.ty v H := by
  cases m <;> cases d <;> first
    | (cases h; done)
    | (rw [a_str r]; rfl)
    | (obtain ⟨a, vs, rfl, h1, _⟩ := a_lst r; exact .inl ⟨rfl, _, SqL.of h1⟩)
    | (obtain ⟨a, vs, rfl, h1, _⟩ := a_dic r; exact .inr (.inr (.inl ⟨rfl, .inl ⟨_, h1⟩⟩)))
theorem snd_mth (hu : X.A.units + 1 < cLine) {m : Mt} {e es : T} {o : Expr} {args : List Expr} {ap cp : Pos} (h1 : PE X o (tE ca Φ W e)) (nv : ∀ i, e ≠ .mv i) (h2 : ArgOk X ca Φ W es args) (hp : plains args = true) (ho : plain o = true) (hl : args.length < 20) (ha : args ≠ []) (line : (ap.endLine == cp.line) = true) :
    PE X (.Call (.Attribute o m.name ap) args [] cp) (tE ca Φ W (.mth m e es)) := by
  obtain ⟨ts, pe, i⟩ := h2
  obtain ⟨a1, ar, rfl⟩ := List.exists_cons_of_ne_nil ha
  have hp1 := plains_1 hp
  have go : PE X (.Call (.Attribute o m.name ap) (a1 :: ar) [] cp) (tBM X.K m.ty (fun x xs H Q => rP ca (semMt m) (x :: xs) H Q) (tE ca Φ W e) (seqT ts)) := by
    cases m with
    | join => exact pe_bm PySem.F.plainAttrs_str PySem.F.slot_str_join PySem.F.type_str_join mt_j h1 (pe.pa hp) (base_ok ho) (few_ok hp hl) line (star_plain hp1.1) (star_plains hp1.2)
    | count => exact pe_bm PySem.F.plainAttrs_str PySem.F.slot_str_count PySem.F.type_str_count mt_c h1 (pe.pa hp) (base_ok ho) (few_ok hp hl) line (star_plain hp1.1) (star_plains hp1.2)
    | find => exact pe_bm PySem.F.plainAttrs_str PySem.F.slot_str_find PySem.F.type_str_find mt_f h1 (pe.pa hp) (base_ok ho) (few_ok hp hl) line (star_plain hp1.1) (star_plains hp1.2)
    | startswith => exact pe_bm PySem.F.plainAttrs_str PySem.F.slot_str_startswith PySem.F.type_str_startswith mt_s h1 (pe.pa hp) (base_ok ho) (few_ok hp hl) line (star_plain hp1.1) (star_plains hp1.2)
    | split => exact pe_bm PySem.F.plainAttrs_str PySem.F.slot_str_split PySem.F.type_str_split mt_sp h1 (pe.pa hp) (base_ok ho) (few_ok hp hl) line (star_plain hp1.1) (star_plains hp1.2)
    | get => exact pe_bm PySem.F.plainAttrs_dict PySem.F.slot_dict_get PySem.F.type_dict_get (mt_g hu) h1 (pe.pa hp) (base_ok ho) (few_ok hp hl) line (star_plain hp1.1) (star_plains hp1.2)
    | index => exact pe_bm PySem.F.plainAttrs_list PySem.F.slot_list_index PySem.F.type_list_index mt_ix h1 (pe.pa hp) (base_ok ho) (few_ok hp hl) line (star_plain hp1.1) (star_plains hp1.2)
  refine peImp go fun σ H Q q => ?_
  have q' : ∃ F O env k, AE ca F O env σ H ∧ Below O k ∧ PostG ca W σ k F O H (one1 (ev Φ (.mth m e es) env)) (CE ca σ k Q) := q
  simp only [mth_e] at q'
  refine meth_imp (te := tE ca Φ W e) (e := e) (f := fun r rs env => (semMt m (r.d :: rs.map R.d)).bind fun q => if okRes (r :: rs) q then .ok (q, backs (some r :: rs.map some) (bkOf (.cons e es)) env) else .no) (Z := fun _ _ => True) (Y := fun σ vs => Lnk (bkOf es) σ vs ∧ vs.length = (a1 :: ar).length) (C := fun v H => tyV X.K m.ty v H) (okD := m.okD) (Rd := fun v vs H Q => rP ca (semMt m) (v :: vs) H Q) (fun σ H Q q => ?_) i (fun F H d v sb r h => okD_str r h) ?_ σ H Q q'
  · obtain ⟨F, O, env, k, ae, bl, p⟩ := q
    exact ⟨F, O, env, k, ae, bl, p.imp fun a F1 O1 H1 _ h v h1 h2 h3 => h v h1 h2 h3 trivial⟩
  · intro σ F O H env k r rs v vs Q ae rvs bl _ y p
    have eb : bkOf (.cons e es) = none :: bkOf es := by
      cases e <;> first
        | rfl
        | exact absurd rfl (nv _)
    rw [eb] at p
    have ln : Lnk (none :: bkOf es) σ (v :: vs) := fun j i q => by
      cases j with
      | zero => cases q
      | succ j => exact y.1 j i q
    exact prim_go (sem := semMt m) (f := fun r e => .ok (r, e)) (fun _ _ _ => semMt_ex) (rs := r :: rs) p ae rvs ln fun r' v' F' O' H' p2 a2 r2 b2 => p2.here v' a2 r2 b2
end
end FH
set_option Elab.async false
set_option linter.all false
set_option maxRecDepth 100000
set_option maxHeartbeats 2000000
namespace FH
open PySem PySem.Spec PyProof.Rows L2
theorem meth_eval {o : Expr} {m : Str} {ap cp : Pos} {args : List Expr} {env : Env} (ho : plain o = true) (hp : plains args = true) (hl : args.length < 20) (line : (ap.endLine == cp.line) = true) :
    eval (.Call (.Attribute o m ap) args [] cp) env = (do
      let ov ← eval o env
      standAt ap.atName
      let (f, first) ← holding [ov] (getMethod ov m (do return (← importBound o env).getD true))
      callWith cp f first (backTo cp (starEach args env)) (backToKw cp (keywordEach [] env))) := by
  rw [arm_eval_Call, base_ok ho]
  have few : methodCallForm (args.length + ([] : List Keyword).length) (backTo cp (starEach args env)) (backToKw cp (keywordEach [] env)) = true := by
    have := few_ok (cpos := cp) (env := env) hp hl
    exact this
  unfold methodCall calleeOf methodCallPos
  simp only [few, line, if_true, Bool.not_true, Bool.false_or, pure_bind]
section
variable {X : Cx} {W : WX} {k : Nat} {C f : Addr} {fd : FuncData} {ps : List Str} {sp : Sp} {m : Str} {o : Expr} {es : List Expr} {ap cp : Pos} {ta : TE} {t : TA}
def tMethG (C : Addr) (m : Str) (sp : Sp) (W : WX) (ta : TE) (t : TA) : TE := fun σ H Q => ta σ H fun x H1 => ∃ a dx fs, x = .ref a ∧ H1 a = some (.ins C dx fs) ∧ fs.lookup m = none ∧ t σ H1 fun vs H2 => sp (x :: vs) H2 Q (WE W σ)
theorem pe_methG (he : PE X o ta) (c : L2.Cls X.K C) (hm : Meth X.K C m f) (Fn : FnG X.prog X.w X.K X.mg X.base k f fd ps sp) (hr : RoomG k X.A) (hb : Binds X.K fd ps []) (tk : Takes X W) (ha : PA X es t) (hp : plains es = true) (ho : plain o = true)
    (hl : es.length < 20) (line : (ap.endLine == cp.line) = true) (ht : es = [] → t = tNil) : PE X (.Call (.Attribute o m ap) es [] cp) (tMethG C m sp W ta t) := by
  constructor
  intro pins s σ H Q I h
  refine PySem.W.methodCall_KW (thn (he.run pins s σ H _ I h) ?_) (meth_eval ho hp hl line)
  rintro u s1 ⟨x, H1, I1, rx, a, dx, fs, ex, ea, l, q⟩
  subst ex
  have eu : u = Value.ref a := rx
  subst eu
  refine getmeth_ok I1 ea c hm l ?_
  cases es with
  | nil =>
    have e := ht rfl
    subst e
    exact PySem.W.callWith_K0 (first := [.ref a]) I1.kIn hm.kp (run_G (us := [.ref a]) (vs := [.ref a]) Fn hr hb tk I1 (.cons rfl .nil) q)
  | cons e es =>
    unfold plains at hp
    simp only [Bool.and_eq_true] at hp
    refine PySem.W.callWith_K (first := [.ref a]) (h₀ := X.base) I1.ok.mod.kin hm.kp ?_ (star_plain hp.1) (star_plains hp.2)
    refine thn (ha.run cp pins s1 σ H1 _ I1 q) ?_
    rintro us s2 ⟨vs, H2, I2, r, q2⟩
    exact ⟨I2.kIn, run_G (us := .ref a :: us) (vs := .ref a :: vs) Fn hr hb tk I2 (.cons rfl r) q2⟩
end
/-- behind the arguments: what the callee is asked -/
theorem call_go {ca : Cs} {W : WX} {σ : L2.St} {k : Nat} {F1 H1 : Hp} {O1 : Own} {env1 : En} {rs : List R} {vs : List V} {bk : List (Option Nat)} {g : Sem1} {Q : VK} (ae1 : AE ca F1 O1 env1 σ H1) (rvs : RepRs ca F1 H1 O1 Lab.t k rs vs) (ln : Lnk bk σ vs)
    (p1 : PostG ca W σ k F1 O1 H1 ((g rs).bind fun b => .ok (b.1, backs b.2 bk env1)) (CE ca σ k Q)) : spD ca g vs H1 Q (WE W σ) := by
  have hF : mF (aCall k) O1 F1 H1 = F1 := mF_same (aCall_ne k)
  have bc : Bs F1 (mO (aCall k) O1) H1 := by
    have := ae1.bs.map (aCall k)
    rw [hF] at this
    exact this
  have rc : RepRs ca F1 H1 (mO (aCall k) O1) Lab.s 0 rs vs := by
    have := RepRs.map (φ := aCall k) (L := Lab.t) (L' := Lab.s) (m := 0) ae1.bs (fun j c hj => by
      show (if j < k then some none else some (some (Lab.s (j - k) c))) = _
      rw [if_neg (by omega)] <;> rfl) rvs
    rw [hF] at this
    exact this
  refine ⟨F1, mO (aCall k) O1, rs, bc, fun a' l e => ?_, rc, ?_⟩
  · obtain ⟨l0, e1, e2⟩ := mO_inv e
    cases l0 with
    | s i' c => cases e2
    | t j c =>
      have e2' : (if j < k then some none else some (some (Lab.s (j - k) c))) = some (some l) := e2
      split at e2'
      · cases e2'
      · cases e2'; exact ⟨_, _, rfl⟩
  · cases eg : g rs with
    | ok b =>
      obtain ⟨r, outs⟩ := b
      rw [eg] at p1
      intro v F' O' H' st b' rv ho
      have B : Back k bk F1 O1 H1 F' O' H' := back_of ae1.bs st b'
      exact p1 F' _ H' B.st v (back_ae ae1 B ln ho) (rv.rel (.refl _) fun c a' o e e' => ⟨e', B.res a' c e⟩) B.bl
    | ex c d =>
      rw [eg] at p1
      intro dx v n' F' O' H' st b' hx hr'
      have B : Back k bk F1 O1 H1 F' O' H' := back_of ae1.bs st b'
      exact p1 dx v n' F' _ H' B.st B.bs hx hr'
    | no =>
      rw [eg] at p1
      exact p1.elim
section
variable {X : Cx} {ca : Cs} {Φ : FT} {gs : GX} {W : WX}
theorem repF_no {F : Hp} {f : Str} : ∀ {fs : List (Str × D)} {vs : List (Str × V)}, RepF ca F fs vs → fs.lookup f = none → vs.lookup f = none
  | [], vs, h, e => by
    unfold RepF at h
    subst h
    rfl
  | (k, d0) :: fs, vs, h, e => by
    unfold RepF at h
    obtain ⟨v, r, h1, h2, h3⟩ := h
    subst h1
    rw [List.lookup_cons] at e ⊢
    cases hk : f == k with
    | true => rw [hk] at e; cases e
    | false =>
      rw [hk] at e
      exact repF_no h3 e
theorem snd_om (G : Good X ca Φ gs W) {x C m : Str} {e es : T} {o : Expr} {args : List Expr} {ap cp : Pos} (hx : cm x = some (C, m)) (h1 : PE X o (tE ca Φ W e)) (nv : ∀ i, e ≠ .mv i) (h2 : ArgOk X ca Φ W es args) (hp : plains args = true) (ho : plain o = true) (hl : args.length < 20)
    (line : (ap.endLine == cp.line) = true) : PE X (.Call (.Attribute o m ap) args [] cp) (tE ca Φ W (.om x e es)) := by
  obtain ⟨ts, pe, i⟩ := h2
  cases ef : Φ x with
  | none =>
    refine ⟨fun pins s σ H Q I q => ?_⟩
    obtain ⟨F, O, env, k, ae, bl, p⟩ := q
    have e : one1 (ev Φ (.om x e es) env) = .no := by
      unfold ev
      rw [hx, ef] <;> rfl
    rw [e] at p
    exact p.elim
  | some g =>
    obtain ⟨n, fa, fd, ps, Fn, hr, hm, hc, hb⟩ := G.mt x g C m hx ef
    refine peImp (pe_methG h1 hc hm Fn hr hb G.tk (pe.pa hp) hp ho hl line ?_) fun σ H Q q => ?_
    · intro e
      subst e
      cases pe <;> rfl
    · obtain ⟨F, O, env, k, ae, bl, p⟩ := q
      have e3 : one1 (ev Φ (.om x e es) env) = (one1 (ev Φ e env)).bind fun a => if isIns C m a.1.d then (ev Φ es a.2).bind fun b => (g (a.1 :: b.1)).bind fun q => .ok (q.1, backs q.2 (bkOf (.cons e es)) b.2) else .no := by
        have e0 : ev Φ (.om x e es) env = (one1 (ev Φ e env)).bind fun a => if isIns C m a.1.d then (ev Φ es a.2).bind fun b => (g (a.1 :: b.1)).bind fun q => .ok ([q.1], backs q.2 (bkOf (.cons e es)) b.2) else .no := by
          rw [ev, hx, ef] <;> rfl
        rw [e0, one1_bind]
        congr 1
        funext a
        cases isIns C m a.1.d with
        | false => rfl
        | true =>
          simp only [if_true]
          rw [one1_bind]
          congr 1
          funext b
          exact one1_bind _ _
      rw [e3] at p
      refine ⟨F, O, env, k, ae, bl, p.bind.imp fun a F1 O1 H1 st1 p1 v ae1 rv bl1 => ?_⟩
      cases hi : isIns C m a.1.d with
      | false =>
        have p1' : PostG ca W σ k F1 O1 H1 (if isIns C m a.1.d then (ev Φ es a.2).bind fun b => (g (a.1 :: b.1)).bind fun q => .ok (q.1, backs q.2 (bkOf (.cons e es)) b.2) else .no) (CE ca σ k Q) := p1
        rw [hi] at p1'
        exact p1'.elim
      | true =>
        have p1' : PostG ca W σ k F1 O1 H1 (if isIns C m a.1.d then (ev Φ es a.2).bind fun b => (g (a.1 :: b.1)).bind fun q => .ok (q.1, backs q.2 (bkOf (.cons e es)) b.2) else .no) (CE ca σ k Q) := p1
        rw [hi, if_pos rfl] at p1'
        have ra := rv.a ae1.bs.sub
        obtain ⟨fs, hd, hl0⟩ : ∃ fs, a.1.d = .obj C fs ∧ fs.lookup m = none := by
          unfold isIns at hi
          split at hi
          · rename_i A fs ed
            simp only [Bool.and_eq_true, decide_eq_true_eq, Option.isNone_iff_eq_none] at hi
            exact ⟨fs, by rw [ed, hi.1], hi.2⟩
          · cases hi
        rw [hd] at ra
        obtain ⟨a', dx, vs', k1, k2, k3⟩ := ra
        refine ⟨a', dx, vs', k1, k2, repF_no k3 hl0, i _ _ _ ⟨F1, O1, a.2, k + 1, ae1, bl1, ?_⟩⟩
        refine (p1'.bind.lift (Nat.le_succ k)).imp fun b F2 O2 H2 st2 p2 vs ae2 rvs bl2 z => ?_
        have eb : bkOf (.cons e es) = none :: bkOf es := by
          cases e <;> first
            | rfl
            | exact absurd rfl (nv _)
        rw [eb] at p2
        have ln : Lnk (none :: bkOf es) σ (v :: vs) := fun j i q => by
          cases j with
          | zero => cases q
          | succ j => exact z.1 j i q
        exact call_go (k := k) (rs := a.1 :: b.1) (vs := v :: vs) (g := g) ae2 (show RepRs ca F2 H2 O2 Lab.t k (a.1 :: b.1) (v :: vs) from ⟨v, vs, rfl, rv.stp st2 (Nat.lt_succ_self k), rvs⟩) ln p2
end
end FH
set_option Elab.async false
set_option linter.all false
set_option maxRecDepth 100000
set_option maxHeartbeats 2000000
namespace FH
open PySem PySem.Spec PyProof.Rows L2
section
variable {X : Cx} {W : WX} {k : Nat} {C f : Addr} {fd : FuncData} {ps : List Str} {sp : Sp} {y : Str} {es : List Expr} {p pos : Pos} {t : TA} {pins : List (Addr × Obj)} {σ : L2.St} {H : Hp} {s : Shared} {Q : VK} {us : List Value} {vs : List V}
/-- the wish for a new instance at x, its dict at dx -/
def NewIns (C : Addr) (sp : Sp) (W : WX) (σ : L2.St) (vs : List V) (H : Hp) (Q : VK) : Prop := ∀ x dx, H x = none → H dx = none → dx ≠ x → sp (.ref x :: vs) (upd (upd H dx (.own x)) x (.ins C dx [])) (fun v H2 => v = .non ∧ Q (.ref x) H2) (WE W σ)
theorem run_makeG (M : L2.Mk X.K C f) (Fn : FnG X.prog X.w X.K X.mg X.base k f fd ps sp) (hr : RoomG (k + 1) X.A) (hb : Binds X.K fd ps []) (tk : Takes X W) (I : Inv X pins σ H s) (r : Vals vs us) (h : NewIns C sp W σ vs H Q) :
    wpAny (model X.prog X.w) X.A (call (.ref C) us) (EP X pins σ Q) X.xe s := by
  have f1 : H (s.heap.objs.size + 1) = none := I.hok.fresh (Nat.le_succ _)
  have f0 : H s.heap.objs.size = none := I.hok.fresh (Nat.le_refl _)
  have q0 := h _ _ f1 f0 (Nat.ne_of_lt (Nat.lt_succ_self s.heap.objs.size))
  have J := Inv.made (C := C) I
  have rr : Vals (V.ref (s.heap.objs.size + 1) :: vs) (Value.ref (s.heap.objs.size + 1) :: us) := .cons rfl r
  have size : (Value.ref (s.heap.objs.size + 1) :: us).length = ps.length := rr.length.symm.trans (Fn.len _ _ _ _ q0)
  have bb := hb _ (Value.ref (s.heap.objs.size + 1) :: us) J.kIn (by rw [List.append_nil]; exact size)
  rw [List.append_nil] at bb
  have room : RoomG k (X.A.under (.builtin "type.__call__" ⟨.ref C :: us, []⟩)) := ⟨hr.room.make C us [], hr.gd⟩
  have go := Fn.run _ X.stack _ _ ⟨Value.ref (s.heap.objs.size + 1) :: us, []⟩ (Value.ref (s.heap.objs.size + 1) :: us) _ _ (WE W σ) room (J.env0.make C us []) bb rr q0
  refine wpAny_call (make_map (f := f) I.kIn M.makes M.init (beq_iff_eq.mp M.fn) (codeAny_mono go ?_))
  intro res s' done
  match res, done with
  | .error e, done => exact passAt tk σ pins _ _ e s' J done
  | .ok (.ret u), done =>
    obtain ⟨v, H', J3, rv, ev, q3⟩ := J.after done
    subst ev
    exact ⟨rv, ⟨V.ref (s.heap.objs.size + 1), H', J3, rfl, q3⟩⟩
  | .ok .next, done => exact done.elim
  | .ok .brk, done => exact done.elim
  | .ok .cont, done => exact done.elim
def tMakeG (C : Addr) (sp : Sp) (W : WX) (t : TA) : TE := fun σ H Q => t σ H fun vs H1 => NewIns C sp W σ vs H1 Q
theorem pe_makeG (M : L2.Mk X.K C f) (Fn : FnG X.prog X.w X.K X.mg X.base k f fd ps sp) (hr : RoomG (k + 1) X.A) (hb : Binds X.K fd ps []) (tk : Takes X W) (hg : Gl X y) (hm : X.mg y = some (.ref C)) (hdb : (y == ("__debug__" : Str)) = false) (ha : PA X es t) (hp : plains es = true)
    (ht : es = [] → t = tNil) : PE X (.Call (.Name y p) es [] pos) (tMakeG C sp W t) := by
  constructor
  intro pins s σ H Q I h
  refine wpAny_Call_Name_kw (ld_glob I hg hm ?_ hdb)
  cases es with
  | nil =>
    have e := ht rfl
    subst e
    exact PySem.W.callWith_K0 I.kIn M.kp (run_makeG (us := []) M Fn hr hb tk I .nil h)
  | cons e es =>
    unfold plains at hp
    simp only [Bool.and_eq_true] at hp
    refine PySem.W.callWith_K (h₀ := X.base) I.ok.mod.kin M.kp ?_ (star_plain hp.1) (star_plains hp.2)
    refine thn (ha.run pos pins s σ H _ I h) ?_
    rintro us s1 ⟨vs, H1, I1, r, q⟩
    exact ⟨I1.kIn, run_makeG M Fn hr hb tk I1 r q⟩
end
end FH
set_option Elab.async false
set_option linter.all false
set_option maxRecDepth 100000
set_option maxHeartbeats 2000000
namespace FH
open PySem PySem.Spec PyProof.Rows L2
/-- behind __init__: the instance is the answer -/
def aIni : Act := fun l => match l with
  | .s j c => if j = 0 then some (some (.t 0 c)) else some (some (.s j c))
  | .t _ _ => none
theorem aIni_low : Low 0 aIni := fun j c h => absurd h (Nat.not_lt_zero _)
theorem mk_go {ca : Cs} {W : WX} {σ : L2.St} {k : Nat} {F1 H1 : Hp} {O1 : Own} {env1 : En} {rs : List R} {vs : List V} {bk : List (Option Nat)} {g : Sem1} {Q : VK} {C : Str} (ae1 : AE ca F1 O1 env1 σ H1) (rvs : RepRs ca F1 H1 O1 Lab.t (k + 1) rs vs) (ln : Lnk bk σ vs)
    (p1 : PostG ca W σ k F1 O1 H1 ((g (.ow (.obj C []) :: rs)).bind fun b => match b.1, b.2 with
      | .sh .non, some r :: outs => .ok (r, backs outs bk env1)
      | _, _ => .no) (CE ca σ k Q)) : NewIns (ca.ad C) (spD ca g) W σ vs H1 Q := by
  intro x dx hx hdx hne
  have hx2 : (upd H1 dx (.own x)) x = none := by rw [upd_ne (Ne.symm hne)]; exact hx
  have aeF : AE ca (upd F1 dx (.own x)) O1 env1 σ (upd H1 dx (.own x)) := ae1.grow (ae1.bs.nF hdx) (ae1.bs.nF_sub hdx) (sub_upd hdx) fun _ _ z => z
  generalize hF2 : upd F1 dx (.own x) = F2 at aeF
  generalize hH2 : upd (upd H1 dx (.own x)) x (.ins (ca.ad C) dx []) = H2
  generalize hO2 : newO O1 x (.t k 0) = O2
  have ae2 : AE ca F2 O2 env1 σ H2 := by
    rw [← hH2, ← hO2]
    exact aeF.grow (aeF.bs.nO hx2) (.refl _) (sub_upd hx2) (newO_keep (aeF.bs.fr hx2).2)
  have keep : ∀ a o, H1 a = some o → H2 a = some o := fun a o e => by rw [← hH2]; exact sub_upd hx2 a o (sub_upd hdx a o e)
  have st2 : Stp k F1 O1 H1 F2 O2 H2 := by
    rw [← hF2, ← hH2, ← hO2]
    exact (ae1.bs.nF_stp hdx k).trans ((ae1.bs.nF hdx).nO_stp (l := .t k 0) hx2 k)
  have rv2 : RepRs ca F2 H2 O2 Lab.t k (.ow (.obj C []) :: rs) (.ref x :: vs) := by
    refine ⟨.ref x, vs, rfl, ⟨x, dx, [], rfl, (by rw [← hH2]; exact upd_same), (by rw [← hO2]; exact newO_same), (by unfold RepF; rfl)⟩, rvs.mono st2.ext fun j c a o _ e e' => ⟨keep a o e', ?_⟩⟩
    rw [← hO2]
    exact newO_keep (aeF.bs.fr hx2).2 a _ e
  have hF : mF (aCall k) O2 F2 H2 = F2 := mF_same (aCall_ne k)
  have bc : Bs F2 (mO (aCall k) O2) H2 := by
    have := ae2.bs.map (aCall k)
    rw [hF] at this
    exact this
  have rc : RepRs ca F2 H2 (mO (aCall k) O2) Lab.s 0 (.ow (.obj C []) :: rs) (.ref x :: vs) := by
    have := RepRs.map (φ := aCall k) (L := Lab.t) (L' := Lab.s) (m := 0) ae2.bs (fun j c hj => by
      show (if j < k then some none else some (some (Lab.s (j - k) c))) = _
      rw [if_neg (by omega)] <;> rfl) rv2
    rw [hF] at this
    exact this
  have ln2 : Lnk (none :: bk) σ (.ref x :: vs) := fun j i q => by
    cases j with
    | zero => cases q
    | succ j => exact ln j i q
  refine ⟨F2, mO (aCall k) O2, .ow (.obj C []) :: rs, bc, fun a' l e => ?_, rc, ?_⟩
  · obtain ⟨l0, e1, e2⟩ := mO_inv e
    cases l0 with
    | s i' c => cases e2
    | t j c =>
      have e2' : (if j < k then some none else some (some (Lab.s (j - k) c))) = some (some l) := e2
      split at e2'
      · cases e2'
      · cases e2'; exact ⟨_, _, rfl⟩
  · cases eg : g (.ow (.obj C []) :: rs) with
    | no => rw [eg] at p1; exact p1.elim
    | ex c d =>
      rw [eg] at p1
      intro dx' v n' F' O' H' st b' hx' hr'
      have B : Back k (none :: bk) F2 O2 H2 F' O' H' := back_of ae2.bs st b'
      exact p1 dx' v n' F' _ H' (st2.trans B.st) B.bs hx' hr'
    | ok b =>
      obtain ⟨r, outs⟩ := b
      rw [eg] at p1
      have p2 : PostG ca W σ k F1 O1 H1 (match r, outs with
        | .sh .non, some r :: outs => .ok (r, backs outs bk env1)
        | _, _ => .no) (CE ca σ k Q) := p1
      split at p2
      · rename_i r' outs'
        intro v F' O' H' st b' rv ho
        have ev : v = .non := by
          have h0 : Rep ca F' .non v := rv
          unfold Rep at h0
          exact h0
        obtain ⟨v', w1, w2⟩ := ho 0 r' rfl
        cases w1
        have b3 := b'.map aIni
        have st3 := st.trans (b'.stp aIni_low)
        have B : Back k (none :: bk) F2 O2 H2 (mF aIni O' F' H') (mO aIni O') H' := back_of ae2.bs st3 b3
        have w3 : RepR ca (mF aIni O' F' H') H' (mO aIni O') (.t 0) r' (.ref x) := w2.map b' fun c => rfl
        have ho2 : ∀ j q, (none :: outs')[j]? = some (some q) → ∃ v', (V.ref x :: vs)[j]? = some v' ∧ RepR ca (mF aIni O' F' H') H' (mO aIni O') (.s j) q v' := fun j q e => by
          cases j with
          | zero => cases e
          | succ j =>
            obtain ⟨u, u1, u2⟩ := ho (j + 1) q e
            exact ⟨u, u1, u2.map b' fun c => rfl⟩
        refine ⟨ev, p2 _ _ H' (st2.trans B.st) (.ref x) ?_ (w3.rel (.refl _) fun c a' o e e' => ⟨e', B.res a' c e⟩) B.bl⟩
        exact back_ae ae2 B ln2 ho2
      · exact p2.elim
section
variable {X : Cx} {ca : Cs} {Φ : FT} {gs : GX} {W : WX}
theorem snd_mk (G : Good X ca Φ gs W) {x C : Str} {es : T} {args : List Expr} {p cp : Pos} (hx : cm x = some (C, ("__init__" : Str))) (h2 : ArgOk X ca Φ W es args) (hp : plains args = true) (hg : gl (cOf X gs) C = true) : PE X (.Call (.Name C p) args [] cp) (tE ca Φ W (.mk x es)) := by
  obtain ⟨ts, pe, i⟩ := h2
  obtain ⟨g1, g2, _⟩ := gl_ok hg
  cases ef : Φ x with
  | none =>
    refine ⟨fun pins s σ H Q I q => ?_⟩
    obtain ⟨F, O, env, k, ae, bl, p⟩ := q
    have e : one1 (ev Φ (.mk x es) env) = .no := by
      unfold ev
      rw [hx, ef] <;> rfl
    rw [e] at p
    exact p.elim
  | some g =>
    obtain ⟨n, fa, fd, ps, Fn, hr, hm, hmg, hb⟩ := G.ini x g C hx ef
    refine peImp (pe_makeG hm Fn hr hb G.tk g1 hmg g2 (pe.pa hp) hp ?_) fun σ H Q q => ?_
    · intro e
      subst e
      cases pe <;> rfl
    · obtain ⟨F, O, env, k, ae, bl, p⟩ := q
      have e3 : one1 (ev Φ (.mk x es) env) = (ev Φ es env).bind fun a => (g (.ow (.obj C []) :: a.1)).bind fun b => match b.1, b.2 with
          | .sh .non, some r :: outs => .ok (r, backs outs (bkOf es) a.2)
          | _, _ => .no := by
        have e0 : ev Φ (.mk x es) env = (ev Φ es env).bind fun a => (g (.ow (.obj C []) :: a.1)).bind fun b => match b.1, b.2 with
            | .sh .non, some r :: outs => .ok ([r], backs outs (bkOf es) a.2)
            | _, _ => .no := by
          rw [ev, hx, ef] <;> rfl
        rw [e0, one1_bind]
        congr 1
        funext a
        rw [one1_bind]
        congr 1
        funext b
        split <;> first
          | rfl
          | (split <;> first | rfl | contradiction)
      rw [e3] at p
      refine i _ _ _ ⟨F, O, env, k + 1, ae, fun a j c z => Nat.lt_succ_of_lt (bl a j c z), ?_⟩
      refine (p.bind.lift (Nat.le_succ k)).imp fun b F2 O2 H2 st2 p2 vs ae2 rvs bl2 z => ?_
      exact mk_go ae2 rvs z.1 p2
end
end FH
set_option Elab.async false
set_option linter.all false
set_option maxRecDepth 100000
set_option maxHeartbeats 2000000
namespace FH
open PySem PySem.Spec PyProof.Rows L2
/-- all slots frozen -/
def aAll : Act := fun l => match l with
  | .s _ _ => none
  | .t j c => some (some (.t j c))
theorem aAll_low (k : Nat) : Low k aAll := fun _ _ _ => rfl
theorem shE_get {env : En} {i : Nat} {r : R} (h : (shE env)[i]? = some (some r)) : ∃ q, env[i]? = some (some q) ∧ r = sh1 q := by
  unfold shE at h
  rw [List.getElem?_map] at h
  cases e : env[i]? with
  | none => rw [e] at h; cases h
  | some o =>
    rw [e] at h
    cases o with
    | none => cases h
    | some q => cases h; exact ⟨q, rfl, rfl⟩
section
variable {ca : Cs} {Φ : FT} {W : WX} {σ : L2.St} {F H F' H' : Hp} {O O' : Own} {env : En} {k : Nat}
theorem AE.all (ae : AE ca F O env σ H) : AE ca (mF aAll O F H) (mO aAll O) (shE env) σ H := by
  refine (ae.bs.map aAll).ae fun i r e => ?_
  obtain ⟨q, e1, rfl⟩ := shE_get e
  obtain ⟨v, s1, s2⟩ := ae.slot i q e1
  exact ⟨v, s1, s2.frz ae.bs fun c => rfl⟩
theorem below_all (bl : Below O k) : Below (mO aAll O) k := fun a j c z => by
  obtain ⟨l, l1, l2⟩ := mO_inv z
  cases l with
  | s i c' => cases l2
  | t j' c' => cases l2; exact bl a j c l1
/-- behind a reading: all that stood stands -/
theorem bor_sub (b : Bs F O H) (bl : Below O k) (st : Stp k (mF aAll O F H) (mO aAll O) H F' O' H') (b' : Bs F' O' H') : Sub H H' := by
  intro a o e
  cases ho : O a with
  | none =>
    have h1 : mO aAll O a = none := mO_none ho
    exact st.keep a o e ⟨fun i c z => (by rw [h1] at z; cases z), fun j c z => (by rw [h1] at z; cases z)⟩
  | some l =>
    cases l with
    | s i c =>
      have h1 : mF aAll O F H a = some o := by rw [mF_frz ho rfl]; exact e
      exact b'.sub a o (st.ext a o h1)
    | t j c =>
      have h1 : mO aAll O a = some (.t j c) := mO_some ho rfl
      exact st.keep a o e ⟨fun i c' z => (by rw [h1] at z; cases z), fun j' c' z => (by rw [h1] at z; cases z; exact bl a j c ho)⟩
theorem bor_back (ae : AE ca F O env σ H) (s : Sub H H') : AE ca F O env σ H' ∧ Stp k F O H F O H' := by
  have b : Bs F O H' := ⟨fun a o e => s a o (ae.sub a o e), ae.dis, fun a l e => let ⟨o, h⟩ := ae.own a l e; ⟨o, s a o h⟩⟩
  exact ⟨ae.grow b (.refl _) s fun _ _ z => z, ⟨.refl _, fun a o e _ => s a o e, fun _ _ _ _ => rfl, fun _ _ _ _ z => z, fun a o e => ⟨o, s a o e⟩⟩⟩
theorem flatR_sh {r : R} (h : flatR r = true) : (∃ d, r = .sh d ∧ flatD d = true) ∨ ∃ xs, r = .ow (.lst none xs) ∧ xs.all flatD = true := by
  cases r with
  | sh d => exact .inl ⟨d, rfl, h⟩
  | ow d =>
    cases d with
    | lst t xs =>
      cases t with
      | none => exact .inr ⟨xs, rfl, h⟩
      | some a => cases h
    | _ => cases h
  | tp cs => cases h
theorem flat_reps {F F' : Hp} : ∀ {xs : List D} {vs : List V}, (∀ {d : D} {v : V}, flatD d = true → Rep ca F d v → Rep ca F' d v) → xs.all flatD = true → Reps ca F xs vs → Reps ca F' xs vs
  | [], vs, _, _, h => by unfold Reps at h ⊢; exact h
  | x :: xs, vs, g, f, h => by
    unfold Reps at h
    obtain ⟨v, r, rfl, h2, h3⟩ := h
    rw [List.all_cons, Bool.and_eq_true] at f
    exact .cons (g f.1 h2) (flat_reps g f.2 h3)
theorem flat_rep {F F' : Hp} {d : D} {v : V} (hd : flatD d = true) (h : Rep ca F d v) : Rep ca F' d v := by
  cases d <;> first
    | (cases hd; done)
    | (unfold Rep at h ⊢; exact h)
variable {X : Cx} {x : Expr}
theorem bor_read {e : T} {σ : L2.St} {H : Hp} {Q : V → Hp → Prop} (q : tE ca Φ W (.bor e) σ H Q) : tE ca Φ W e σ H Q := by
  obtain ⟨F, O, env, k, ae, bl, p⟩ := q
  have e3 : one1 (ev Φ (.bor e) env) = (one1 (ev Φ e (shE env))).bind fun a => if flatR a.1 then .ok (a.1, env) else .no := by
    show one1 ((one1 (ev Φ e (shE env))).bind _) = _
    rw [one1_bind]
    congr 1
    funext a
    show one1 (if flatR a.1 = true then _ else _) = _
    cases flatR a.1 <;> rfl
  rw [e3] at p
  have st1 := ae.bs.stp (aAll_low k)
  refine ⟨_, _, shE env, k, ae.all, below_all bl, ?_⟩
  cases ee : one1 (ev Φ e (shE env)) with
  | no => rw [ee] at p; exact p
  | ex c d =>
    rw [ee] at p
    exact fun dx v n F' O' H' st b' hx hr => p dx v n F' O' H' (st1.trans st) b' hx hr
  | ok a =>
    rw [ee] at p
    have p' : PostG ca W σ k F O H (if flatR a.1 = true then .ok (a.1, env) else .no) (CE ca σ k Q) := p
    intro F' O' H' st v ae' rv bl'
    cases hf : flatR a.1 with
    | false => rw [hf] at p'; exact p'.elim
    | true =>
      rw [hf, if_pos rfl] at p'
      have hs := bor_sub ae.bs bl st ae'.bs
      rcases flatR_sh hf with ⟨d, hd, fd⟩ | ⟨xs, hd, fd⟩
      · obtain ⟨a1, s1⟩ := bor_back (k := k) ae hs
        refine p' F O H' s1 v a1 ?_ (below_bl bl)
        rw [hd] at rv ⊢
        exact flat_rep fd rv
      · rw [hd] at rv p'
        obtain ⟨a0, vs, rfl, g1, g2, g3, g4⟩ := rv
        have hn : H a0 = none := by
          cases e : H a0 with
          | none => rfl
          | some o =>
            have pk : Pk k (mO aAll O) a0 := ⟨fun i c z => (by
                obtain ⟨l, l1, l2⟩ := mO_inv z
                cases l with
                | s i' c' => cases l2
                | t j' c' => cases l2), fun j c z => below_all bl a0 j c z⟩
            have := st.lab a0 o e pk
            rw [g2] at this
            exact absurd (below_all bl a0 k 0 this.symm) (Nat.lt_irrefl _)
        have fn : F a0 = none := by
          cases e : F a0 with
          | none => rfl
          | some o => rw [ae.sub a0 o e] at hn; cases hn
        have fin : Fin ca F H (.ow (.lst none xs)) (.ref a0) F H' := ⟨hs, .refl _, fun a o e => hs a o (ae.sub a o e), fun a o e => .inl e, rfl, a0, vs, rfl, hn, fn, g1, flat_reps (fun f r => flat_rep f r) fd g4⟩
        obtain ⟨O2, s2, a2, r2, b2⟩ := prim_end (lk := []) (rs := []) (vs := []) ae (.inl bl) (by unfold RepRs; rfl) (fun j i q => by simp at q) fin
        exact p' F O2 H' s2 (.ref a0) a2 r2 b2
theorem snd_bor {e : T} (h : PE X x (tE ca Φ W e)) : PE X x (tE ca Φ W (.bor e)) := peImp h fun σ H Q q => bor_read q
theorem snd_borT {e : T} (h : PT X x (tT ca Φ W e)) : PT X x (tT ca Φ W (.bor e)) := by
  refine ptImp h fun σ H Q q => ?_
  obtain ⟨F, O, env, k, ae, bl, p⟩ := q
  have e3 : evB Φ (.bor e) env = (evB Φ e (shE env)).bind fun a => .ok (a.1, env) := by
    show (one1 ((one1 (ev Φ e (shE env))).bind _)).bind _ = _
    rw [one1_bind, M.bind_assoc]
    unfold evB
    rw [M.bind_assoc]
    congr 1
    funext a
    show (one1 (if flatR a.1 = true then _ else _)).bind _ = (M.bind (asB a.1) _).bind _
    obtain ⟨r, e1⟩ := a
    cases r with
    | sh d =>
      cases d <;> rfl
    | ow d =>
      show (one1 (if flatR (.ow d) = true then .ok ([.ow d], env) else .no)).bind _ = _
      cases flatR (.ow d) <;> rfl
    | tp cs => rfl
  rw [e3] at p
  have st1 := ae.bs.stp (aAll_low k)
  refine ⟨_, _, shE env, k, ae.all, below_all bl, ?_⟩
  cases ee : evB Φ e (shE env) with
  | no => rw [ee] at p; exact p
  | ex c d =>
    rw [ee] at p
    exact fun dx v n F' O' H' st b' hx hr => p dx v n F' O' H' (st1.trans st) b' hx hr
  | ok a =>
    rw [ee] at p
    have p' : PostG ca W σ k F O H (.ok (a.1, env)) (CB ca σ k Q) := p
    intro F' O' H' st ae' bl'
    obtain ⟨a1, s1⟩ := bor_back (k := k) ae (bor_sub ae.bs bl st ae'.bs)
    exact p' F O H' s1 a1 bl
end
theorem RepF.put {ca : Cs} {F : Hp} {f : Str} {d : D} {v : V} (hd : Rep ca F d v) : ∀ {fs : List (Str × D)} {vs : List (Str × V)}, RepF ca F fs vs → RepF ca F (putD f d fs) (putF f v vs)
  | [], vs, h => by
    unfold RepF at h
    subst h
    show RepF ca F [(f, d)] [(f, v)]
    unfold RepF
    exact ⟨v, [], rfl, hd, by unfold RepF; rfl⟩
  | (g, x) :: fs, vs, h => by
    unfold RepF at h
    obtain ⟨u, r, h1, h2, h3⟩ := h
    subst h1
    unfold putD putF
    by_cases hg : g = f
    · rw [if_pos hg, if_pos hg]
      unfold RepF
      exact ⟨v, r, rfl, hd, h3⟩
    · rw [if_neg hg, if_neg hg]
      unfold RepF
      exact ⟨u, _, rfl, h2, RepF.put hd h3⟩
theorem RepF.length {ca : Cs} {F : Hp} : ∀ {fs : List (Str × D)} {vs : List (Str × V)}, RepF ca F fs vs → vs.length = fs.length
  | [], vs, h => by unfold RepF at h; subst h; rfl
  | (g, x) :: fs, vs, h => by
    unfold RepF at h
    obtain ⟨u, r, h1, h2, h3⟩ := h
    subst h1
    rw [List.length_cons, List.length_cons, RepF.length h3]
end FH
set_option Elab.async false
set_option linter.all false
set_option maxRecDepth 100000
set_option maxHeartbeats 2000000
namespace FH
open PySem PySem.Spec PyProof.Rows L2
section
variable {X : Cx} {ca : Cs} {Φ : FT} {gs : GX} {W : WX} {x : Expr}
/-! ### a op b op c -/
def chainM {α : Type} (Φ : FT) (p q : CmpOp) (a b c : T) (env : En) (f : R → En → M α) : M α :=
  (one1 (ev Φ a env)).bind fun ra => (one1 (ev Φ b ra.2)).bind fun rb => (semCmp p ra.1.d rb.1.d).bind fun r => (asB r).bind fun t =>
    if t then (one1 (ev Φ c rb.2)).bind fun rc => (semCmp q rb.1.d rc.1.d).bind fun r2 => f r2 rc.2 else f (.sh (.bl false)) rb.2
theorem semCmp_bl {op : CmpOp} {a b : D} {r : R} (h : semCmp op a b = .ok r) : ∃ t, r = .sh (.bl t) := by
  have bo : ∀ {o : Option Bool}, mbo o = .ok r → ∃ t, r = .sh (.bl t) := fun {o} z => by
    cases o with
    | none => cases z
    | some b => cases z; exact ⟨b, rfl⟩
  unfold semCmp at h
  split at h <;> first
    | (cases h; exact ⟨_, rfl⟩)
    | exact bo h
    | (cases h; done)
/-- one comparison, from the outcome to the reading -/
theorem cmp_go {α : Type} {op : CmpOp} {σ : L2.St} {F H : Hp} {O : Own} {env : En} {k : Nat} {a b : R} {x y : V} {K : VK} {f : R → M α} {C : α → Hp → Own → Hp → Prop} (p : PostG ca W σ k F O H ((semCmp op a.d b.d).bind f) C)
    (ae : AE ca F O env σ H) (ra : RepA ca F H a.d x) (rb : RepA ca F H b.d y) (h : ∀ t F' H', Stp k F O H F' O H' → (∀ j, Stp j F O H F' O H') → AE ca F' O env σ H' → Sub H H' → Sub F F' → PostG ca W σ k F' O H' (f (.sh (.bl t))) C → K (.bl t) H') : rP ca (P.cmp op).sem [x, y] H K := by
  cases e : semCmp op a.d b.d with
  | no => rw [e] at p; exact p.elim
  | ex c d => exact absurd e semCmp_ex
  | ok r =>
    rw [e] at p
    obtain ⟨t, rfl⟩ := semCmp_bl e
    refine ⟨F, [a.d, b.d], _, ae.sub, e, .inr ⟨⟨x, [y], rfl, ra, y, [], rfl, rb, rfl⟩, rfl⟩, fun v F' H' fn => ?_⟩
    have hv : v = .bl t := by
      have := fn.val
      have h2 : Rep ca F' (.bl t) v := this
      unfold Rep at h2
      exact h2
    subst hv
    have st := fin_stp ae.bs fn
    have p2 : PostG ca W σ k F O H (f (.sh (.bl t))) C := p
    exact h t F' H' (st k) st (ae.grow (fin_bs ae.bs fn) fn.ext fn.sub fun _ _ z => z) fn.sub fn.ext (p2.at (st k))
theorem chain_core {α : Type} {p q : CmpOp} {a b c : T} {σ : L2.St} {F H : Hp} {O : Own} {env : En} {k : Nat} {Q : VK} {f : R → En → M α} {C : α → Hp → Own → Hp → Prop} (ae : AE ca F O env σ H) (bl : Below O k)
    (h : PostG ca W σ k F O H (chainM Φ p q a b c env f) C) (fin : ∀ t env F O H, AE ca F O env σ H → PostG ca W σ k F O H (f (.sh (.bl t)) env) C → Q (.bl t) H) :
    tChain (fun x y H Q => rP ca (P.cmp p).sem [x, y] H Q) (fun x y H Q => rP ca (P.cmp q).sem [x, y] H Q) (tE ca Φ W a) (tE ca Φ W b) (tE ca Φ W c) σ H Q := by
  unfold chainM at h
  refine ⟨F, O, env, k, ae, bl, h.bind.imp fun ra F1 O1 H1 st1 p1 x ae1 rx bl1 => ?_⟩
  refine ⟨F1, O1, ra.2, k + 1, ae1, bl1, (p1.bind.lift (Nat.le_succ k)).imp fun rb F2 O2 H2 st2 p2 y ae2 ry bl2 => ?_⟩
  refine cmp_go p2 ae2 ((rx.stp st2 (Nat.lt_succ_self k)).a ae2.sub) (ry.a ae2.sub) fun t F' H' s0 st ae' sb sF p3 => ⟨t, rfl, ?_⟩
  cases t with
  | false =>
    rw [if_neg Bool.false_ne_true]
    exact fin false rb.2 F' O2 H' ae' p3
  | true =>
    rw [if_pos rfl]
    have p4 : PostG ca W σ k F' O2 H' ((one1 (ev Φ c rb.2)).bind fun rc => (semCmp q rb.1.d rc.1.d).bind fun r2 => f r2 rc.2) C := p3
    have ry' : RepR ca F' H' O2 (.t (k + 1)) rb.1 y := ry.grow sF sb fun _ _ z => z
    refine ⟨F', O2, rb.2, k + 2, ae', bl2, (p4.bind.lift (by omega)).imp fun rc F3 O3 H3 st3 p5 z ae3 rz bl3 => ?_⟩
    exact cmp_go p5 ae3 ((ry'.stp st3 (Nat.lt_succ_self _)).a ae3.sub) (rz.a ae3.sub) fun t F4 H4 _ _ ae4 _ _ p6 => fin t rc.2 F4 O3 H4 ae4 p6
theorem chain_e {p q : CmpOp} {a b c : T} {env : En} : one1 (ev Φ (.chain p q a b c) env) = chainM Φ p q a b c env fun r e => .ok (r, e) := by
  unfold chainM
  have e0 : ev Φ (.chain p q a b c) env = (one1 (ev Φ a env)).bind fun ra => (one1 (ev Φ b ra.2)).bind fun rb => (semCmp p ra.1.d rb.1.d).bind fun r => (asB r).bind fun t =>
    if t then (one1 (ev Φ c rb.2)).bind fun rc => (semCmp q rb.1.d rc.1.d).bind fun r2 => .ok ([r2], rc.2) else .ok ([.sh (.bl false)], rb.2) := rfl
  rw [e0, one1_bind]
  congr 1; funext ra
  rw [one1_bind]
  congr 1; funext rb
  rw [one1_bind]
  congr 1; funext r
  rw [one1_bind]
  congr 1; funext t
  cases t with
  | false => rfl
  | true =>
    rw [if_pos rfl, if_pos rfl, one1_bind]
    congr 1; funext rc
    rw [one1_bind]
    rfl
theorem evB_chain {p q : CmpOp} {a b c : T} {env : En} : evB Φ (.chain p q a b c) env = chainM Φ p q a b c env fun r e => (asB r).bind fun t => .ok (t, e) := by
  unfold evB
  rw [chain_e]
  unfold chainM
  rw [M.bind_assoc]
  congr 1; funext ra
  rw [M.bind_assoc]
  congr 1; funext rb
  rw [M.bind_assoc]
  congr 1; funext r
  rw [M.bind_assoc]
  congr 1; funext t
  cases t with
  | false => rfl
  | true =>
    rw [if_pos rfl, if_pos rfl, M.bind_assoc]
    congr 1; funext rc
    rw [M.bind_assoc]
    rfl
theorem lastM {op op' : CmpOp} {b c : Expr} (hc : plain c = true) : lastMarks [op, op'] [b, c] = false := by
  show behindInMarks op' c = false
  cases c <;> first
    | rfl
    | (unfold plain at hc; cases hc; done)
theorem snd_chain (hu : X.A.units + 64 < cLine) {p q : CmpOp} {a b c : T} {xa xb xc : Expr} {pos : Pos} (h1 : PE X xa (tE ca Φ W a)) (h2 : PE X xb (tE ca Φ W b)) (h3 : PE X xc (tE ca Φ W c)) (hc : plain xc = true) :
    PE X (.Compare xa [p, q] [xb, xc] pos) (tE ca Φ W (.chain p q a b c)) := by
  refine peImp (pe_chain (opr_cmp (ca := ca) hu) (opr_cmp (ca := ca) hu) h1 h2 h3 (lastM hc)) fun σ H Q w => ?_
  obtain ⟨F, O, env, k, ae, bl, pp⟩ := w
  rw [chain_e] at pp
  exact chain_core ae bl pp fun t env F O H ae2 p2 => (p2.at (ae2.bs.stp (aTz_low k))).here (.bl t) (ae2.mapS _ fun _ _ => rfl) (show Rep ca (mF (aTz k) O F H) (.bl t) (.bl t) by unfold Rep; rfl) (below_bl below_tz)
theorem snd_chainT (hu : X.A.units + 64 < cLine) {p q : CmpOp} {a b c : T} {xa xb xc : Expr} {pos : Pos} (h1 : PE X xa (tE ca Φ W a)) (h2 : PE X xb (tE ca Φ W b)) (h3 : PE X xc (tE ca Φ W c)) (hc : plain xc = true) :
    PT X (.Compare xa [p, q] [xb, xc] pos) (tT ca Φ W (.chain p q a b c)) := by
  refine ptImp (pt_chain (opr_cmp (ca := ca) hu) (opr_cmp (ca := ca) hu) h1 h2 h3 (lastM hc)) fun σ H Q w => ?_
  obtain ⟨F, O, env, k, ae, bl, pp⟩ := w
  rw [evB_chain] at pp
  exact chain_core ae bl pp fun t env F O H ae2 p2 => ⟨t, rfl, (p2.at (ae2.bs.stp (aTz_low k))).here (ae2.mapS _ fun _ _ => rfl) below_tz⟩
/-! ### if as a test -/
theorem pt_ifE {c a b : Expr} {pos : Pos} {tc ta tb : TT} (hc : PT X c tc) (ha : PT X a ta) (hb : PT X b tb) : PT X (.IfExp c a b pos) (fun σ H Q => tc σ H fun t H1 => if t = true then ta σ H1 Q else tb σ H1 Q) := by
  constructor
  intro pins s σ H Q I q
  have e : ∀ w, isTrue (.IfExp c a b pos) X.env w = (do if ← isTrue c X.env (eval c X.env) then isTrue a X.env (eval a X.env) else isTrue b X.env (eval b X.env)) := fun w => by
    conv => lhs; unfold PySem.isTrue
  rw [e]
  refine wpAny_bind (thn (hc.run pins s σ H _ I q) ?_)
  rintro t s1 ⟨H1, I1, q1⟩
  cases t with
  | true => exact ha.run pins s1 σ H1 Q I1 q1
  | false => exact hb.run pins s1 σ H1 Q I1 q1
theorem iteB {t a b : T} {env : En} : evB Φ (.ite t a b) env = (one1 (ev Φ t env)).bind fun r => (asB r.1).bind fun w => if w then evB Φ a r.2 else evB Φ b r.2 := by
  have e3 : one1 (ev Φ (.ite t a b) env) = (one1 (ev Φ t env)).bind fun r => (asB r.1).bind fun w => one1 (if w then ev Φ a r.2 else ev Φ b r.2) := by
    show one1 ((one1 (ev Φ t env)).bind _) = _
    rw [one1_bind]
    congr 1
    funext r
    exact one1_bind _ _
  unfold evB
  rw [e3, M.bind_assoc]
  congr 1; funext r
  rw [M.bind_assoc]
  congr 1; funext w
  cases w <;> rfl
theorem snd_iteTT {t a b : T} {c y z : Expr} {pos : Pos} (h1 : PT X c (tT ca Φ W t)) (h2 : PT X y (tT ca Φ W a)) (h3 : PT X z (tT ca Φ W b)) : PT X (.IfExp c y z pos) (tT ca Φ W (.ite t a b)) := by
  refine ptImp (pt_ifE h1 h2 h3) fun σ H Q q => ?_
  obtain ⟨F, O, env, k, ae, bl, p⟩ := q
  rw [iteB] at p
  refine test_then (f := fun w env1 => if w = true then evB Φ a env1 else evB Φ b env1) ae bl p fun w env1 F1 O1 H1 ae1 bl1 p1 => ?_
  cases w with
  | true =>
    rw [if_pos rfl] at p1 ⊢
    exact ⟨F1, O1, env1, k, ae1, bl1, p1⟩
  | false =>
    rw [if_neg Bool.false_ne_true] at p1 ⊢
    exact ⟨F1, O1, env1, k, ae1, bl1, p1⟩
/-! ### dict displays -/
def pairT : List TE → List (TE × TE)
  | t :: u :: r => (t, u) :: pairT r
  | _ => []
def pairV : List V → List (V × V)
  | x :: y :: r => (x, y) :: pairV r
  | _ => []
theorem tPairs_eq : ∀ {keys : List (Option Expr)} {vals : List Expr} {xs : List Expr} {ts : List TE}, inter keys vals = some xs → PEs X xs ts → ∀ σ H Q, tPairs (pairT ts) σ H Q = seqT ts σ H fun vs H' => Q (pairV vs) H'
  | [], [], xs, ts, h, pe, σ, H, Q => by
    unfold inter at h
    cases h
    cases pe
    rfl
  | some k :: ks, v :: vs, xs, ts, h, pe, σ, H, Q => by
    unfold inter at h
    cases e : inter ks vs with
    | none => rw [e] at h; cases h
    | some r =>
      rw [e] at h
      cases h
      cases pe with
      | cons h1 pe =>
        cases pe with
        | cons h2 pe =>
          unfold pairT tPairs seqT
          rw [show seqT = seqT from rfl]
          show _ = tCons _ (tCons _ (seqT _)) _ _ _
          unfold tCons
          congr 1
          funext x H1
          congr 1
          funext y H2
          exact tPairs_eq e pe σ H2 _
  | [], _ :: _, xs, ts, h, pe, σ, H, Q => by unfold inter at h; cases h
  | none :: _, _, xs, ts, h, pe, σ, H, Q => by unfold inter at h; cases h
  | some _ :: _, [], xs, ts, h, pe, σ, H, Q => by unfold inter at h; cases h
theorem pps_of {pos : Pos} : ∀ {keys : List (Option Expr)} {vals : List Expr} {xs : List Expr} {ts : List TE}, inter keys vals = some xs → PEs X xs ts → PPs X pos keys vals (pairT ts) ∧ keys.all (·.isSome) = true ∧ keys.length = vals.length ∧ xs.length = 2 * keys.length
  | [], [], xs, ts, h, pe => by
    unfold inter at h
    cases h
    cases pe
    exact ⟨pps_nil, rfl, rfl, rfl⟩
  | some k :: ks, v :: vs, xs, ts, h, pe => by
    unfold inter at h
    cases e : inter ks vs with
    | none => rw [e] at h; cases h
    | some r =>
      rw [e] at h
      cases h
      cases pe with
      | cons h1 pe =>
        cases pe with
        | cons h2 pe =>
          obtain ⟨a, b, c, d⟩ := pps_of (pos := pos) e pe
          refine ⟨pps_cons h1 h2 a, ?_, ?_, ?_⟩
          · rw [List.all_cons, b] <;> rfl
          · rw [List.length_cons, List.length_cons, c]
          · rw [List.length_cons, List.length_cons, List.length_cons, d]; omega
  | [], _ :: _, xs, ts, h, pe => by unfold inter at h; cases h
  | none :: _, _, xs, ts, h, pe => by unfold inter at h; cases h
  | some _ :: _, [], xs, ts, h, pe => by unfold inter at h; cases h
theorem keyD_v {F : Hp} {d : D} {v : V} {n : Key} (h : Rep ca F d v) (e : keyD d = some n) : v = kV n := by
  cases d <;> first
    | (unfold keyD at e; cases e; done)
    | (unfold keyD at e; cases e; unfold Rep at h; exact h)
theorem pairs_rep {F : Hp} : ∀ {ds : List D} {vs : List V} {kvs : List (Key × D)}, Reps ca F ds vs → pairD ds = some kvs → ∃ us : List (Key × V), pairV vs = us.map (fun kv => (kV kv.1, kv.2)) ∧ RepK ca F kvs us ∧ 2 * us.length = vs.length
  | [], vs, kvs, h, e => by
    unfold Reps at h
    subst h
    unfold pairD at e
    cases e
    exact ⟨[], rfl, by unfold RepK; rfl, rfl⟩
  | [_], vs, kvs, h, e => by unfold pairD at e; cases e
  | k :: v :: r, vs, kvs, h, e => by
    unfold Reps at h
    obtain ⟨x, w, rfl, h1, h2⟩ := h
    unfold Reps at h2
    obtain ⟨y, z, rfl, h3, h4⟩ := h2
    unfold pairD at e
    split at e
    · rename_i n m e1 e2
      cases e
      obtain ⟨us, u1, u2, u3⟩ := pairs_rep h4 e2
      have ex := keyD_v h1 e1
      subst ex
      refine ⟨(n, y) :: us, ?_, ?_, ?_⟩
      · show (kV n, y) :: pairV z = _
        rw [u1] <;> rfl
      · unfold RepK
        exact ⟨y, us, rfl, h3, u2⟩
      · simp only [List.length_cons]; omega
    · cases e
theorem RepK.any {F : Hp} {k : Key} : ∀ {ds : List (Key × D)} {vs : List (Key × V)}, RepK ca F ds vs → (vs.any fun kv => decide (kv.1 = k)) = (ds.any fun kv => decide (kv.1 = k))
  | [], vs, h => by unfold RepK at h; subst h; rfl
  | (j, d) :: ds, vs, h => by
    unfold RepK at h
    obtain ⟨v, r, rfl, h2, h3⟩ := h
    rw [List.any_cons, List.any_cons, RepK.any h3]
theorem RepK.upd1 {F : Hp} {k : Key} {d : D} {v : V} (hd : Rep ca F d v) : ∀ {ds : List (Key × D)} {vs : List (Key × V)}, RepK ca F ds vs → RepK ca F (ds.map fun kv => if kv.1 = k then (kv.1, d) else kv) (vs.map fun kv => if kv.1 = k then (kv.1, v) else kv)
  | [], vs, h => by unfold RepK at h; subst h; unfold RepK; rfl
  | (j, d') :: ds, vs, h => by
    unfold RepK at h
    obtain ⟨w, r, rfl, h2, h3⟩ := h
    have ih := RepK.upd1 (k := k) hd h3
    by_cases e : j = k
    · rw [List.map_cons, List.map_cons, if_pos e, if_pos e]
      unfold RepK
      exact ⟨v, _, rfl, hd, ih⟩
    · rw [List.map_cons, List.map_cons, if_neg e, if_neg e]
      unfold RepK
      exact ⟨w, _, rfl, h2, ih⟩
theorem RepK.app1 {F : Hp} {k : Key} {d : D} {v : V} (hd : Rep ca F d v) : ∀ {ds : List (Key × D)} {vs : List (Key × V)}, RepK ca F ds vs → RepK ca F (ds ++ [(k, d)]) (vs ++ [(k, v)])
  | [], vs, h => by
    unfold RepK at h
    subst h
    show RepK ca F [(k, d)] [(k, v)]
    unfold RepK
    exact ⟨v, [], rfl, hd, by unfold RepK; rfl⟩
  | (j, d') :: ds, vs, h => by
    unfold RepK at h
    obtain ⟨w, r, rfl, h2, h3⟩ := h
    show RepK ca F ((j, d') :: (ds ++ [(k, d)])) ((j, w) :: (r ++ [(k, v)]))
    unfold RepK
    exact ⟨w, _, rfl, h2, RepK.app1 hd h3⟩
theorem RepK.put {F : Hp} {k : Key} {d : D} {v : V} (hd : Rep ca F d v) {ds : List (Key × D)} {vs : List (Key × V)} (h : RepK ca F ds vs) : RepK ca F (setK k d ds) (putK vs k v) := by
  unfold setK putK
  rw [h.any]
  split
  · exact h.upd1 hd
  · exact h.app1 hd
theorem RepK.merge {F : Hp} : ∀ {more : List (Key × D)} {mv : List (Key × V)} {ds : List (Key × D)} {vs : List (Key × V)}, RepK ca F more mv → RepK ca F ds vs → RepK ca F (mergeD ds more) (mergeK vs mv)
  | [], mv, ds, vs, h, k => by unfold RepK at h; subst h; exact k
  | (j, d) :: more, mv, ds, vs, h, k => by
    unfold RepK at h
    obtain ⟨v, r, rfl, h2, h3⟩ := h
    show RepK ca F (mergeD (setK j d ds) more) (mergeK (putK vs j v) r)
    exact RepK.merge h3 (k.put h2)
theorem snd_dic {es : T} {xs : List Expr} {keys : List (Option Expr)} {vals : List Expr} {pos : Pos} (hi : inter keys vals = some xs) (h : ArgOk X ca Φ W es xs) (hp : plains xs = true) (hl : keys.length ≤ 15) : PE X (.Dict keys vals pos) (tE ca Φ W (.dic es)) := by
  obtain ⟨ts, pe, i⟩ := h
  obtain ⟨pp, ha, hlen, hx⟩ := pps_of (pos := pos) hi pe
  have e3 : ∀ env, one1 (ev Φ (.dic es) env) = (ev Φ es env).bind fun a => match pairD (a.1.map R.d) with
    | some kvs => .ok (.ow (.dic none (mergeD [] kvs)), a.2)
    | none => .no := fun env => by
    show one1 ((ev Φ es env).bind _) = _
    rw [one1_bind]
    congr 1; funext a
    show one1 (match pairD (a.1.map R.d) with
      | some kvs => M.ok ([R.ow (D.dic none (mergeD [] kvs))], a.2)
      | none => .no) = _
    cases pairD (a.1.map R.d) <;> rfl
  have main : ∀ σ H Q, tE ca Φ W (.dic es) σ H Q → ∀ q, H q = none → seqT ts σ (upd H q (.dK [])) fun vs H2 => H2 q = some (.dK []) ∧ ∃ kvs : List (Key × V), pairV vs = kvs.map (fun kv => (kV kv.1, kv.2)) ∧ kvs.length ≤ 15 ∧ Q (.ref q) (upd H2 q (.dK (mergeK [] kvs))) := by
    intro σ H Q w q hq
    obtain ⟨F, O, env, k, ae, bl, p⟩ := w
    rw [e3] at p
    have n1 := ae.bs.fr hq
    have st0 := ae.bs.nO_stp (l := .t k 0) (o := .dK []) hq k
    have ae0 : AE ca F (newO O q (.t k 0)) env σ (upd H q (.dK [])) := ae.grow (ae.bs.nO hq) (.refl _) (sub_upd hq) (newO_keep n1.2)
    have bl0 : Below (newO O q (.t k 0)) (k + 1) := fun a j c y => by
      by_cases hc : a = q
      · subst hc; rw [newO_same] at y; cases y; exact Nat.lt_succ_self _
      · rw [newO_ne hc] at y; exact Nat.lt_succ_of_lt (bl a j c y)
    refine i _ _ _ ⟨F, newO O q (.t k 0), env, k + 1, ae0, bl0, ((p.at st0).bind.lift (Nat.le_succ k)).imp fun a F1 O1 H1 st1 p1 vs ae1 rvs bl1 z => ?_⟩
    have pk : Pk (k + 1) (newO O q (.t k 0)) q := ⟨fun i c y => (by rw [newO_same] at y; cases y), fun j c y => (by rw [newO_same] at y; cases y; exact Nat.lt_succ_self _)⟩
    have hq1 : H1 q = some (.dK []) := st1.keep q _ upd_same pk
    have oq1 : O1 q = some (.t k 0) := (st1.lab q _ upd_same pk).trans newO_same
    refine ⟨hq1, ?_⟩
    have rz := RepRs.tz ae1.bs rvs
    cases ek : pairD (a.1.map R.d) with
    | none => rw [ek] at p1; exact p1.elim
    | some kvs =>
      rw [ek] at p1
      obtain ⟨us, u1, u2, u3⟩ := pairs_rep rz ek
      refine ⟨us, u1, by have := z.2; omega, ?_⟩
      have b2 := ae1.bs.map (aTz (k + 1))
      have ae2 : AE ca (mF (aTz (k + 1)) O1 F1 H1) (mO (aTz (k + 1)) O1) a.2 σ H1 := ae1.mapS _ fun _ _ => rfl
      have oq2 : mO (aTz (k + 1)) O1 q = some (.t k 0) := mO_some oq1 (if_pos (Nat.lt_succ_self k))
      have fq : mF (aTz (k + 1)) O1 F1 H1 q = none := b2.dis q _ oq2
      have rk : RepK ca (mF (aTz (k + 1)) O1 F1 H1) (mergeD [] kvs) (mergeK [] us) := RepK.merge u2 (by unfold RepK; rfl)
      have b3 : Bs (mF (aTz (k + 1)) O1 F1 H1) (mO (aTz (k + 1)) O1) (upd H1 q (.dK (mergeK [] us))) := by
        refine ⟨fun a' o e => ?_, b2.dis, fun a' l e => ?_⟩
        · have hne : a' ≠ q := fun h => by subst h; rw [fq] at e; cases e
          rw [upd_ne hne]; exact b2.sub a' o e
        · by_cases hne : a' = q
          · subst hne; exact ⟨_, upd_same⟩
          · rw [upd_ne hne]; exact b2.own a' l e
      have s3 : Stp k (mF (aTz (k + 1)) O1 F1 H1) (mO (aTz (k + 1)) O1) H1 (mF (aTz (k + 1)) O1 F1 H1) (mO (aTz (k + 1)) O1) (upd H1 q (.dK (mergeK [] us))) := by
        refine ⟨.refl _, fun a' o e pk9 => ?_, fun _ _ _ _ => rfl, fun _ _ _ _ z => z, fun a' o e => ?_⟩
        · have hne : a' ≠ q := fun h => by rw [h] at pk9; exact absurd (pk9.2 k 0 oq2) (Nat.lt_irrefl _)
          rw [upd_ne hne]; exact e
        · by_cases hne : a' = q
          · subst hne; exact ⟨_, upd_same⟩
          · exact ⟨o, by rw [upd_ne hne]; exact e⟩
      have s2 := (ae1.bs.stp (aTz_low (k + 1))).mono (Nat.le_succ k)
      refine ((p1.at s2).at s3).here (.ref q) (b3.ae fun i' r' e => ?_) ⟨q, _, rfl, upd_same, oq2, .inl rfl, rk⟩ below_tz
      obtain ⟨v', v1, v2⟩ := ae2.slot i' r' e
      refine ⟨v', v1, v2.mono (.refl _) fun c a' o e1 e2 => ⟨?_, e1⟩⟩
      have hne : a' ≠ q := fun h => by subst h; rw [oq2] at e1; cases e1
      rw [upd_ne hne]; exact e2
  cases keys with
  | nil =>
    cases vals with
    | nil =>
      unfold inter at hi
      cases hi
      cases pe
      refine peImp pe_dnewK fun σ H Q w q hq => ?_
      obtain ⟨h1, kvs, h2, h3, h4⟩ := main σ H Q w q hq
      have e0 : kvs = [] := by
        cases kvs with
        | nil => rfl
        | cons _ _ => cases h2
      subst e0
      have e1 : upd (upd H q (.dK [])) q (.dK (mergeK [] [])) = upd H q (.dK []) := by
        funext a'
        by_cases ha : a' = q
        · subst ha; rw [upd_same, upd_same] <;> rfl
        · rw [upd_ne ha]
      rw [e1] at h4
      exact h4
    | cons _ _ => unfold inter at hi; cases hi
  | cons key ks =>
    refine peImp (pe_disp pp ha hlen (List.cons_ne_nil _ _) hl) fun σ H Q w q hq => ?_
    rw [tPairs_eq hi pe]
    exact main σ H Q w q hq
end
end FH
set_option Elab.async false
set_option linter.all false
set_option maxRecDepth 100000
set_option maxHeartbeats 2000000
namespace FH
open PySem PySem.Spec PyProof.Rows L2
/-! ### targets -/
def gNs : List Nat → TGs
  | [] => gNil
  | i :: is => gCons (gName i) (gNs is)
/-- a, b, .. = a tuple, or a list, of that length -/
def gTl (K : PySem.W.Frag) (n : Nat) (t : TGs) : TG := fun v σ H Q => gTup K n t v σ H Q ∨ gLst K n t v σ H Q
theorem pg_tl {X : Cx} {es : List Expr} {k : Nat} {t : TGs} {n : Nat} {pos : Pos} (hc : X.calm = true) (h : PGs X es t) (hn : (assignEach es X.env).length = n) (hst : (assignEach es X.env).findIdx? (·.1) = none) : PG X (.Tuple es k pos) (gTl X.K n t) := by
  refine ⟨fun pins s σ H v u Q I r hw => ?_⟩
  rcases hw with hw | hw
  · exact (pg_tup hc h hn hst).run pins s σ H v u Q I r hw
  · exact (pg_lst hc h hn hst).run pins s σ H v u Q I r hw
def gTg (K : PySem.W.Frag) : Tg → TG
  | .nm i => gName i
  | .tp is => gTl K is.length (gNs is)
section
variable {ca : Cs} {F H : Hp} {O : Own} {env env' : En} {σ : L2.St} {K : PySem.W.Frag}
theorem AE.set_sh {i : Nat} {d : D} {v : V} (ae : AE ca F O env σ H) (r : Rep ca F d v) (hi : i < σ.length) : AE ca F O (env.set i (some (.sh d))) (σ.set i (some v)) H :=
  ae.bs.ae fun j q e => by
    rcases set_slot e with ⟨rfl, e1⟩ | ⟨ne, e1⟩
    · cases e1
      exact ⟨v, List.getElem?_set_self hi, r⟩
    · obtain ⟨w, w1, w2⟩ := ae.slot j q e1
      exact ⟨w, by rw [List.getElem?_set_ne (Ne.symm ne)]; exact w1, w2⟩
theorem setIs_go : ∀ {is : List Nat} {ds : List D} {env env' : En} {vs : List V} {σ : L2.St} {Q : L2.St → Hp → Prop}, setIs is ds env = .ok env' → AE ca F O env σ H → Reps ca F ds vs → (∀ i, i ∈ is → i < σ.length) →
    (∀ σ', (∀ j, j ∉ is → σ'[j]? = σ[j]?) → σ'.length = σ.length → AE ca F O env' σ' H → Q σ' H) → gNs is vs σ H Q ∧ vs.length = is.length
  | [], [], env, env', vs, σ, Q, e, ae, r, hl, h => by
    unfold setIs at e
    cases e
    unfold Reps at r
    exact ⟨⟨r, h σ (fun _ _ => rfl) rfl ae⟩, by rw [r] <;> rfl⟩
  | i :: is, d :: ds, env, env', vs, σ, Q, e, ae, r, hl, h => by
    unfold setIs at e
    unfold Reps at r
    obtain ⟨v, w, rfl, r1, r2⟩ := r
    have ih := setIs_go (σ := σ.set i (some v)) (Q := Q) e (ae.set_sh r1 (hl i List.mem_cons_self)) r2 (fun j hj => by rw [List.length_set]; exact hl j (List.mem_cons_of_mem _ hj)) fun σ' h1 h2 h3 => h σ' (fun j hj => by
      rw [h1 j fun z => hj (List.mem_cons_of_mem _ z)]
      exact List.getElem?_set_ne fun z => hj (by rw [z]; exact List.mem_cons_self)) (by rw [h2, List.length_set]) h3
    exact ⟨⟨v, w, rfl, ih.1⟩, by rw [List.length_cons, List.length_cons, ih.2]⟩
  | [], _ :: _, env, env', vs, σ, Q, e, ae, r, hl, h => by unfold setIs at e; cases e
  | _ :: _, [], env, env', vs, σ, Q, e, ae, r, hl, h => by unfold setIs at e; cases e
theorem setT_go {tg : Tg} {d : D} {x : V} {Q : L2.St → Hp → Prop} (e : setT tg d env = .ok env') (ae : AE ca F O env σ H) (r : Rep ca F d x) (hl : ∀ i, i ∈ tgSlots tg → i < σ.length)
    (h : ∀ σ', (∀ j, j ∉ tgSlots tg → σ'[j]? = σ[j]?) → σ'.length = σ.length → AE ca F O env' σ' H → Q σ' H) : gTg K tg x σ H Q := by
  cases tg with
  | nm i =>
    unfold setT at e
    cases e
    exact h _ (fun j hj => List.getElem?_set_ne fun z => hj (by rw [z]; exact List.mem_cons_self)) (List.length_set ..) (ae.set_sh r (hl i List.mem_cons_self))
  | tp is =>
    unfold setT at e
    cases d <;> first
      | (cases e; done)
      | skip
    · rename_i t ds
      unfold Rep at r
      obtain ⟨a, vs, rfl, h1, _, h2⟩ := r
      obtain ⟨g1, g2⟩ := setIs_go e ae h2 hl h
      exact .inr ⟨a, vs, rfl, SqL.of (ae.sub _ _ h1), g2, g1⟩
    · rename_i ds
      unfold Rep at r
      obtain ⟨a, vs, rfl, h1, h2⟩ := r
      obtain ⟨g1, g2⟩ := setIs_go e ae h2 hl h
      exact .inl ⟨a, vs, rfl, SqT.of (ae.sub _ _ h1), g2, g1⟩
end
theorem setT_ex {tg : Tg} {d : D} {env : En} {c : Str} {e : D} : setT tg d env ≠ .ex c e := by
  have key : ∀ (is : List Nat) (ds : List D) (env : En), setIs is ds env ≠ .ex c e := by
    intro is
    induction is with
    | nil => intro ds env h; cases ds <;> (unfold setIs at h; cases h)
    | cons i is ih =>
      intro ds env h
      cases ds with
      | nil => unfold setIs at h; cases h
      | cons d ds => unfold setIs at h; exact ih _ _ h
  intro h
  unfold setT at h
  cases tg with
  | nm i => cases h
  | tp is =>
    cases d <;> first
      | (cases h; done)
      | exact key _ _ _ h
/-! ### wiped slots -/
theorem wipe_get {σ : L2.St} {j : Nat} : ∀ {vs : List Nat}, (wipe σ vs)[j]? = if j ∈ vs then (σ[j]?).map (fun _ => none) else σ[j]?
  | [] => by simp [wipe]
  | v :: vs => by
    unfold wipe
    by_cases hv : v = j
    · subst hv
      rw [if_pos List.mem_cons_self]
      by_cases hl : v < σ.length
      · rw [List.getElem?_set_self (by rw [wipe_length]; exact hl), List.getElem?_eq_getElem hl] <;> rfl
      · rw [List.getElem?_eq_none (by rw [List.length_set, wipe_length]; omega), List.getElem?_eq_none (by omega)] <;> rfl
    · rw [List.getElem?_set_ne hv, wipe_get (vs := vs)]
      have : (j ∈ v :: vs) ↔ j ∈ vs := by
        constructor
        · intro h
          rcases List.mem_cons.mp h with h | h
          · exact absurd h.symm hv
          · exact h
        · exact List.mem_cons_of_mem _
      by_cases hj : j ∈ vs
      · rw [if_pos hj, if_pos (this.mpr hj)]
      · rw [if_neg hj, if_neg fun z => hj (this.mp z)]
theorem wipe_eq {σ σ' : L2.St} {vs : List Nat} (hl : σ'.length = σ.length) (h : ∀ j, j ∉ vs → σ'[j]? = σ[j]?) : wipe σ' vs = wipe σ vs := by
  apply List.ext_getElem?
  intro j
  rw [wipe_get, wipe_get]
  by_cases hj : j ∈ vs
  · rw [if_pos hj, if_pos hj]
    by_cases hlt : j < σ.length
    · rw [List.getElem?_eq_getElem hlt, List.getElem?_eq_getElem (by omega)] <;> rfl
    · rw [List.getElem?_eq_none (by omega), List.getElem?_eq_none (by omega)]
  · rw [if_neg hj, if_neg hj]
    exact h j hj
theorem wipeE_get {env : En} {j : Nat} {r : R} : ∀ {vs : List Nat}, (wipeE env vs)[j]? = some (some r) → j ∉ vs ∧ env[j]? = some (some r)
  | [], h => ⟨fun z => (nomatch z), h⟩
  | v :: vs, h => by
    unfold wipeE at h
    rcases set_slot h with ⟨_, e⟩ | ⟨ne, e⟩
    · cases e
    · obtain ⟨h1, h2⟩ := wipeE_get e
      exact ⟨fun z => by
        rcases List.mem_cons.mp z with z | z
        · exact ne z
        · exact h1 z, h2⟩
theorem restore_get {env0 : En} {j : Nat} {r : R} : ∀ {own : List Nat} {env : En}, (restore own env0 env)[j]? = some (some r) → (∃ d, r = .sh d ∧ env0[j]? = some (some (.sh d))) ∨ (j ∉ own ∧ env[j]? = some (some r))
  | [], env, h => .inr ⟨fun z => (nomatch z), h⟩
  | i :: own, env, h => by
    have h' : (restore own env0 (env.set i (shared (env0[i]?.join))))[j]? = some (some r) := h
    rcases restore_get h' with q | ⟨q1, q2⟩
    · exact .inl q
    · rcases set_slot q2 with ⟨rfl, e⟩ | ⟨ne, e⟩
      · refine .inl ?_
        cases e0 : env0[j]? with
        | none => rw [e0] at e; cases e
        | some o =>
          rw [e0] at e
          cases o with
          | none => cases e
          | some q =>
            cases q with
            | sh d => exact ⟨d, (Option.some.inj e).symm, rfl⟩
            | ow d => cases e
            | tp cs => cases e
      · exact .inr ⟨fun z => by
          rcases List.mem_cons.mp z with z | z
          · exact ne z
          · exact q1 z, e⟩
end FH
set_option Elab.async false
set_option linter.all false
set_option maxRecDepth 100000
set_option maxHeartbeats 2000000
namespace FH
open PySem PySem.Spec PyProof.Rows L2
def W0 : WX := fun _ _ _ _ => False
def ttOf (ca : Cs) (Φ : FT) : T → TT
  | .nil => tYes
  | c => tT ca Φ W0 c
section
variable {ca : Cs} {Φ : FT}
theorem cond_read {c : T} {σ : L2.St} {H : Hp} {Q : Bool → Hp → Prop} {F : Hp} {O : Own} {env : En} {k : Nat} (ae : AE ca F O env σ H) (bl : Below O k) (p : PostG ca W0 σ k F O H (condM c (ev Φ c) env) (CB ca σ k Q)) : ttOf ca Φ c σ H Q := by
  by_cases hc : c = .nil
  · subst hc
    exact p.here ae bl
  · have e : condM c (ev Φ c) env = evB Φ c env := by
      cases c <;> first
        | rfl
        | exact absurd rfl hc
    have e2 : ttOf ca Φ c = tT ca Φ W0 c := by
      cases c <;> first
        | rfl
        | exact absurd rfl hc
    rw [e2]
    rw [e] at p
    exact ⟨F, O, env, k, ae, bl, p⟩
def compB (Φ : FT) (vs : List Nat) (tg : Tg) (elt cond : T) (x : D) (env : En) : M (Option D × En) :=
  (setT tg x env).bind fun env => (condM cond (ev Φ cond) env).bind fun a => if a.1 then (one1 (ev Φ elt a.2)).bind fun b => .ok (some b.1.d, wipeE b.2 vs) else .ok (none, wipeE a.2 vs)
theorem comp_e {own : List (Str × Nat)} {elt src cond : T} {tg : Tg} {env : En} : one1 (ev Φ (.comp own elt tg src cond) env) = (one1 (ev Φ src env)).bind fun a => match a.1 with
    | .sh (.lst _ xs) => if xs.length ≤ LIM then (compL (fun x env => (compB Φ (own.map (·.2)) tg elt cond x env).noex) xs (wipeE a.2 (own.map (·.2)))).bind fun b => .ok (.ow (.lst none b.1), restore (own.map (·.2)) a.2 b.2) else .no
    | _ => .no := by
  have e0 : ev Φ (.comp own elt tg src cond) env = (one1 (ev Φ src env)).bind fun a => match a.1 with
    | .sh (.lst _ xs) => if xs.length ≤ LIM then (compL (fun x env => (compB Φ (own.map (·.2)) tg elt cond x env).noex) xs (wipeE a.2 (own.map (·.2)))).bind fun b => .ok ([.ow (.lst none b.1)], restore (own.map (·.2)) a.2 b.2) else .no
    | _ => .no := rfl
  rw [e0, one1_bind]
  congr 1; funext a
  obtain ⟨r, env1⟩ := a
  cases r with
  | sh d =>
    cases d with
    | lst t xs =>
      show one1 (if xs.length ≤ LIM then _ else _) = if xs.length ≤ LIM then _ else _
      split
      · rw [one1_bind]; rfl
      · rfl
    | _ => rfl
  | _ => rfl
/-- no exception, no stop: an outcome in the block -/
theorem post0 {α : Type} {σ : L2.St} {k : Nat} {F : Hp} {O : Own} {H : Hp} {m : M α} {C : α → Hp → Own → Hp → Prop} {a : α} (e : m = .ok a) (h : ∀ F' O' H', Stp k F O H F' O' H' → C a F' O' H') : PostG ca W0 σ k F O H m C := by
  rw [e]; exact h
theorem noex_ok {α : Type} {m : M α} {a : α} (h : m.noex = .ok a) : m = .ok a := by
  cases m with
  | ok b => exact h
  | ex c d => cases h
  | no => cases h
theorem comp_read {K : PySem.W.Frag} {own : List (Str × Nat)} {elt src cond : T} {tg : Tg} {σ : L2.St} {H : Hp} {Q : VK} {W : WX} (hs : ∀ i, i ∈ own.map (·.2) → i < σ.length) (ht : ∀ i, i ∈ tgSlots tg → i ∈ own.map (·.2))
    (q : tE ca Φ W (.comp own elt tg src cond) σ H Q) : tLc (tI ca Φ W src) (gTg K tg) (ttOf ca Φ cond) (tE ca Φ W0 elt) (own.map (·.2)) σ H Q := by
  obtain ⟨F, O, env, k, ae, bl, p⟩ := q
  rw [comp_e] at p
  refine ⟨F, O, env, k, ae, bl, p.bind.imp fun a F1 O1 H1 st1 p1 ae1 bl1 t xs er J hJ D hD => ?_⟩
  generalize own.map (·.2) = vs at hs ht p1
  rw [er] at p1
  have p2 : PostG ca W σ k F1 O1 H1 (if xs.length ≤ LIM then (compL (fun x env => (compB Φ vs tg elt cond x env).noex) xs (wipeE a.2 vs)).bind fun b => .ok (.ow (.lst none b.1), restore vs a.2 b.2) else .no) (CE ca σ k Q) := p1
  split at p2
  case isFalse => exact p2.elim
  rename_i hlen
  have n1 := ae1.bs.fr hD
  have st0 := ae1.bs.nO_stp (l := .t k 0) (o := .lst []) hD k
  have ae0 : AE ca F1 (newO O1 D (.t k 0)) a.2 σ (upd H1 D (.lst [])) := ae1.grow (ae1.bs.nO hD) (.refl _) (sub_upd hD) (newO_keep n1.2)
  refine ⟨fun i m H => ∃ F O env acc accD, AE ca F O env (wipe σ vs) H ∧ (∀ j r, env[j]? = some (some r) → j ∉ vs) ∧ Below O (k + 1) ∧ H D = some (.lst acc) ∧ O D = some (.t k 0) ∧ Reps ca F accD acc ∧ i ≤ xs.length ∧ m = xs.length - i ∧ Sub F1 F ∧ acc.length ≤ i ∧
    PostG ca W σ k F O H ((compL (fun x env => (compB Φ vs tg elt cond x env).noex) (xs.drop i) env).bind fun b => .ok (.ow (.lst none (accD ++ b.1)), restore vs a.2 b.2)) (CE ca σ k Q), ⟨xs.length, F1, newO O1 D (.t k 0), wipeE a.2 vs, [], [], ?_, fun j r e => (wipeE_get e).1, ?_, upd_same, newO_same, .nil, Nat.zero_le _, rfl, .refl _, Nat.le_refl _, ?_⟩, ?_⟩
  · refine ae0.bs.ae fun j r e => ?_
    obtain ⟨e1, e2⟩ := wipeE_get e
    obtain ⟨v, v1, v2⟩ := ae0.slot j r e2
    exact ⟨v, by rw [wipe_out e1]; exact v1, v2⟩
  · intro a' j c y
    by_cases hc : a' = D
    · subst hc; rw [newO_same] at y; cases y; exact Nat.lt_succ_self _
    · rw [newO_ne hc] at y; exact Nat.lt_succ_of_lt (bl1 a' j c y)
  · rw [List.drop_zero]
    exact p2.at st0
  rintro i m H2 ⟨F2, O2, env2, acc, accD, ae2, ev2, bl2, hd2, od2, r2, hi, hm, sF, hacc, p3⟩
  by_cases hlt : i < xs.length
  · -- a turn
    refine .inr ?_
    have hx : xs[i]? = some xs[i] := List.getElem?_eq_getElem hlt
    obtain ⟨go, yl⟩ := (hJ i F2 H2 sF ae2.sub).1 _ hx
    refine ⟨go, ?_⟩
    rw [List.drop_eq_getElem_cons hlt] at p3
    have e1 : compL (fun x env => (compB Φ vs tg elt cond x env).noex) (xs[i] :: xs.drop (i + 1)) env2 = ((compB Φ vs tg elt cond xs[i] env2).noex).bind fun a => (compL (fun x env => (compB Φ vs tg elt cond x env).noex) (xs.drop (i + 1)) a.2).bind fun b => .ok (a.1.toList ++ b.1, b.2) := rfl
    rw [e1, M.bind_assoc] at p3
    cases eb : (compB Φ vs tg elt cond xs[i] env2).noex with
    | ex c d =>
      exfalso
      unfold M.noex at eb
      split at eb <;> cases eb
    | no => rw [eb] at p3; exact p3.elim
    | ok oa =>
      rw [eb] at p3
      have p4 : PostG ca W σ k F2 O2 H2 ((compL (fun x env => (compB Φ vs tg elt cond x env).noex) (xs.drop (i + 1)) oa.2).bind fun b => .ok (.ow (.lst none (accD ++ (oa.1.toList ++ b.1))), restore vs a.2 b.2)) (CE ca σ k Q) := by
        have e2 : ((compL (fun x env => (compB Φ vs tg elt cond x env).noex) (xs.drop (i + 1)) oa.2).bind fun b => (M.ok (oa.1.toList ++ b.1, b.2) : M (List FH.D × En))).bind (fun b => (.ok (R.ow (FH.D.lst none (accD ++ b.1)), restore vs a.2 b.2) : M (R × En))) = (compL (fun x env => (compB Φ vs tg elt cond x env).noex) (xs.drop (i + 1)) oa.2).bind fun b => .ok (.ow (.lst none (accD ++ (oa.1.toList ++ b.1))), restore vs a.2 b.2) := by
          rw [M.bind_assoc] <;> rfl
        rw [← e2]
        exact p3
      have ebo := noex_ok eb
      refine ⟨fun H' => ∃ F O env acc accD, AE ca F O env (wipe σ vs) H' ∧ (∀ j r, env[j]? = some (some r) → j ∉ vs) ∧ Below O (k + 1) ∧ H' D = some (.lst acc) ∧ O D = some (.t k 0) ∧ Reps ca F accD acc ∧ Sub F1 F ∧ acc.length ≤ i + 1 ∧
        PostG ca W σ k F O H' ((compL (fun x env => (compB Φ vs tg elt cond x env).noex) (xs.drop (i + 1)) env).bind fun b => .ok (.ow (.lst none (accD ++ b.1)), restore vs a.2 b.2)) (CE ca σ k Q), ?_, ?_⟩
      · rintro H' ⟨F3, O3, env3, acc3, accD3, h1, h2, h3, h4, h5, h6, h7, h8, h9⟩
        exact ⟨xs.length - (i + 1), by omega, F3, O3, env3, acc3, accD3, h1, h2, h3, h4, h5, h6, by omega, rfl, h7, h8, h9⟩
      · intro x H' hy
        obtain ⟨F3, s1, s2, s3, s4, rx⟩ := yl x H' hy
        have b3 : Bs F3 O2 H' := by
          refine ⟨s2, fun a' l e => ?_, fun a' l e => ?_⟩
          · cases q : F3 a' with
            | none => rfl
            | some o =>
              rcases s4 a' o q with z | z
              · rw [ae2.dis a' l e] at z; cases z
              · obtain ⟨o', y⟩ := ae2.own a' l e
                rw [z] at y; cases y
          · obtain ⟨o, y⟩ := ae2.own a' l e
            exact ⟨o, s3 _ _ y⟩
        have st3 : ∀ j, Stp j F2 O2 H2 F3 O2 H' := fun j => by
          refine ⟨s1, fun a' o e _ => s3 _ _ e, fun _ _ _ _ => rfl, fun a' o e pk n => ?_, fun a' o e => ⟨o, s3 _ _ e⟩⟩
          cases q : F3 a' with
          | none => rfl
          | some u =>
            rcases s4 a' u q with z | z
            · rw [n] at z; cases z
            · rw [e] at z; cases z
        have ae3 : AE ca F3 O2 env2 (wipe σ vs) H' := ae2.grow b3 s1 s3 fun _ _ z => z
        unfold compB at ebo
        obtain ⟨env3, e3, ebo⟩ := M.bind_eq ebo
        obtain ⟨ca1, e4, ebo⟩ := M.bind_eq ebo
        refine setT_go e3 ae3 rx (fun j hj => by rw [wipe_length]; exact hs j (ht j hj)) fun σ' u1 u2 ae4 => ?_
        have wq : wipe σ' vs = wipe σ vs := by
          rw [wipe_eq (σ := wipe σ vs) u2 fun j hj => u1 j fun z => hj (ht j z)]
          exact wipe_eq (wipe_length σ vs) fun j hj => wipe_out hj
        refine ⟨wq, ?_⟩
        have back : ∀ {F O env H}, AE ca F O env σ' H → AE ca F O (wipeE env vs) (wipe σ vs) H := fun {F O env H} ae => by
          refine ae.bs.ae fun j r e => ?_
          obtain ⟨e1, e2⟩ := wipeE_get e
          obtain ⟨v, v1, v2⟩ := ae.slot j r e2
          exact ⟨v, by rw [← wq, wipe_out e1]; exact v1, v2⟩
        have keepD : ∀ {F O H}, Stp (k + 1) F3 O2 H' F O H → H D = some (.lst acc) ∧ O D = some (.t k 0) := fun {F O H} st => by
          have hD' : H' D = some (.lst acc) := s3 _ _ hd2
          have pk : Pk (k + 1) O2 D := ⟨fun i c y => (by rw [od2] at y; cases y), fun j c y => (by rw [od2] at y; cases y; exact Nat.lt_succ_self _)⟩
          exact ⟨st.keep D _ hD' pk, (st.lab D _ hD' pk).trans od2⟩
        refine cond_read ae4 bl2 (post0 e4 fun F5 O5 H5 st5 ae5 bl5 => ?_)
        obtain ⟨hd5, od5⟩ := keepD st5
        cases ec : ca1.1 with
        | false =>
          rw [if_neg Bool.false_ne_true]
          rw [ec] at ebo
          have ebo' : (M.ok (none, wipeE ca1.2 vs) : M (Option FH.D × En)) = .ok oa := ebo
          cases ebo'
          refine ⟨F5, O5, wipeE ca1.2 vs, acc, accD, back ae5, fun j r e => (wipeE_get e).1, bl5, hd5, od5, Reps.mono (s1.trans st5.ext) _ _ r2, (sF.trans s1).trans st5.ext, Nat.le_succ_of_le hacc, ?_⟩
          exact (p4.at (st3 k)).at (st5.mono (Nat.le_succ k))
        | true =>
          rw [if_pos rfl]
          rw [ec] at ebo
          have ebo' : ((one1 (ev Φ elt ca1.2)).bind fun b => (M.ok (some b.1.d, wipeE b.2 vs) : M (Option FH.D × En))) = .ok oa := ebo
          obtain ⟨cb, e5, ebo⟩ := M.bind_eq ebo'
          cases ebo
          refine ⟨F5, O5, ca1.2, k + 1, ae5, bl5, post0 e5 fun F6 O6 H6 st6 v ae6 rv bl6 => ?_⟩
          obtain ⟨hd6, od6⟩ := keepD (st5.trans st6)
          refine ⟨acc, hd6, Nat.lt_of_le_of_lt (Nat.le_trans hacc (Nat.le_of_lt hlt)) (Nat.lt_of_le_of_lt hlen lim_lt), ?_⟩
          have b7 := ae6.bs.map (aTz (k + 1))
          have ae7 := ae6.mapS (aTz (k + 1)) fun _ _ => rfl
          have rz : Rep ca (mF (aTz (k + 1)) O6 F6 H6) cb.1.d v := rv.frz (φ := aTz (k + 1)) ae6.bs fun c => if_neg (Nat.lt_irrefl _)
          have s7 := ae6.bs.stp (aTz_low (k + 1))
          have od7 : mO (aTz (k + 1)) O6 D = some (.t k 0) := mO_some od6 (if_pos (Nat.lt_succ_self k))
          generalize hF7 : mF (aTz (k + 1)) O6 F6 H6 = F7 at b7 ae7 rz s7
          generalize hO7 : mO (aTz (k + 1)) O6 = O7 at b7 ae7 s7 od7
          have fD : F7 D = none := b7.dis D _ od7
          have b8 : Bs F7 O7 (upd H6 D (.lst (acc ++ [v]))) := by
            refine ⟨fun a' o e => ?_, b7.dis, fun a' l e => ?_⟩
            · have hne : a' ≠ D := fun h => by rw [h, fD] at e; cases e
              rw [upd_ne hne]; exact b7.sub a' o e
            · by_cases hne : a' = D
              · rw [hne]; exact ⟨_, upd_same⟩
              · rw [upd_ne hne]; exact b7.own a' l e
          have s8 : Stp k F7 O7 H6 F7 O7 (upd H6 D (.lst (acc ++ [v]))) := by
            refine ⟨.refl _, fun a' o e pk9 => ?_, fun _ _ _ _ => rfl, fun _ _ _ _ z => z, fun a' o e => ?_⟩
            · have hne : a' ≠ D := fun h => by rw [h] at pk9; exact absurd (pk9.2 k 0 od7) (Nat.lt_irrefl _)
              rw [upd_ne hne]; exact e
            · by_cases hne : a' = D
              · rw [hne]; exact ⟨_, upd_same⟩
              · exact ⟨o, by rw [upd_ne hne]; exact e⟩
          have ae8 : AE ca F7 O7 cb.2 σ' (upd H6 D (.lst (acc ++ [v]))) := b8.ae fun i' r' e => by
            obtain ⟨v', v1, v2⟩ := ae7.slot i' r' e
            refine ⟨v', v1, v2.mono (.refl _) fun c a' o e1 e2 => ⟨?_, e1⟩⟩
            have hne : a' ≠ D := fun h => by rw [h, od7] at e1; cases e1
            rw [upd_ne hne]; exact e2
          have sF7 : Sub F2 F7 := ((s1.trans st5.ext).trans st6.ext).trans s7.ext
          refine ⟨F7, O7, wipeE cb.2 vs, acc ++ [v], accD ++ [cb.1.d], back ae8, fun j r e => (wipeE_get e).1, ?_, upd_same, od7, (Reps.mono sF7 _ _ r2).append (.cons rz .nil), sF.trans sF7, ?_, ?_⟩
          · rw [← hO7]; exact below_tz
          · rw [List.length_append, List.length_singleton]; omega
          · have p5 := ((((p4.at (st3 k)).at (st5.mono (Nat.le_succ k))).at (st6.mono (Nat.le_succ k))).at (s7.mono (Nat.le_succ k))).at s8
            have e9 : ∀ b : List FH.D, accD ++ ((some cb.1.d).toList ++ b) = (accD ++ [cb.1.d]) ++ b := fun b => by simp
            simp only [e9] at p5
            exact p5
  · -- the end
    refine .inl ⟨(hJ i F2 H2 sF ae2.sub).2 (by omega), ?_⟩
    rw [List.drop_eq_nil_of_le (by omega)] at p3
    have p4 : PostG ca W σ k F2 O2 H2 (.ok (R.ow (FH.D.lst none (accD ++ [])), restore vs a.2 env2)) (CE ca σ k Q) := p3
    rw [List.append_nil] at p4
    refine p4.here (.ref D) (ae2.bs.ae fun j r e => ?_) ⟨D, acc, rfl, hd2, od2, .inl rfl, r2⟩ bl2
    rcases restore_get e with ⟨d, rfl, e1⟩ | ⟨e1, e2⟩
    · obtain ⟨v, v1, v2⟩ := ae1.slot j _ e1
      exact ⟨v, v1, Rep.mono sF _ _ v2⟩
    · obtain ⟨v, v1, v2⟩ := ae2.slot j r e2
      rw [wipe_out e1] at v1
      exact ⟨v, v1, v2⟩
end
end FH
set_option Elab.async false
set_option linter.all false
set_option maxRecDepth 100000
set_option maxHeartbeats 2000000
namespace FH
open PySem PySem.Spec PyProof.Rows L2
/-! ### what a fit tells of the text -/
section
variable {c : MC} {x tx : Expr} {xs : List Expr}
theorem mE_var {i : Nat} (h : mE c (.var i) x = true) : ∃ y p, x = .Name y p ∧ visN c i y = true := by
  cases x <;> first
    | (unfold mE at h; cases h; done)
    | (unfold mE at h; exact ⟨_, _, rfl, h⟩)
theorem mE_mv {i : Nat} (h : mE c (.mv i) x = true) : ∃ y p, x = .Name y p ∧ visN c i y = true := by
  cases x <;> first
    | (unfold mE at h; cases h; done)
    | (unfold mE at h; exact ⟨_, _, rfl, h⟩)
theorem mE_lit {v : V} (h : mE c (.lit v) x = true) : ∃ k n p, x = .Constant k n p ∧ mC v k = true := by
  cases x <;> first
    | (unfold mE at h; cases h; done)
    | (unfold mE at h; exact ⟨_, _, _, rfl, h⟩)
theorem mE_glb {y : Str} {v : V} (h : mE c (.glb y v) x = true) : ∃ p, x = .Name y p ∧ gl c y = true ∧ (y, v) ∈ c.gs.vs ∧ okV v = true := by
  cases x <;> first
    | (unfold mE at h; cases h; done)
    | skip
  unfold mE at h
  simp only [Bool.and_eq_true, decide_eq_true_eq] at h
  obtain ⟨⟨⟨rfl, h2⟩, h3⟩, h4⟩ := h
  exact ⟨_, rfl, h2, h3, h4⟩
theorem mE_nil (h : mE c .nil x = true) : False := by
  cases x <;> (unfold mE at h; cases h)
theorem mE_cons {e es : T} (h : mE c (.cons e es) x = true) : False := by
  cases x <;> (unfold mE at h; cases h)
theorem mE_sval {e : T} (h : mE c (.sval e) x = true) : False := by
  cases x <;> (unfold mE at h; cases h)
theorem mE_srng {e : T} (h : mE c (.srng e) x = true) : False := by
  cases x <;> (unfold mE at h; cases h)
theorem mE_senum {e : T} (h : mE c (.senum e) x = true) : False := by
  cases x <;> (unfold mE at h; cases h)
theorem mE_szip {e : T} (h : mE c (.szip e) x = true) : False := by
  cases x <;> (unfold mE at h; cases h)
theorem mE_prim {p : P} {es : T} (h : mE c (.prim p es) x = true) : ∃ xs, mP c p x = some xs ∧ plain x = true ∧ mA c es xs = true := by
  have h' : (match mP c p x with
    | some xs => plain x && mA c es xs
    | none => false) = true := by
    unfold mE at h
    exact h
  cases e : mP c p x with
  | none => rw [e] at h'; cases h'
  | some xs =>
    rw [e] at h'
    simp only [Bool.and_eq_true] at h'
    exact ⟨xs, rfl, h'.1, h'.2⟩
theorem mE_mth {m : Mt} {e es : T} (h : mE c (.mth m e es) x = true) : ∃ o ap args cp, x = .Call (.Attribute o m.name ap) args [] cp ∧ (ap.endLine == cp.line) = true ∧ args.length < 20 ∧ plain o = true ∧ mE c e o = true ∧ mA c es args = true ∧ args ≠ [] ∧ ∀ i, e ≠ .mv i := by
  cases x <;> first
    | (unfold mE at h; cases h; done)
    | skip
  rename_i f args kws cp
  cases f <;> first
    | (unfold mE at h; cases h; done)
    | skip
  rename_i o y ap
  cases kws with
  | cons _ _ => unfold mE at h; cases h
  | nil =>
    unfold mE at h
    simp only [Bool.and_eq_true, decide_eq_true_eq] at h
    obtain ⟨⟨⟨⟨⟨⟨⟨h1, h2⟩, h3⟩, h4⟩, h5⟩, h6⟩, h7⟩, h8⟩ := h
    subst h1
    exact ⟨o, ap, args, cp, rfl, h2, h3, h4, h5, h6, fun z => (by subst z; cases h7), fun i z => (by subst z; cases h8)⟩
theorem mE_call {f : Str} {es : T} (h : mE c (.call f es) x = true) : ∃ p args cp, x = .Call (.Name f p) args [] cp ∧ gl c f = true ∧ mA c es args = true ∧ cm f = none := by
  cases x <;> first
    | (unfold mE at h; cases h; done)
    | skip
  rename_i g args kws cp
  cases g <;> first
    | (unfold mE at h; cases h; done)
    | skip
  rename_i y p
  cases kws with
  | cons _ _ => unfold mE at h; cases h
  | nil =>
    unfold mE at h
    simp only [Bool.and_eq_true, decide_eq_true_eq] at h
    obtain ⟨⟨⟨⟨h1, h2⟩, _⟩, h3⟩, h4⟩ := h
    subst h1
    exact ⟨p, args, cp, rfl, h2, h3, Option.isNone_iff_eq_none.mp h4⟩
theorem mE_mk {n : Str} {es : T} (h : mE c (.mk n es) x = true) : ∃ C p args cp, x = .Call (.Name C p) args [] cp ∧ cm n = some (C, ("__init__" : Str)) ∧ gl c C = true ∧ mA c es args = true := by
  cases x <;> first
    | (unfold mE at h; cases h; done)
    | skip
  rename_i f args kws cp
  cases f <;> first
    | (unfold mE at h; cases h; done)
    | skip
  rename_i y p
  cases kws with
  | cons _ _ => unfold mE at h; cases h
  | nil =>
    unfold mE at h
    cases hq : cm n with
    | none => rw [hq] at h; cases h
    | some q =>
      obtain ⟨C, m⟩ := q
      rw [hq] at h
      simp only [Bool.and_eq_true, decide_eq_true_eq] at h
      obtain ⟨⟨⟨h1, h2⟩, h3⟩, h4⟩ := h
      subst h1 h2
      exact ⟨_, p, args, cp, rfl, rfl, h3, h4⟩
theorem mE_om {n : Str} {e es : T} (h : mE c (.om n e es) x = true) : ∃ C m o ap args cp, x = .Call (.Attribute o m ap) args [] cp ∧ cm n = some (C, m) ∧ (ap.endLine == cp.line) = true ∧ args.length < 20 ∧ plain o = true ∧ mE c e o = true ∧ mA c es args = true ∧ notMv e = true := by
  cases x <;> first
    | (unfold mE at h; cases h; done)
    | skip
  rename_i f args kws cp
  cases f <;> first
    | (unfold mE at h; cases h; done)
    | skip
  rename_i o y ap
  cases kws with
  | cons _ _ => unfold mE at h; cases h
  | nil =>
    unfold mE at h
    cases hq : cm n with
    | none => rw [hq] at h; cases h
    | some q =>
      obtain ⟨C, m⟩ := q
      rw [hq] at h
      simp only [Bool.and_eq_true, decide_eq_true_eq] at h
      obtain ⟨⟨⟨⟨⟨⟨h1, h2⟩, h3⟩, h4⟩, h5⟩, h6⟩, h7⟩ := h
      subst h1
      exact ⟨C, _, o, ap, args, cp, rfl, rfl, h2, h3, h4, h5, h6, h7⟩
theorem mE_lst {es : T} (h : mE c (.lst es) x = true) : ∃ xs p, x = .List xs p ∧ xs.length ≤ 1000 ∧ mA c es xs = true := by
  cases x <;> first
    | (unfold mE at h; cases h; done)
    | skip
  unfold mE at h
  simp only [Bool.and_eq_true, decide_eq_true_eq] at h
  exact ⟨_, _, rfl, h.1, h.2⟩
theorem mE_tup {es : T} (h : mE c (.tup es) x = true) : ∃ xs n p, x = .Tuple xs n p ∧ xs.length ≤ 1000 ∧ mA c es xs = true := by
  cases x <;> first
    | (unfold mE at h; cases h; done)
    | skip
  unfold mE at h
  simp only [Bool.and_eq_true, decide_eq_true_eq] at h
  exact ⟨_, _, _, rfl, h.1, h.2⟩
theorem mE_dic {es : T} (h : mE c (.dic es) x = true) : ∃ keys vals p xs, x = .Dict keys vals p ∧ inter keys vals = some xs ∧ keys.length ≤ 15 ∧ mA c es xs = true := by
  cases x <;> first
    | (unfold mE at h; cases h; done)
    | skip
  rename_i keys vals p
  have h' : (match inter keys vals with
      | some xs => decide (keys.length ≤ 15) && mA c es xs
      | none => false) = true := by
    unfold mE at h
    exact h
  cases e : inter keys vals with
  | none => rw [e] at h'; cases h'
  | some xs =>
    rw [e] at h'
    simp only [Bool.and_eq_true, decide_eq_true_eq] at h'
    exact ⟨_, _, _, xs, rfl, e, h'.1, h'.2⟩
theorem mE_frz {a : T} (h : mE c (.frz a) x = true) : isFz x = true ∧ mE c a x = true := by
  unfold mE at h
  exact Bool.and_eq_true_iff.mp h
theorem mE_bor {a : T} (h : mE c (.bor a) x = true) : isBor x = true ∧ mE c a x = true := by
  unfold mE at h
  simp only [Bool.and_eq_true] at h
  exact ⟨h.1.1, h.2⟩
theorem mE_borC {a : T} (h : mE c (.bor a) x = true) (l : isLc x = true) : isCompT a = true := by
  unfold mE at h
  rw [l] at h
  simp only [Bool.and_eq_true, Bool.not_true, Bool.or_false] at h
  exact h.1.2
theorem mE_one {a : T} (h : mE c (.one a) x = true) : ∃ op y p, x = .BoolOp op [y] p ∧ mE c a y = true := by
  cases x <;> first
    | (unfold mE at h; cases h; done)
    | skip
  rename_i op vs p
  cases vs with
  | nil => unfold mE at h; cases h
  | cons y r =>
    cases r with
    | cons _ _ => unfold mE at h; cases h
    | nil => unfold mE at h; exact ⟨op, y, p, rfl, h⟩
theorem mE_and {a b : T} (h : mE c (.and a b) x = true) : ∃ y z r p, x = .BoolOp .And (y :: z :: r) p ∧ mE c a y = true ∧ mE c b (.BoolOp .And (z :: r) p) = true := by
  cases x <;> first
    | (unfold mE at h; cases h; done)
    | skip
  rename_i op vs p
  cases op with
  | Or => unfold mE at h; cases h
  | And =>
    cases vs with
    | nil => unfold mE at h; cases h
    | cons y r =>
      cases r with
      | nil => unfold mE at h; cases h
      | cons z r =>
        unfold mE at h
        simp only [Bool.and_eq_true] at h
        exact ⟨y, z, r, p, rfl, h.1, h.2⟩
theorem mE_or {a b : T} (h : mE c (.or a b) x = true) : ∃ y z r p, x = .BoolOp .Or (y :: z :: r) p ∧ mE c a y = true ∧ mE c b (.BoolOp .Or (z :: r) p) = true := by
  cases x <;> first
    | (unfold mE at h; cases h; done)
    | skip
  rename_i op vs p
  cases op with
  | And => unfold mE at h; cases h
  | Or =>
    cases vs with
    | nil => unfold mE at h; cases h
    | cons y r =>
      cases r with
      | nil => unfold mE at h; cases h
      | cons z r =>
        unfold mE at h
        simp only [Bool.and_eq_true] at h
        exact ⟨y, z, r, p, rfl, h.1, h.2⟩
theorem mE_not {a : T} (h : mE c (.not a) x = true) : ∃ y p, x = .UnaryOp .Not y p ∧ mE c a y = true := by
  cases x <;> first
    | (unfold mE at h; cases h; done)
    | skip
  rename_i op y p
  cases op <;> first
    | (unfold mE at h; cases h; done)
    | (unfold mE at h; exact ⟨y, p, rfl, h⟩)
theorem mE_ite {t a b : T} (h : mE c (.ite t a b) x = true) : ∃ u y z p, x = .IfExp u y z p ∧ mE c t u = true ∧ mE c a y = true ∧ mE c b z = true := by
  cases x <;> first
    | (unfold mE at h; cases h; done)
    | skip
  unfold mE at h
  simp only [Bool.and_eq_true] at h
  exact ⟨_, _, _, _, rfl, h.1.1, h.1.2, h.2⟩
theorem mE_chain {p q : CmpOp} {a b d : T} (h : mE c (.chain p q a b d) x = true) : ∃ u y z pos, x = .Compare u [p, q] [y, z] pos ∧ mE c a u = true ∧ mE c b y = true ∧ mE c d z = true ∧ plain z = true := by
  cases x <;> first
    | (unfold mE at h; cases h; done)
    | skip
  rename_i u ops cs pos
  match ops, cs, h with
  | [o, o'], [y, z], h =>
    unfold mE at h
    simp only [Bool.and_eq_true, decide_eq_true_eq] at h
    obtain ⟨⟨⟨⟨⟨h1, h2⟩, h3⟩, h4⟩, h5⟩, h6⟩ := h
    subst h1 h2
    exact ⟨u, y, z, pos, rfl, h3, h4, h5, h6⟩
  | [], _, h => unfold mE at h; cases h
  | [_], _, h => unfold mE at h; cases h
  | _ :: _ :: _ :: _, _, h => unfold mE at h; cases h
  | [_, _], [], h => unfold mE at h; cases h
  | [_, _], [_], h => unfold mE at h; cases h
  | [_, _], _ :: _ :: _ :: _, h => unfold mE at h; cases h
theorem mE_comp {own : List (Str × Nat)} {elt src cond : T} {tg : Tg} (h : mE c (.comp own elt tg src cond) x = true) : ∃ e tx it ifs scope p, x = .ListComp e [⟨tx, it, ifs, 0⟩] scope p ∧ mI c src tx it = true ∧ blkC c.N c.sc scope own = true ∧ mTg (blkMC c scope) tg tx = true ∧
    (∀ i, i ∈ tgSlots tg → i ∈ own.map (·.2)) ∧ mE (blkMC c scope) elt e = true ∧ ((cond = .nil ∧ ifs = []) ∨ (cond ≠ .nil ∧ ∃ y, ifs = [y] ∧ mE (blkMC c scope) cond y = true)) := by
  cases x <;> first
    | (unfold mE at h; cases h; done)
    | skip
  rename_i e gens scope p
  match gens, h with
  | [⟨tx, it, ifs, n⟩], h =>
    have h' : (decide (n = 0) && mI c src tx it && blkC c.N c.sc scope own && mTg (blkMC c scope) tg tx && (tgSlots tg).all (fun i => decide (i ∈ own.map (·.2))) &&
        mE (blkMC c scope) elt e && condC cond (mE (blkMC c scope) cond) ifs) = true := by
      unfold mE at h
      exact h
    simp only [Bool.and_eq_true] at h'
    obtain ⟨⟨⟨⟨⟨⟨h0, h1⟩, h2⟩, h3⟩, h4⟩, h5⟩, h6⟩ := h'
    have h0' := of_decide_eq_true h0
    subst h0'
    refine ⟨e, tx, it, ifs, scope, p, rfl, h1, h2, h3, fun i hi => of_decide_eq_true (List.all_eq_true.mp h4 i hi), h5, ?_⟩
    by_cases hc : cond = .nil
    · subst hc
      cases ifs with
      | nil => exact .inl ⟨rfl, rfl⟩
      | cons y r => cases h6
    · refine .inr ⟨hc, ?_⟩
      match ifs, h6 with
      | [], h6 => cases cond <;> first | (cases h6; done) | exact absurd rfl hc
      | [y], h6 => exact ⟨y, rfl, by cases cond <;> first | exact h6 | exact absurd rfl hc⟩
      | _ :: _ :: _, h6 => cases cond <;> first | (cases h6; done) | exact absurd rfl hc
  | [], h => unfold mE at h; exact (Bool.false_ne_true h).elim
  | ⟨_, _, _, _⟩ :: _ :: _, h => unfold mE at h; exact (Bool.false_ne_true h).elim
theorem mA_nil (h : mA c .nil xs = true) : xs = [] := by
  cases xs with
  | nil => rfl
  | cons _ _ => unfold mA at h; cases h
theorem mA_late {i : Nat} {es : T} (h : mA c (.late i es) xs = true) : ∃ y p r, xs = .Name y p :: r ∧ visN c i y = true ∧ mA c es r = true := by
  cases xs with
  | nil => unfold mA at h; cases h
  | cons y r =>
    cases y <;> first
      | (unfold mA at h; cases h; done)
      | skip
    unfold mA at h
    simp only [Bool.and_eq_true] at h
    exact ⟨_, _, r, rfl, h.1, h.2⟩
theorem mA_cons {e es : T} (h : mA c (.cons e es) xs = true) : ∃ y r, xs = y :: r ∧ plain y = true ∧ mE c e y = true ∧ mA c es r = true := by
  cases xs with
  | nil => unfold mA at h; cases h
  | cons y r =>
    unfold mA at h
    simp only [Bool.and_eq_true] at h
    exact ⟨y, r, rfl, h.1.1, h.1.2, h.2⟩
end
end FH
set_option Elab.async false
set_option linter.all false
set_option maxRecDepth 100000
set_option maxHeartbeats 2000000
namespace FH
open PySem PySem.Spec PyProof.Rows L2
section
variable {c : MC} {x t : Expr}
theorem mI_sval {e : T} (h : mI c (.sval e) t x = true) : plain x = true ∧ mE c e x = true := by
  unfold mI at h
  simp only [Bool.and_eq_true] at h
  exact h
theorem mI_srng {es : T} (h : mI c (.srng es) t x = true) : ∃ p args pos, x = .Call (.Name "range" p) args [] pos ∧ gl c "range" = true ∧ mA c es args = true ∧ (args.length = 1 ∨ args.length = 2) := by
  cases x <;> first
    | (unfold mI at h; cases h; done)
    | skip
  rename_i g args kws cp
  cases g <;> first
    | (unfold mI at h; cases h; done)
    | skip
  rename_i y p
  cases kws with
  | cons _ _ => unfold mI at h; cases h
  | nil =>
    unfold mI at h
    simp only [Bool.and_eq_true, Bool.or_eq_true, decide_eq_true_eq] at h
    obtain ⟨⟨⟨rfl, h2⟩, h3⟩, h4⟩ := h
    exact ⟨p, args, cp, rfl, h2, h3, h4⟩
theorem mI_senum {e : T} (h : mI c (.senum e) t x = true) : ∃ p a pos, x = .Call (.Name "enumerate" p) [a] [] pos ∧ gl c "enumerate" = true ∧ mE c e a = true ∧ plain a = true ∧ isTup t = true := by
  cases x <;> first
    | (unfold mI at h; cases h; done)
    | skip
  rename_i g args kws cp
  cases g <;> first
    | (unfold mI at h; cases h; done)
    | skip
  rename_i y p
  cases kws with
  | cons _ _ =>
    unfold mI at h
    cases args with
    | nil => cases h
    | cons a r => cases r <;> cases h
  | nil =>
    match args, h with
    | [a], h =>
      unfold mI at h
      simp only [Bool.and_eq_true, decide_eq_true_eq] at h
      obtain ⟨⟨⟨⟨rfl, h2⟩, h3⟩, h4⟩, h5⟩ := h
      exact ⟨p, a, cp, rfl, h2, h3, h4, h5⟩
    | [], h => unfold mI at h; cases h
    | _ :: _ :: _, h => unfold mI at h; cases h
theorem mI_szip {es : T} (h : mI c (.szip es) t x = true) : ∃ p args pos, x = .Call (.Name "zip" p) args [] pos ∧ gl c "zip" = true ∧ mA c es args = true ∧ args.length = 2 ∧ isTup t = true := by
  cases x <;> first
    | (unfold mI at h; cases h; done)
    | skip
  rename_i g args kws cp
  cases g <;> first
    | (unfold mI at h; cases h; done)
    | skip
  rename_i y p
  cases kws with
  | cons _ _ => unfold mI at h; cases h
  | nil =>
    unfold mI at h
    simp only [Bool.and_eq_true, decide_eq_true_eq] at h
    obtain ⟨⟨⟨⟨rfl, h2⟩, h3⟩, h4⟩, h5⟩ := h
    exact ⟨p, args, cp, rfl, h2, h3, h4, h5⟩
/-- a source is not a display of a set -/
theorem mI_fold {e : T} (h : mI c e t x = true) (env : Env) : ∀ v, foldedSetIterable x env v = pure v := by
  intro v
  cases e <;> first
    | (unfold mI at h; cases h; done)
    | skip
  · have hp := (mI_sval h).1
    cases x <;> first
      | rfl
      | (unfold plain at hp; cases hp; done)
  · obtain ⟨_, _, _, rfl, _⟩ := mI_srng h; rfl
  · obtain ⟨_, _, _, rfl, _⟩ := mI_senum h; rfl
  · obtain ⟨_, _, _, rfl, _⟩ := mI_szip h; rfl
/-- operations but comparisons are plain tests -/
theorem mP_true {p : P} {xs : List Expr} (h : mP c p x = some xs) (n : ∀ op, p ≠ .cmp op) (env : Env) : ∀ whole, PySem.isTrue x env whole = (do let v ← whole; standAt x.pos; holding [v] (truthy v)) := by
  intro whole
  unfold mP at h
  split at h <;> first
    | rfl
    | exact absurd rfl (n _)
    | (cases h; done)
theorem mP_cmp {op : CmpOp} {xs : List Expr} (h : mP c (.cmp op) x = some xs) : ∃ a b pos, x = .Compare a [op] [b] pos ∧ xs = [a, b] := by
  unfold mP at h
  split at h <;> first
    | contradiction
    | (cases h; done)
    | skip
  rename_i h0
  split at h
  · rename_i h1
    injection h0 with h2
    subst h2
    subst h1
    cases h
    exact ⟨_, _, _, rfl, rfl⟩
  · cases h
end
section
variable {X : Cx} {ca : Cs} {Φ : FT} {gs : GX} {W : WX}
theorem Good.blk (G : Good X ca Φ gs W) (s : Shared) (H : Hp) (scope : Scope) (C : Addr) (cl : List (Str × Addr)) (fp : List Addr) : Good (X.blk s H scope (compEnvC scope cl C X.env) fp) ca Φ gs W0 where
  calm := G.calm
  nd := G.nd
  room := G.room
  tk := takes0
  un := G.un
  gv := G.gv
  ic := G.ic
  cl := G.cl
  fn := G.fn
  ini := G.ini
  mt := G.mt
theorem cOf_blk (s : Shared) (H : Hp) (scope : Scope) (C : Addr) (cl : List (Str × Addr)) (fp : List Addr) : cOf (X.blk s H scope (compEnvC scope cl C X.env) fp) gs = blkMC (cOf X gs) scope := rfl
theorem pgs_names (hN : X.N.Nodup) : ∀ {is : List Nat} {es : List Expr}, mNames (cOf X gs) is es = true → PGs X es (gNs is) ∧ (assignEach es X.env).length = is.length ∧ (assignEach es X.env).findIdx? (·.1) = none
  | [], [], _ => ⟨pgs_nil, rfl, rfl⟩
  | i :: is, e :: es, h => by
    cases e <;> first
      | (unfold mNames at h; cases h; done)
      | skip
    rename_i y p
    unfold mNames at h
    simp only [Bool.and_eq_true] at h
    obtain ⟨n1, n2, n3⟩ := locN_ok h.1
    obtain ⟨g1, g2, g3⟩ := pgs_names hN h.2
    refine ⟨pgs_cons (pg_name hN n1 n2 n3) g1, ?_, ?_⟩
    · show (assignEach es X.env).length + 1 = _
      rw [g2, List.length_cons]
    · show List.findIdx? _ ((false, _) :: assignEach es X.env) = none
      rw [List.findIdx?_cons, g3] <;> rfl
  | [], e :: es, h => by cases e <;> (unfold mNames at h; cases h)
  | i :: is, [], h => by unfold mNames at h; cases h
theorem pg_tg (G : Good X ca Φ gs W) {tg : Tg} {tx : Expr} (h : mTg (cOf X gs) tg tx = true) : PG X tx (gTg X.K tg) := by
  cases tg with
  | nm i =>
    cases tx <;> first
      | (unfold mTg at h; cases h; done)
      | skip
    unfold mTg at h
    obtain ⟨n1, n2, n3⟩ := locN_ok h
    exact pg_name G.nd n1 n2 n3
  | tp is =>
    cases tx <;> first
      | (unfold mTg at h; cases h; done)
      | skip
    unfold mTg at h
    obtain ⟨g1, g2, g3⟩ := pgs_names G.nd h
    exact pg_tl G.calm g1 g2 g3
theorem peLen {x : Expr} {t t' : TE} (h : PE X x t) (i : ∀ σ H Q, σ.length = X.N.length → t' σ H Q → t σ H Q) : PE X x t' := ⟨fun pins s σ H Q I q => h.run pins s σ H Q I (i σ H Q I.len q)⟩
theorem own_lt {N : List Str} {sc scope : Scope} {own : List (Str × Nat)} (h : blkC N sc scope own = true) : ∀ i, i ∈ own.map (·.2) → i < N.length := by
  intro i hi
  unfold blkC at h
  simp only [Bool.and_eq_true, List.all_eq_true, decide_eq_true_eq] at h
  obtain ⟨p, hp, rfl⟩ := List.mem_map.mp hi
  exact (List.getElem?_eq_some_iff.mp (h.1.2 p hp)).1
theorem snd_comp (G : Good X ca Φ gs W) {own : List (Str × Nat)} {elt src cond : T} {tg : Tg} {e tx it : Expr} {ifs : List Expr} {scope : Scope} {p : Pos} (hi : PI X tx it (tI ca Φ W src)) (ok : blkC X.N X.env.scope scope own = true)
    (hg : ∀ (s : Shared) (H : Hp) (C : Addr) (cl : List (Str × Addr)) (fp : List Addr), PG (X.blk s H scope (compEnvC scope cl C X.env) fp) tx (gTg X.K tg)) (ht : ∀ (s : Shared) (H : Hp) (C : Addr) (cl : List (Str × Addr)) (fp : List Addr), PTs (X.blk s H scope (compEnvC scope cl C X.env) fp) ifs (ttOf ca Φ cond))
    (he : ∀ (s : Shared) (H : Hp) (C : Addr) (cl : List (Str × Addr)) (fp : List Addr), PE (X.blk s H scope (compEnvC scope cl C X.env) fp) e (tE ca Φ W0 elt)) (hs : ∀ v, foldedSetIterable it X.env v = pure v) (htg : ∀ i, i ∈ tgSlots tg → i ∈ own.map (·.2)) :
    PE X (.ListComp e [⟨tx, it, ifs, 0⟩] scope p) (tE ca Φ W (.comp own elt tg src cond)) :=
  peLen (pe_lc G.calm G.nd hi (blkOk_by ok) hg ht he hs) fun σ H Q hl q => comp_read (fun i hi => by rw [hl]; exact own_lt ok i hi) htg q
end
/-! ### all terms -/
def SE (ca : Cs) (Φ : FT) (e : T) : Prop := ∀ (X : Cx) (gs : GX) (W : WX), ca.K = X.K → Good X ca Φ gs W → ∀ x, mE (cOf X gs) e x = true → PE X x (tE ca Φ W e) ∧ PT X x (tT ca Φ W e) ∧ ∀ op xs p, x = .BoolOp op xs p → PW X x (tT ca Φ W e)
def SA (ca : Cs) (Φ : FT) (e : T) : Prop := ∀ (X : Cx) (gs : GX) (W : WX), ca.K = X.K → Good X ca Φ gs W → ∀ xs, mA (cOf X gs) e xs = true → ArgOk X ca Φ W e xs
def SI (ca : Cs) (Φ : FT) (e : T) : Prop := ∀ (X : Cx) (gs : GX) (W : WX), ca.K = X.K → Good X ca Φ gs W → ∀ t x, mI (cOf X gs) e t x = true → PI X t x (tI ca Φ W e)
theorem no_si {ca : Cs} {Φ : FT} {e : T} (h : ∀ c t x, mI c e t x = true → False) : SI ca Φ e := fun X gs W hK G t x m => (h _ _ _ m).elim
theorem no_sa {ca : Cs} {Φ : FT} {e : T} (h : ∀ c xs, mA c e xs = true → False) : SA ca Φ e := fun X gs W hK G xs m => (h _ _ m).elim
theorem no_se {ca : Cs} {Φ : FT} {e : T} (h : ∀ c x, mE c e x = true → False) : SE ca Φ e := fun X gs W hK G x m => (h _ _ m).elim
theorem se_plain {X : Cx} {ca : Cs} {Φ : FT} {W : WX} {e : T} {x : Expr} (h : PE X x (tE ca Φ W e)) (he : ∀ whole, PySem.isTrue x X.env whole = (do let v ← whole; standAt x.pos; holding [v] (truthy v))) (nb : ∀ op xs p, x ≠ .BoolOp op xs p) :
    PE X x (tE ca Φ W e) ∧ PT X x (tT ca Φ W e) ∧ ∀ op xs p, x = .BoolOp op xs p → PW X x (tT ca Φ W e) := ⟨h, pt_of h he, fun op xs p z => absurd z (nb op xs p)⟩
theorem snd_all (ca : Cs) (Φ : FT) (e : T) : SE ca Φ e ∧ SA ca Φ e ∧ SI ca Φ e := by
  induction e with
  | var i =>
    refine ⟨fun X gs W hK G x m => ?_, no_sa fun c xs m => by cases xs <;> (unfold mA at m; cases m), no_si fun c t x m => by unfold mI at m; cases m⟩
    obtain ⟨y, p, rfl, h⟩ := mE_var m
    exact se_plain (snd_var G h) (fun _ => rfl) fun _ _ _ z => nomatch z
  | mv i =>
    refine ⟨fun X gs W hK G x m => ?_, no_sa fun c xs m => by cases xs <;> (unfold mA at m; cases m), no_si fun c t x m => by unfold mI at m; cases m⟩
    obtain ⟨y, p, rfl, h⟩ := mE_mv m
    have h1 : PE X (.Name y p) (tE ca Φ W (.mv i)) := peImp (snd_mv G h) fun σ H Q q => by
      obtain ⟨F, O, env, k, ae, bl, p⟩ := q
      exact ⟨F, O, env, k, ae, bl, p.imp fun a F1 O1 H1 _ h v h1 h2 h3 _ => h v h1 h2 h3⟩
    exact se_plain h1 (fun _ => rfl) fun _ _ _ z => nomatch z
  | lit v =>
    refine ⟨fun X gs W hK G x m => ?_, no_sa fun c xs m => by cases xs <;> (unfold mA at m; cases m), no_si fun c t x m => by unfold mI at m; cases m⟩
    obtain ⟨k, n, p, rfl, h⟩ := mE_lit m
    exact se_plain (snd_lit h) (fun _ => rfl) fun _ _ _ z => nomatch z
  | glb y v =>
    refine ⟨fun X gs W hK G x m => ?_, no_sa fun c xs m => by cases xs <;> (unfold mA at m; cases m), no_si fun c t x m => by unfold mI at m; cases m⟩
    obtain ⟨p, rfl, h1, h2, h3⟩ := mE_glb m
    exact se_plain (snd_glb G h1 h2 h3) (fun _ => rfl) fun _ _ _ z => nomatch z
  | nil =>
    refine ⟨no_se fun c x m => mE_nil m, fun X gs W hK G xs m => ?_, no_si fun c t x m => by unfold mI at m; cases m⟩
    have := mA_nil m
    subst this
    exact args_nil
  | cons e es ih1 ih2 =>
    refine ⟨no_se fun c x m => mE_cons m, fun X gs W hK G xs m => ?_, no_si fun c t x m => by unfold mI at m; cases m⟩
    obtain ⟨y, r, rfl, h1, h2, h3⟩ := mA_cons m
    exact args_cons G (ih1.1 X gs W hK G y h2).1 (ih2.2.1 X gs W hK G r h3) h2
  | late i es ih =>
    refine ⟨no_se fun c x m => by cases x <;> (unfold mE at m; cases m), fun X gs W hK G xs m => ?_, no_si fun c t x m => by unfold mI at m; cases m⟩
    obtain ⟨y, p, r, rfl, h1, h2⟩ := mA_late m
    exact args_late G (ih.2.1 X gs W hK G r h2) h1
  | prim p es ih =>
    refine ⟨fun X gs W hK G x m => ?_, no_sa fun c xs m => by cases xs <;> (unfold mA at m; cases m), no_si fun c t x m => by unfold mI at m; cases m⟩
    obtain ⟨xs, h1, h2, h3⟩ := mE_prim m
    have ar := ih.2.1 X gs W hK G xs h3
    have hp := plains_of h3
    have h4 : PE X x (tE ca Φ W (.prim p es)) := snd_prim ar fun ts pe => prim_all hK G h1 hp pe
    have nb : ∀ op xs p, x ≠ .BoolOp op xs p := fun op xs' p' z => by
      subst z
      unfold mP at h1
      split at h1 <;> contradiction
    by_cases hc : ∃ op, p = .cmp op
    · obtain ⟨op, rfl⟩ := hc
      obtain ⟨a, b, pos, rfl, rfl⟩ := mP_cmp h1
      exact ⟨h4, snd_primT ar fun ts pe => prim_cmpT G.room.room.units (plains_1 (plains_1 hp).2).1 pe, fun op xs p z => absurd z (nb op xs p)⟩
    · exact se_plain h4 (mP_true h1 (fun op z => hc ⟨op, z⟩) X.env) nb
  | mth mt e es ih1 ih2 =>
    refine ⟨fun X gs W hK G x m => ?_, no_sa fun c xs m => by cases xs <;> (unfold mA at m; cases m), no_si fun c t x m => by unfold mI at m; cases m⟩
    obtain ⟨o, ap, args, cp, rfl, h1, h2, h3, h4, h5, h6, h7⟩ := mE_mth m
    exact se_plain (snd_mth (by have := G.room.room.units; omega) (ih1.1 X gs W hK G o h4).1 h7 (ih2.2.1 X gs W hK G args h5) (plains_of h5) h3 h2 h6 h1) (fun _ => rfl) fun _ _ _ z => nomatch z
  | call f es ih =>
    refine ⟨fun X gs W hK G x m => ?_, no_sa fun c xs m => by cases xs <;> (unfold mA at m; cases m), no_si fun c t x m => by unfold mI at m; cases m⟩
    obtain ⟨p, args, cp, rfl, h1, h2, h3⟩ := mE_call m
    exact se_plain (snd_call G (ih.2.1 X gs W hK G args h2) (plains_of h2) h1 h3) (fun _ => rfl) fun _ _ _ z => nomatch z
  | om x e es ih1 ih2 =>
    refine ⟨fun X gs W hK G y m => ?_, no_sa fun c xs m => by cases xs <;> (unfold mA at m; cases m), no_si fun c t x m => by unfold mI at m; cases m⟩
    obtain ⟨C, mm, o, ap, args, cp, rfl, h1, h2, h3, h4, h5, h6, h7⟩ := mE_om m
    exact se_plain (snd_om G h1 (ih1.1 X gs W hK G o h5).1 (fun i z => by subst z; cases h7) (ih2.2.1 X gs W hK G args h6) (plains_of h6) h4 h3 h2) (fun _ => rfl) fun _ _ _ z => nomatch z
  | mk x es ih =>
    refine ⟨fun X gs W hK G y m => ?_, no_sa fun c xs m => by cases xs <;> (unfold mA at m; cases m), no_si fun c t x m => by unfold mI at m; cases m⟩
    obtain ⟨C, p, args, cp, rfl, h1, h2, h3⟩ := mE_mk m
    exact se_plain (snd_mk G h1 (ih.2.1 X gs W hK G args h3) (plains_of h3) h2) (fun _ => rfl) fun _ _ _ z => nomatch z
  | lst es ih =>
    refine ⟨fun X gs W hK G x m => ?_, no_sa fun c xs m => by cases xs <;> (unfold mA at m; cases m), no_si fun c t x m => by unfold mI at m; cases m⟩
    obtain ⟨xs, p, rfl, h1, h2⟩ := mE_lst m
    exact se_plain (snd_lst (ih.2.1 X gs W hK G xs h2) (plains_of h2) h1) (fun _ => rfl) fun _ _ _ z => nomatch z
  | tup es ih =>
    refine ⟨fun X gs W hK G x m => ?_, no_sa fun c xs m => by cases xs <;> (unfold mA at m; cases m), no_si fun c t x m => by unfold mI at m; cases m⟩
    obtain ⟨xs, n, p, rfl, h1, h2⟩ := mE_tup m
    exact se_plain (snd_tup (ih.2.1 X gs W hK G xs h2) (plains_of h2) h1) (fun _ => rfl) fun _ _ _ z => nomatch z
  | dic es ih =>
    refine ⟨fun X gs W hK G x m => ?_, no_sa fun c xs m => by cases xs <;> (unfold mA at m; cases m), no_si fun c t x m => by unfold mI at m; cases m⟩
    obtain ⟨keys, vals, p, xs, rfl, h1, h2, h3⟩ := mE_dic m
    exact se_plain (snd_dic h1 (ih.2.1 X gs W hK G xs h3) (plains_of h3) h2) (fun _ => rfl) fun _ _ _ z => nomatch z
  | and a b ih1 ih2 =>
    refine ⟨fun X gs W hK G x m => ?_, no_sa fun c xs m => by cases xs <;> (unfold mA at m; cases m), no_si fun c t x m => by unfold mI at m; cases m⟩
    obtain ⟨y, z, r, p, rfl, h1, h2⟩ := mE_and m
    obtain ⟨a1, a2, _⟩ := ih1.1 X gs W hK G _ h1
    obtain ⟨b1, _, b3⟩ := ih2.1 X gs W hK G _ h2
    have w := pw_and' a2 (b3 _ _ _ rfl)
    exact ⟨snd_and a1 b1, w.pt, fun _ _ _ _ => w⟩
  | or a b ih1 ih2 =>
    refine ⟨fun X gs W hK G x m => ?_, no_sa fun c xs m => by cases xs <;> (unfold mA at m; cases m), no_si fun c t x m => by unfold mI at m; cases m⟩
    obtain ⟨y, z, r, p, rfl, h1, h2⟩ := mE_or m
    obtain ⟨a1, a2, _⟩ := ih1.1 X gs W hK G _ h1
    obtain ⟨b1, _, b3⟩ := ih2.1 X gs W hK G _ h2
    have w := pw_or' a2 (b3 _ _ _ rfl)
    exact ⟨snd_or a1 b1, w.pt, fun _ _ _ _ => w⟩
  | one a ih =>
    refine ⟨fun X gs W hK G x m => ?_, no_sa fun c xs m => by cases xs <;> (unfold mA at m; cases m), no_si fun c t x m => by unfold mI at m; cases m⟩
    obtain ⟨op, y, p, rfl, h1⟩ := mE_one m
    obtain ⟨a1, a2, _⟩ := ih.1 X gs W hK G _ h1
    have w := pw_one (op := op) (pos := p) a2
    exact ⟨snd_one a1, w.pt, fun _ _ _ _ => w⟩
  | frz a ih =>
    refine ⟨fun X gs W hK G x m => ?_, no_sa fun c xs m => by cases xs <;> (unfold mA at m; cases m), no_si fun c t x m => by unfold mI at m; cases m⟩
    obtain ⟨h0, h1⟩ := mE_frz m
    obtain ⟨a1, a2, _⟩ := ih.1 X gs W hK G _ h1
    have go := snd_frz a1
    cases x <;> first
      | (cases h0; done)
      | exact se_plain go (fun _ => rfl) fun _ _ _ z => nomatch z
  | bor a ih =>
    refine ⟨fun X gs W hK G x m => ?_, no_sa fun c xs m => by cases xs <;> (unfold mA at m; cases m), no_si fun c t x m => by unfold mI at m; cases m⟩
    obtain ⟨h0, h1⟩ := mE_bor m
    obtain ⟨a1, a2, _⟩ := ih.1 X gs W hK G _ h1
    exact ⟨snd_bor a1, snd_borT a2, fun _ _ _ z => by subst z; cases h0⟩
  | not a ih =>
    refine ⟨fun X gs W hK G x m => ?_, no_sa fun c xs m => by cases xs <;> (unfold mA at m; cases m), no_si fun c t x m => by unfold mI at m; cases m⟩
    obtain ⟨y, p, rfl, h1⟩ := mE_not m
    obtain ⟨a1, a2, _⟩ := ih.1 X gs W hK G _ h1
    exact ⟨snd_not a1, snd_notT a2, fun _ _ _ z => nomatch z⟩
  | ite t a b ih1 ih2 ih3 =>
    refine ⟨fun X gs W hK G x m => ?_, no_sa fun c xs m => by cases xs <;> (unfold mA at m; cases m), no_si fun c t x m => by unfold mI at m; cases m⟩
    obtain ⟨u, y, z, p, rfl, h1, h2, h3⟩ := mE_ite m
    obtain ⟨_, a2, _⟩ := ih1.1 X gs W hK G _ h1
    obtain ⟨b1, b2, _⟩ := ih2.1 X gs W hK G _ h2
    obtain ⟨c1, c2, _⟩ := ih3.1 X gs W hK G _ h3
    exact ⟨snd_ite a2 b1 c1, snd_iteTT a2 b2 c2, fun _ _ _ z => nomatch z⟩
  | chain p q a b c ih1 ih2 ih3 =>
    refine ⟨fun X gs W hK G x m => ?_, no_sa fun c xs m => by cases xs <;> (unfold mA at m; cases m), no_si fun c t x m => by unfold mI at m; cases m⟩
    obtain ⟨u, y, z, pos, rfl, h1, h2, h3, h4⟩ := mE_chain m
    have a1 := (ih1.1 X gs W hK G _ h1).1
    have b1 := (ih2.1 X gs W hK G _ h2).1
    have c1 := (ih3.1 X gs W hK G _ h3).1
    exact ⟨snd_chain G.room.room.units a1 b1 c1 h4, snd_chainT G.room.room.units a1 b1 c1 h4, fun _ _ _ z => nomatch z⟩
  | comp own elt tg src cond ih1 ih2 ih3 =>
    refine ⟨fun X gs W hK G x m => ?_, no_sa fun c xs m => by cases xs <;> (unfold mA at m; cases m), no_si fun c t x m => by unfold mI at m; cases m⟩
    obtain ⟨e, tx, it, ifs, scope, p, rfl, h1, h2, h3, h4, h5, h6⟩ := mE_comp m
    have go : PE X (.ListComp e [⟨tx, it, ifs, 0⟩] scope p) (tE ca Φ W (.comp own elt tg src cond)) := by
      refine snd_comp G (ih2.2.2 X gs W hK G tx it h1) h2 (fun s H C cl fp => pg_tg (G.blk s H scope C cl fp) h3) (fun s H C cl fp => ?_) (fun s H C cl fp => (ih1.1 (X.blk s H scope (compEnvC scope cl C X.env) fp) gs W0 hK (G.blk s H scope C cl fp) e h5).1) (mI_fold h1 X.env) h4
      rcases h6 with ⟨rfl, rfl⟩ | ⟨hc, y, rfl, h6⟩
      · exact pts_nil
      · have e2 : ttOf ca Φ cond = tT ca Φ W0 cond := by
          cases cond <;> first
            | rfl
            | exact absurd rfl hc
        rw [e2]
        exact pts_one (ih3.1 (X.blk s H scope (compEnvC scope cl C X.env) fp) gs W0 hK (G.blk s H scope C cl fp) y h6).2.1
    exact se_plain go (fun _ => rfl) fun _ _ _ z => nomatch z
  | sval e ih =>
    refine ⟨no_se fun c x m => mE_sval m, no_sa fun c xs m => by cases xs <;> (unfold mA at m; cases m), fun X gs W hK G t x m => ?_⟩
    exact snd_sval (ih.1 X gs W hK G x (mI_sval m).2).1
  | srng es ih =>
    refine ⟨no_se fun c x m => mE_srng m, no_sa fun c xs m => by cases xs <;> (unfold mA at m; cases m), fun X gs W hK G t x m => ?_⟩
    obtain ⟨p, args, pos, rfl, h1, h2, h3⟩ := mI_srng m
    have ar := ih.2.1 X gs W hK G args h2
    have hp := plains_of h2
    rcases h3 with h3 | h3
    · match args, h3 with
      | [a], _ => exact snd_rng1 G ar (plains_1 hp).1 h1
    · match args, h3 with
      | [a, b], _ => exact snd_rng2 G ar (plains_1 hp).1 (plains_1 (plains_1 hp).2).1 h1
  | senum e ih =>
    refine ⟨no_se fun c x m => mE_senum m, no_sa fun c xs m => by cases xs <;> (unfold mA at m; cases m), fun X gs W hK G t x m => ?_⟩
    obtain ⟨p, a, pos, rfl, h1, h2, h3, h4⟩ := mI_senum m
    cases t <;> first
      | (unfold isTup at h4; cases h4; done)
      | skip
    exact snd_enum G (ih.1 X gs W hK G a h2).1 h3 h1
  | szip es ih =>
    refine ⟨no_se fun c x m => mE_szip m, no_sa fun c xs m => by cases xs <;> (unfold mA at m; cases m), fun X gs W hK G t x m => ?_⟩
    obtain ⟨p, args, pos, rfl, h1, h2, h3, h4⟩ := mI_szip m
    cases t <;> first
      | (unfold isTup at h4; cases h4; done)
      | skip
    have ar := ih.2.1 X gs W hK G args h2
    have hp := plains_of h2
    match args, h3 with
    | [a, b], _ => exact snd_zip G ar (plains_1 hp).1 (plains_1 (plains_1 hp).2).1 h1
end FH
set_option Elab.async false
set_option linter.all false
set_option maxRecDepth 100000
set_option maxHeartbeats 2000000
namespace FH
open PySem PySem.Spec PyProof.Rows L2
/-- the slots io stand -/
def Fx (io : List Nat) (σ σ' : L2.St) : Prop := σ'.length = σ.length ∧ ∀ i, i ∈ io → σ'[i]? = σ[i]?
theorem Fx.refl (io : List Nat) (σ : L2.St) : Fx io σ σ := ⟨rfl, fun _ _ => rfl⟩
theorem Fx.trans {io : List Nat} {a b c : L2.St} (h : Fx io a b) (k : Fx io b c) : Fx io a c := ⟨k.1.trans h.1, fun i hi => (k.2 i hi).trans (h.2 i hi)⟩
theorem Fx.set {io : List Nat} {σ : L2.St} {i : Nat} {v : Option V} (h : i ∉ io) : Fx io σ (σ.set i v) := ⟨List.length_set .., fun j hj => List.getElem?_set_ne fun z => h (by rw [z]; exact hj)⟩
def PostS (ca : Cs) (W : WX) (io : List Nat) (σ : L2.St) (F : Hp) (O : Own) (H : Hp) {α : Type} (m : M α) (C : α → L2.St → Hp → Own → Hp → Prop) : Prop := match m with
  | .ok a => ∀ σ' F' O' H', Fx io σ σ' → Stp 0 F O H F' O' H' → C a σ' F' O' H'
  | .ex c d => ∀ dx v n σ' F' O' H', Fx io σ σ' → Stp 0 F O H F' O' H' → Bs F' O' H' → H' dx = some (.xd [(n, v)]) → Rep ca F' d v → W (.ref (ca.ad c)) (some dx) σ' H'
  | .no => False
section
variable {ca : Cs} {W : WX} {io : List Nat} {σ : L2.St} {F : Hp} {O : Own} {H : Hp} {α β : Type} {m : M α} {f : α → M β}
theorem PostS.bind {C : β → L2.St → Hp → Own → Hp → Prop} (h : PostS ca W io σ F O H (m.bind f) C) : PostS ca W io σ F O H m fun a σ1 F1 O1 H1 => PostS ca W io σ1 F1 O1 H1 (f a) C := by
  cases m with
  | ok a =>
    intro σ1 F1 O1 H1 fx st
    have h2 : PostS ca W io σ F O H (f a) C := h
    cases e : f a with
    | ok b =>
      rw [e] at h2
      exact fun σ2 F2 O2 H2 fx2 st2 => h2 σ2 F2 O2 H2 (fx.trans fx2) (st.trans st2)
    | ex c d =>
      rw [e] at h2
      exact fun dx v n σ2 F2 O2 H2 fx2 st2 => h2 dx v n σ2 F2 O2 H2 (fx.trans fx2) (st.trans st2)
    | no =>
      rw [e] at h2
      exact h2
  | ex c d => exact h
  | no => exact h
theorem PostS.imp {C C' : α → L2.St → Hp → Own → Hp → Prop} (h : PostS ca W io σ F O H m C) (i : ∀ a σ' F' O' H', Fx io σ σ' → Stp 0 F O H F' O' H' → C a σ' F' O' H' → C' a σ' F' O' H') : PostS ca W io σ F O H m C' := by
  cases m with
  | ok a => exact fun σ1 F1 O1 H1 fx st => i a σ1 F1 O1 H1 fx st (h σ1 F1 O1 H1 fx st)
  | ex c d => exact h
  | no => exact h
theorem PostS.here {C : α → L2.St → Hp → Own → Hp → Prop} {a : α} (h : PostS ca W io σ F O H (.ok a) C) : C a σ F O H := h σ F O H (.refl _ _) (.refl _ _ _ _)
theorem PostS.at {C : α → L2.St → Hp → Own → Hp → Prop} {σ' : L2.St} {F' H' : Hp} {O' : Own} (h : PostS ca W io σ F O H m C) (fx : Fx io σ σ') (st : Stp 0 F O H F' O' H') : PostS ca W io σ' F' O' H' m C :=
  (PostS.bind (m := .ok ()) (f := fun _ => m) h) _ _ _ _ fx st
/-- an expression's outcome, then a statement's -/
theorem PostS.g {C : α → L2.St → Hp → Own → Hp → Prop} (h : PostS ca W io σ F O H m C) : PostG ca W σ 0 F O H m fun a F' O' H' => C a σ F' O' H' := by
  cases m with
  | ok a => exact fun F1 O1 H1 st => h σ F1 O1 H1 (.refl _ _) st
  | ex c d => exact fun dx v n F1 O1 H1 st => h dx v n σ F1 O1 H1 (.refl _ _) st
  | no => exact h
end
def Dn (ca : Cs) (D : Ends) : Out → L2.St → Hp → Own → Hp → Prop := fun o σ F O H => match o with
  | .nx e => AE ca F O e σ H → Below O 0 → D.nx σ H
  | .bk e => AE ca F O e σ H → Below O 0 → D.bk σ H
  | .ct e => AE ca F O e σ H → Below O 0 → D.ct σ H
  | .rt r e => ∀ v, AE ca F O e σ H → RepR ca F H O (.t 0) r v → Below O 1 → D.rt v H
/-- a statement's reading -/
def tS (ca : Cs) (Φ : FT) (W : WX) (io : List Nat) (s : S) : TS := fun D σ H => ∃ F O env, AE ca F O env σ H ∧ Below O 0 ∧ PostS ca W io σ F O H (ex Φ s env) (Dn ca D)
section
variable {X : Cx} {ca : Cs} {Φ : FT} {gs : GX} {W : WX} {io : List Nat} {st : Stmt} {sts : List Stmt}
theorem psImp {t t' : TS} (h : PS X st t) (i : ∀ D σ H, σ.length = X.N.length → t' D σ H → t D σ H) : PS X st t' := ⟨fun pins s σ H D I q => h.run pins s σ H D I (i D σ H I.len q)⟩
theorem pssImp {t t' : TS} (h : PSs X sts t) (i : ∀ D σ H, σ.length = X.N.length → t' D σ H → t D σ H) : PSs X sts t' := ⟨fun pins s σ H D I q => h.run pins s σ H D I (i D σ H I.len q)⟩
theorem st_nil : PSs X [] (tS ca Φ W io .nil) := pssImp pss_nil fun D σ H _ q => by
  obtain ⟨F, O, env, ae, bl, p⟩ := q
  exact PostS.here (a := Out.nx env) p ae bl
theorem st_seq {s r : S} (h1 : PS X st (tS ca Φ W io s)) (h2 : PSs X sts (tS ca Φ W io r)) : PSs X (st :: sts) (tS ca Φ W io (.seq s r)) := pssImp (pss_cons h1 h2) fun D σ H _ q => by
  obtain ⟨F, O, env, ae, bl, p⟩ := q
  refine ⟨F, O, env, ae, bl, ?_⟩
  have p' : PostS ca W io σ F O H ((ex Φ s env).bind fun
    | .nx e => ex Φ r e
    | o => .ok o) (Dn ca D) := p
  refine p'.bind.imp fun o σ1 F1 O1 H1 fx st p1 => ?_
  cases o with
  | nx e => exact fun ae1 bl1 => ⟨F1, O1, e, ae1, bl1, p1⟩
  | bk e => exact (show PostS ca W io σ1 F1 O1 H1 (.ok (Out.bk e)) (Dn ca D) from p1).here
  | ct e => exact (show PostS ca W io σ1 F1 O1 H1 (.ok (Out.ct e)) (Dn ca D) from p1).here
  | rt v e => exact (show PostS ca W io σ1 F1 O1 H1 (.ok (Out.rt v e)) (Dn ca D) from p1).here
theorem st_dead : PSs X sts (tS ca Φ W io .dead) := pssImp pss_never fun D σ H _ q => by
  obtain ⟨F, O, env, ae, bl, p⟩ := q
  exact p
theorem st_dead1 : PS X st (tS ca Φ W io .dead) := psImp ps_never fun D σ H _ q => by
  obtain ⟨F, O, env, ae, bl, p⟩ := q
  exact p
theorem st_brk {pos : Pos} : PS X (.Break pos) (tS ca Φ W io .brk) := psImp ps_break fun D σ H _ q => by
  obtain ⟨F, O, env, ae, bl, p⟩ := q
  exact PostS.here (a := Out.bk env) p ae bl
theorem st_cont {pos : Pos} : PS X (.Continue pos) (tS ca Φ W io .cont) := psImp ps_continue fun D σ H _ q => by
  obtain ⟨F, O, env, ae, bl, p⟩ := q
  exact PostS.here (a := Out.ct env) p ae bl
theorem st_ret0 {pos : Pos} : PS X (.Return none pos) (tS ca Φ W io .ret0) := psImp ps_retN fun D σ H _ q => by
  obtain ⟨F, O, env, ae, bl, p⟩ := q
  exact PostS.here (a := Out.rt (.sh .non) env) p .non ae (by show Rep ca F .non .non; unfold Rep; rfl) (below_bl bl)
/-- frozen temporaries -/
theorem AE.tz0 {F : Hp} {O : Own} {H : Hp} {env : En} {σ : L2.St} {k : Nat} (ae : AE ca F O env σ H) : AE ca (mF (aTz 0) O F H) (mO (aTz 0) O) env σ H ∧ Below (mO (aTz 0) O) 0 ∧ Stp 0 F O H (mF (aTz 0) O F H) (mO (aTz 0) O) H :=
  ⟨ae.mapS _ fun _ _ => rfl, below_tz, ae.bs.stp (aTz_low 0)⟩
/-- swapsWith: nothing for what is no comprehension -/
theorem swaps_no {e : Expr} {t : Option Expr} {n : Nat} {env : Env} (hp : plain e = true) (hl : ∀ a b c d, e ≠ .ListComp a b c d) : swapsWith e t n env = pure false := by
  cases e <;> first
    | rfl
    | exact absurd rfl (hl _ _ _ _)
    | (unfold plain at hp; cases hp; done)
theorem st_expr {e : T} {x : Expr} {pos : Pos} (h : PE X x (tE ca Φ W e)) (hp : plain x = true) (hl : ∀ a b c d, x ≠ .ListComp a b c d) : PS X (.Expr x pos) (tS ca Φ W io (.expr e)) := psImp (ps_expr h (swaps_no hp hl)) fun D σ H _ q => by
  obtain ⟨F, O, env, ae, bl, p⟩ := q
  have p' : PostS ca W io σ F O H ((one1 (ev Φ e env)).bind fun a => .ok (Out.nx a.2)) (Dn ca D) := p
  refine ⟨F, O, env, 0, ae, bl, p'.bind.g.imp fun a F1 O1 H1 st p1 v ae1 rv bl1 => ?_⟩
  obtain ⟨a1, a2, a3⟩ := AE.tz0 (k := 0) ae1
  exact (p1.at (.refl _ _) a3).here a1 a2
theorem st_ret {e : T} {x : Expr} {pos : Pos} (h : PE X x (tE ca Φ W e)) : PS X (.Return (some x) pos) (tS ca Φ W io (.ret e)) := psImp (ps_ret h) fun D σ H _ q => by
  obtain ⟨F, O, env, ae, bl, p⟩ := q
  have p' : PostS ca W io σ F O H ((one1 (ev Φ e env)).bind fun a => .ok (Out.rt a.1 a.2)) (Dn ca D) := p
  exact ⟨F, O, env, 0, ae, bl, p'.bind.g.imp fun a F1 O1 H1 st p1 v ae1 rv bl1 => p1.here v ae1 rv bl1⟩
theorem st_if {c : T} {a b : S} {x : Expr} {ys zs : List Stmt} {pos : Pos} (h : PT X x (tT ca Φ W c)) (h1 : PSs X ys (tS ca Φ W io a)) (h2 : PSs X zs (tS ca Φ W io b)) : PS X (.If x ys zs pos) (tS ca Φ W io (.ifs c a b)) := psImp (ps_if h h1 h2) fun D σ H _ q => by
  obtain ⟨F, O, env, ae, bl, p⟩ := q
  have p' : PostS ca W io σ F O H ((evB Φ c env).bind fun t => if t.1 then ex Φ a t.2 else ex Φ b t.2) (Dn ca D) := by
    have e2 : (one1 (ev Φ c env)).bind (fun r => (asB r.1).bind fun t => if t then ex Φ a r.2 else ex Φ b r.2) = (evB Φ c env).bind fun t => if t.1 then ex Φ a t.2 else ex Φ b t.2 := by
      unfold evB
      rw [M.bind_assoc]
      congr 1; funext r
      rw [M.bind_assoc] <;> rfl
    rw [← e2]
    exact p
  refine ⟨F, O, env, 0, ae, bl, p'.bind.g.imp fun t F1 O1 H1 st p1 ae1 bl1 => ?_⟩
  obtain ⟨t, env1⟩ := t
  cases t with
  | true => exact ⟨F1, O1, env1, ae1, bl1, p1⟩
  | false => exact ⟨F1, O1, env1, ae1, bl1, p1⟩
/-- the slot i takes the temporary k -/
def aSt (i k : Nat) : Act := fun l => match l with
  | .s j c => if j = i then some none else some (some (.s j c))
  | .t j c => if j = k then some (some (.s i c)) else some (some (.t j c))
theorem aSt_ne (i k : Nat) (l : Lab) : aSt i k l ≠ none := by
  cases l with
  | s j c => unfold aSt; simp only; split <;> exact fun h => nomatch h
  | t j c => unfold aSt; simp only; split <;> exact fun h => nomatch h
theorem aSt_low (i k : Nat) : Low k (aSt i k) := fun j c h => if_neg (by omega)
theorem AE.take {F : Hp} {O : Own} {H : Hp} {env : En} {σ : L2.St} {i k : Nat} {r : R} {v : V} (ae : AE ca F O env σ H) (rv : RepR ca F H O (.t k) r v) (hi : i < σ.length) (bl : Below O (k + 1)) :
    AE ca F (mO (aSt i k) O) (env.set i (some r)) (σ.set i (some v)) H ∧ Stp k F O H F (mO (aSt i k) O) H ∧ Below (mO (aSt i k) O) k := by
  have e : mF (aSt i k) O F H = F := mF_same (aSt_ne i k)
  have b := ae.bs.map (aSt i k)
  have s := ae.bs.stp (aSt_low i k)
  rw [e] at b s
  refine ⟨b.ae fun j q h => ?_, s, fun a j c z => ?_⟩
  · rcases set_slot h with ⟨rfl, h1⟩ | ⟨ne, h1⟩
    · cases h1
      have := rv.map (φ := aSt j k) (L' := Lab.s j) ae.bs fun c => if_pos rfl
      rw [e] at this
      exact ⟨v, List.getElem?_set_self hi, this⟩
    · obtain ⟨w, w1, w2⟩ := ae.slot j q h1
      have := w2.map (φ := aSt i k) (L' := Lab.s j) ae.bs fun c => if_neg ne
      rw [e] at this
      exact ⟨w, by rw [List.getElem?_set_ne (Ne.symm ne)]; exact w1, this⟩
  · obtain ⟨l, l1, l2⟩ := mO_inv z
    cases l with
    | s j' c' =>
      unfold aSt at l2
      simp only at l2
      split at l2 <;> cases l2
    | t j' c' =>
      unfold aSt at l2
      simp only at l2
      split at l2
      · cases l2
      · cases l2
        have := bl a j c l1
        omega
theorem st_asgR {e : T} {i : Nat} {D : Ends} {σ : L2.St} {H : Hp} (hi : i < σ.length) (hio : i ∉ io) (q : tS ca Φ W io (.asg i e) D σ H) : tAsg (tE ca Φ W e) (gName i) D σ H := by
  obtain ⟨F, O, env, ae, bl, p⟩ := q
  have p' : PostS ca W io σ F O H ((one1 (ev Φ e env)).bind fun a => .ok (Out.nx (a.2.set i (some a.1)))) (Dn ca D) := p
  refine ⟨F, O, env, 0, ae, bl, p'.bind.g.imp fun a F1 O1 H1 st p1 v ae1 rv bl1 => ?_⟩
  obtain ⟨a1, a2, a3⟩ := ae1.take rv hi bl1
  exact (p1.at (Fx.set hio) a2).here a1 a3
theorem st_asg (G : Good X ca Φ gs W) {e : T} {i : Nat} {y : Str} {x : Expr} {p pos : Pos} (hn : locN (cOf X gs) i y = true) (hio : i ∉ io) (h : PE X x (tE ca Φ W e)) (hp : plain x = true) (hl : ∀ a b c d, x ≠ .ListComp a b c d) : PS X (.Assign [.Name y p] x pos) (tS ca Φ W io (.asg i e)) := by
  obtain ⟨n1, n2, n3⟩ := locN_ok hn
  exact psImp (ps_set G.nd n1 n2 h (swaps_no hp hl) n3) fun D σ H hσ q => st_asgR (by rw [hσ]; exact (List.getElem?_eq_some_iff.mp n1).1) hio q
/-- a comprehension stored in a name that a comprehension holds -/
theorem swaps_cell {y : Str} {e : Expr} {n : Nat} {p : Pos} {env : Env} (hc : env.scope.names.lookup y = some .cell) : swapsWith e (some (.Name y p)) n env = pure false := by
  have hk : env.kindOf y = some .cell := hc
  have e1 : (some NameKind.cell == some NameKind.local) = false := rfl
  cases e <;> first
    | rfl
    | (simp [swapsWith, hk, e1]; done)
theorem st_asgC (G : Good X ca Φ gs W) {e : T} {i : Nat} {y : Str} {x : Expr} {p pos : Pos} (hn : locN (cOf X gs) i y = true) (hio : i ∉ io) (h : PE X x (tE ca Φ W e)) (hc : X.env.scope.names.lookup y = some .cell) : PS X (.Assign [.Name y p] x pos) (tS ca Φ W io (.asg i e)) := by
  obtain ⟨n1, n2, n3⟩ := locN_ok hn
  exact psImp (ps_set G.nd n1 n2 h (swaps_cell hc) n3) fun D σ H hσ q => st_asgR (by rw [hσ]; exact (List.getElem?_eq_some_iff.mp n1).1) hio q
end
end FH
set_option Elab.async false
set_option linter.all false
set_option maxRecDepth 100000
set_option maxHeartbeats 2000000
namespace FH
open PySem PySem.Spec PyProof.Rows L2
section
variable {X : Cx} {ca : Cs} {Φ : FT} {gs : GX} {W : WX} {io : List Nat} {st : Stmt} {sts : List Stmt}
/-- the heap behind an item -/
theorem item_at {F F2 H H' : Hp} {O : Own} {env : En} {σ : L2.St} (ae : AE ca F O env σ H) (s1 : Sub F F2) (s2 : Sub F2 H') (s3 : Sub H H') (s4 : ∀ a o, F2 a = some o → F a = some o ∨ H a = none) : AE ca F2 O env σ H' ∧ ∀ j, Stp j F O H F2 O H' := by
  have b3 : Bs F2 O H' := by
    refine ⟨s2, fun a' l e => ?_, fun a' l e => ?_⟩
    · cases q : F2 a' with
      | none => rfl
      | some o =>
        rcases s4 a' o q with z | z
        · rw [ae.dis a' l e] at z; cases z
        · obtain ⟨o', y⟩ := ae.own a' l e
          rw [z] at y; cases y
    · obtain ⟨o, y⟩ := ae.own a' l e
      exact ⟨o, s3 _ _ y⟩
  refine ⟨ae.grow b3 s1 s3 fun _ _ z => z, fun j => ⟨s1, fun a' o e _ => s3 _ _ e, fun _ _ _ _ => rfl, fun a' o e pk n => ?_, fun a' o e => ⟨o, s3 _ _ e⟩⟩⟩
  cases q : F2 a' with
  | none => rfl
  | some u =>
    rcases s4 a' u q with z | z
    · rw [n] at z; cases z
    · rw [e] at z; cases z
theorem for_read {K : PySem.W.Frag} {tg : Tg} {src : T} {body : S} {D : Ends} {σ : L2.St} {H : Hp} (hs : ∀ i, i ∈ tgSlots tg → i < σ.length ∧ i ∉ io) (q : tS ca Φ W io (.for tg src body) D σ H) : tFor (tI ca Φ W src) (gTg K tg) (tS ca Φ W io body) D σ H := by
  obtain ⟨F, O, env, ae, bl, p⟩ := q
  have p' : PostS ca W io σ F O H ((one1 (ev Φ src env)).bind fun a => match a.1 with
    | .sh (.lst _ xs) => exL (fun x env => (setT tg x env).bind fun env => ex Φ body env) xs a.2
    | _ => .no) (Dn ca D) := p
  refine ⟨F, O, env, 0, ae, bl, p'.bind.g.imp fun a F1 O1 H1 st1 p1 ae1 bl1 t xs er J hJ => ?_⟩
  rw [er] at p1
  have p2 : PostS ca W io σ F1 O1 H1 (exL (fun x env => (setT tg x env).bind fun env => ex Φ body env) xs a.2) (Dn ca D) := p1
  refine ⟨fun i m σ' H' => ∃ F O env, AE ca F O env σ' H' ∧ Below O 0 ∧ i ≤ xs.length ∧ m = xs.length - i ∧ Sub F1 F ∧ σ'.length = σ.length ∧ PostS ca W io σ' F O H' (exL (fun x env => (setT tg x env).bind fun env => ex Φ body env) (xs.drop i) env) (Dn ca D),
    ⟨xs.length, F1, O1, a.2, ae1, bl1, Nat.zero_le _, rfl, .refl _, rfl, by rw [List.drop_zero]; exact p2⟩, ?_⟩
  rintro i m σ2 H2 ⟨F2, O2, env2, ae2, bl2, hi, hm, sF, hσ, p3⟩
  by_cases hlt : i < xs.length
  · refine .inr ?_
    have hx : xs[i]? = some xs[i] := List.getElem?_eq_getElem hlt
    obtain ⟨go, yl⟩ := (hJ i F2 H2 sF ae2.sub).1 _ hx
    refine ⟨go, fun σ' H' => ∃ F O env, AE ca F O env σ' H' ∧ Below O 0 ∧ Sub F1 F ∧ σ'.length = σ.length ∧ PostS ca W io σ' F O H' (exL (fun x env => (setT tg x env).bind fun env => ex Φ body env) (xs.drop (i + 1)) env) (Dn ca D), ?_, ?_⟩
    · rintro σ' H' ⟨F3, O3, env3, h1, h2, h3, h4, h5⟩
      exact ⟨xs.length - (i + 1), by omega, F3, O3, env3, h1, h2, by omega, rfl, h3, h4, h5⟩
    · intro x H' hy
      obtain ⟨F3, s1, s2, s3, s4, rx⟩ := yl x H' hy
      obtain ⟨ae3, st3⟩ := item_at ae2 s1 s2 s3 s4
      rw [List.drop_eq_getElem_cons hlt] at p3
      have p4 : PostS ca W io σ2 F2 O2 H2 (((setT tg xs[i] env2).bind fun env => ex Φ body env).bind fun
        | .nx e => exL (fun x env => (setT tg x env).bind fun env => ex Φ body env) (xs.drop (i + 1)) e
        | .ct e => exL (fun x env => (setT tg x env).bind fun env => ex Φ body env) (xs.drop (i + 1)) e
        | .bk e => .ok (.nx e)
        | .rt r e => .ok (.rt r e)) (Dn ca D) := p3
      rw [M.bind_assoc] at p4
      cases es : setT tg xs[i] env2 with
      | no => rw [es] at p4; exact p4.elim
      | ex c d => exact absurd es setT_ex
      | ok env3 =>
        rw [es] at p4
        refine setT_go es ae3 rx (fun j hj => by rw [hσ]; exact (hs j hj).1) fun σ' u1 u2 ae4 => ?_
        have fx : Fx io σ2 σ' := ⟨u2, fun j hj => u1 j fun z => (hs j z).2 hj⟩
        refine ⟨F3, O2, env3, ae4, bl2, ?_⟩
        have p5 : PostS ca W io σ2 F2 O2 H2 ((ex Φ body env3).bind fun
          | .nx e => exL (fun x env => (setT tg x env).bind fun env => ex Φ body env) (xs.drop (i + 1)) e
          | .ct e => exL (fun x env => (setT tg x env).bind fun env => ex Φ body env) (xs.drop (i + 1)) e
          | .bk e => .ok (.nx e)
          | .rt r e => .ok (.rt r e)) (Dn ca D) := p4
        refine (p5.at fx (st3 0)).bind.imp fun o σ5 F5 O5 H5 fx5 st5 p6 => ?_
        have l5 : σ5.length = σ.length := (fx5.1.trans u2).trans hσ
        have s5 : Sub F1 F5 := (sF.trans s1).trans st5.ext
        cases o with
        | nx e => exact fun ae5 bl5 => ⟨F5, O5, e, ae5, bl5, s5, l5, p6⟩
        | ct e => exact fun ae5 bl5 => ⟨F5, O5, e, ae5, bl5, s5, l5, p6⟩
        | bk e => exact (show PostS ca W io σ5 F5 O5 H5 (.ok (Out.nx e)) (Dn ca D) from p6).here
        | rt r e => exact (show PostS ca W io σ5 F5 O5 H5 (.ok (Out.rt r e)) (Dn ca D) from p6).here
  · refine .inl ⟨(hJ i F2 H2 sF ae2.sub).2 (by omega), ?_⟩
    rw [List.drop_eq_nil_of_le (by omega)] at p3
    exact (show PostS ca W io σ2 F2 O2 H2 (.ok (Out.nx env2)) (Dn ca D) from p3).here ae2 bl2
theorem while_read {n : Nat} {c : T} {body : S} {D : Ends} {σ : L2.St} {H : Hp} (q : tS ca Φ W io (.while n c body) D σ H) : tWhile (tT ca Φ W c) (tS ca Φ W io body) D σ H := by
  obtain ⟨F, O, env, ae, bl, p⟩ := q
  have p' : PostS ca W io σ F O H (exW (evB Φ c) (ex Φ body) n env) (Dn ca D) := p
  refine ⟨fun m σ H => ∃ F O env, AE ca F O env σ H ∧ Below O 0 ∧ PostS ca W io σ F O H (exW (evB Φ c) (ex Φ body) m env) (Dn ca D), ⟨n, F, O, env, ae, bl, p'⟩, ?_⟩
  rintro m σ H ⟨F, O, env, ae, bl, p⟩
  cases m with
  | zero => exact p.elim
  | succ m =>
    have p1 : PostS ca W io σ F O H ((evB Φ c env).bind fun t => if t.1 then (ex Φ body t.2).bind fun
      | .nx e => exW (evB Φ c) (ex Φ body) m e
      | .ct e => exW (evB Φ c) (ex Φ body) m e
      | .bk e => .ok (.nx e)
      | .rt r e => .ok (.rt r e)
      else .ok (.nx t.2)) (Dn ca D) := p
    refine ⟨F, O, env, 0, ae, bl, p1.bind.g.imp fun t F1 O1 H1 st1 p2 ae1 bl1 => ?_⟩
    obtain ⟨t, env1⟩ := t
    cases t with
    | false =>
      rw [if_neg Bool.false_ne_true]
      exact (show PostS ca W io σ F1 O1 H1 (.ok (Out.nx env1)) (Dn ca D) from p2).here ae1 bl1
    | true =>
      rw [if_pos rfl]
      have p3 : PostS ca W io σ F1 O1 H1 ((ex Φ body env1).bind fun
        | .nx e => exW (evB Φ c) (ex Φ body) m e
        | .ct e => exW (evB Φ c) (ex Φ body) m e
        | .bk e => .ok (.nx e)
        | .rt r e => .ok (.rt r e)) (Dn ca D) := p2
      refine ⟨fun σ' H' => ∃ F O env, AE ca F O env σ' H' ∧ Below O 0 ∧ PostS ca W io σ' F O H' (exW (evB Φ c) (ex Φ body) m env) (Dn ca D), fun σ' H' w => ⟨m, Nat.lt_succ_self m, w⟩, F1, O1, env1, ae1, bl1, ?_⟩
      refine p3.bind.imp fun o σ5 F5 O5 H5 fx5 st5 p6 => ?_
      cases o with
      | nx e => exact fun ae5 bl5 => ⟨F5, O5, e, ae5, bl5, p6⟩
      | ct e => exact fun ae5 bl5 => ⟨F5, O5, e, ae5, bl5, p6⟩
      | bk e => exact (show PostS ca W io σ5 F5 O5 H5 (.ok (Out.nx e)) (Dn ca D) from p6).here
      | rt r e => exact (show PostS ca W io σ5 F5 O5 H5 (.ok (Out.rt r e)) (Dn ca D) from p6).here
/-! ### stores of pairs -/
def aCp (i c : Nat) : Act := fun l => match l with
  | .s j e => if j = i then some none else some (some (.s j e))
  | .t j e => if e = c then some (some (.s i 0)) else some (some (.t j e))
theorem aCp_ne (i c : Nat) (l : Lab) : aCp i c l ≠ none := by
  cases l with
  | s j e => unfold aCp; simp only; split <;> exact fun h => nomatch h
  | t j e => unfold aCp; simp only; split <;> exact fun h => nomatch h
theorem repC_map {φ : Act} {F H : Hp} {O : Own} {L L' : Nat → Lab} (b : Bs F O H) : ∀ {cs : List (Bool × FH.D)} {c : Nat} {vs : List V}, (∀ j, c ≤ j → φ (L j) = some (some (L' j))) → RepC ca F H O L c cs vs → RepC ca (mF φ O F H) H (mO φ O) L' c cs vs
  | [], c, vs, e, h => by unfold RepC at h ⊢; exact h
  | (true, d) :: r, c, vs, e, h => by
    unfold RepC at h ⊢
    obtain ⟨v, w, h1, h2, h3⟩ := h
    exact ⟨v, w, h1, h2.map b (e c (Nat.le_refl _)), repC_map b (fun j hj => e j (by omega)) h3⟩
  | (false, d) :: r, c, vs, e, h => by
    unfold RepC at h ⊢
    obtain ⟨v, w, h1, h2, h3⟩ := h
    exact ⟨v, w, h1, Rep.mono (b.mapSub φ) _ _ h2, repC_map b (fun j hj => e j (by omega)) h3⟩
def toR (p : Bool × FH.D) : R := if p.1 then .ow p.2 else .sh p.2
theorem setC_go {F H : Hp} : ∀ {is : List Nat} {cs : List (Bool × FH.D)} {env env' : En} {vs : List V} {σ : L2.St} {O : Own} {c : Nat} {Q : L2.St → Hp → Prop}, setRs is (cs.map toR) env = .ok env' → AE ca F O env σ H → RepC ca F H O (.t 0) c cs vs → Below O 1 → (∀ i, i ∈ is → i < σ.length) →
    (∀ σ' O', (∀ j, j ∉ is → σ'[j]? = σ[j]?) → σ'.length = σ.length → AE ca F O' env' σ' H → Stp 0 F O H F O' H → Below O' 1 → Q σ' H) → gNs is vs σ H Q ∧ vs.length = is.length
  | [], [], env, env', vs, σ, O, c, Q, e, ae, r, bl, hl, h => by
    have e' : (M.ok env : M En) = .ok env' := e
    cases e'
    unfold RepC at r
    exact ⟨⟨r, h σ O (fun _ _ => rfl) rfl ae (.refl _ _ _ _) bl⟩, by rw [r] <;> rfl⟩
  | i :: is, (b, d) :: cs, env, env', vs, σ, O, c, Q, e, ae, r, bl, hl, h => by
    have e' : setRs is (cs.map toR) (env.set i (some (toR (b, d)))) = .ok env' := e
    have key : ∃ v w, vs = v :: w ∧ RepR ca F H (mO (aCp i c) O) (.s i) (toR (b, d)) v ∧ RepC ca F H O (.t 0) (c + 1) cs w := by
      have eF : mF (aCp i c) O F H = F := mF_same (aCp_ne i c)
      cases b with
      | true =>
        unfold RepC at r
        obtain ⟨v, w, r1, r2, r3⟩ := r
        have := r2.map (φ := aCp i c) (l' := .s i 0) ae.bs (if_pos rfl)
        rw [eF] at this
        exact ⟨v, w, r1, this, r3⟩
      | false =>
        unfold RepC at r
        obtain ⟨v, w, r1, r2, r3⟩ := r
        exact ⟨v, w, r1, r2, r3⟩
    obtain ⟨v, w, rfl, r1, r2⟩ := key
    have eF : mF (aCp i c) O F H = F := mF_same (aCp_ne i c)
    have b1 := ae.bs.map (aCp i c)
    rw [eF] at b1
    have r3 := repC_map (φ := aCp i c) (L' := .t 0) ae.bs (fun j hj => by
      show (if j = c then _ else some (some (Lab.t 0 j))) = _
      rw [if_neg (by omega)]) r2
    rw [eF] at r3
    have s1 : Stp 0 F O H F (mO (aCp i c) O) H := by
      refine ⟨.refl _, fun _ _ e _ => e, fun a o e pk => ?_, fun _ _ _ _ n => n, fun a o e => ⟨o, e⟩⟩
      cases q : O a with
      | none => exact mO_none q
      | some l =>
        cases l with
        | s j x => exact absurd q (pk.1 j x)
        | t j x => exact absurd (pk.2 j x q) (Nat.not_lt_zero _)
    have ae1 : AE ca F (mO (aCp i c) O) (env.set i (some (toR (b, d)))) (σ.set i (some v)) H := b1.ae fun j q hq => by
      rcases set_slot hq with ⟨rfl, h1⟩ | ⟨ne, h1⟩
      · cases h1
        exact ⟨v, List.getElem?_set_self (hl j List.mem_cons_self), r1⟩
      · obtain ⟨u, w1, w2⟩ := ae.slot j q h1
        have := w2.map (φ := aCp i c) (L' := Lab.s j) ae.bs fun c => if_neg ne
        rw [eF] at this
        exact ⟨u, by rw [List.getElem?_set_ne (Ne.symm ne)]; exact w1, this⟩
    have bl1 : Below (mO (aCp i c) O) 1 := fun a j x z => by
      obtain ⟨l, l1, l2⟩ := mO_inv z
      cases l with
      | s j' c' =>
        unfold aCp at l2
        simp only at l2
        split at l2 <;> cases l2
      | t j' c' =>
        unfold aCp at l2
        simp only at l2
        split at l2
        · cases l2
        · cases l2; exact bl a j x l1
    have ih := setC_go (σ := σ.set i (some v)) (Q := Q) e' ae1 r3 bl1 (fun j hj => by rw [List.length_set]; exact hl j (List.mem_cons_of_mem _ hj)) fun σ' O' h1 h2 h3 h4 h5 => h σ' O' (fun j hj => by
      rw [h1 j fun z => hj (List.mem_cons_of_mem _ z)]
      exact List.getElem?_set_ne fun z => hj (by rw [z]; exact List.mem_cons_self)) (by rw [h2, List.length_set]) h3 (s1.trans h4) h5
    exact ⟨⟨v, w, rfl, ih.1⟩, by rw [List.length_cons, List.length_cons, ih.2]⟩
  | [], _ :: _, env, env', vs, σ, O, c, Q, e, ae, r, bl, hl, h => by
    have e' : (M.no : M En) = .ok env' := e
    cases e'
  | _ :: _, [], env, env', vs, σ, O, c, Q, e, ae, r, bl, hl, h => by
    have e' : (M.no : M En) = .ok env' := e
    cases e'
theorem repC_sh {F H : Hp} {O : Own} {L : Nat → Lab} : ∀ {ds : List FH.D} {vs : List V} {c : Nat}, Reps ca F ds vs → RepC ca F H O L c (ds.map fun d => (false, d)) vs
  | [], vs, c, h => by unfold Reps at h; unfold RepC; exact h
  | d :: ds, vs, c, h => by
    unfold Reps at h
    obtain ⟨v, w, rfl, h1, h2⟩ := h
    exact ⟨v, w, rfl, h1, repC_sh h2⟩
theorem unR_ok {r : R} {rs : List R} {F H : Hp} {O : Own} {v : V} (h : unR r = some rs) (rv : RepR ca F H O (.t 0) r v) : ∃ a cs vs, v = .ref a ∧ (F a = some (.tup vs) ∨ F a = some (.lst vs)) ∧ rs = cs.map toR ∧ RepC ca F H O (.t 0) 1 cs vs := by
  unfold unR at h
  split at h
  · rename_i ds
    cases h
    have rv' : Rep ca F (.tup ds) v := rv
    unfold Rep at rv'
    obtain ⟨a, vs, h1, h2, h3⟩ := rv'
    refine ⟨a, ds.map fun d => (false, d), vs, h1, .inl h2, ?_, repC_sh h3⟩
    rw [List.map_map] <;> rfl
  · rename_i t ds
    cases h
    have rv' : Rep ca F (.lst t ds) v := rv
    unfold Rep at rv'
    obtain ⟨a, vs, h1, h2, _, h3⟩ := rv'
    refine ⟨a, ds.map fun d => (false, d), vs, h1, .inr h2, ?_, repC_sh h3⟩
    rw [List.map_map] <;> rfl
  · rename_i cs
    cases h
    obtain ⟨a, vs, h1, h2, h3⟩ := rv
    exact ⟨a, cs, vs, h1, .inl h2, rfl, h3⟩
  · cases h
theorem setRs_ex {is : List Nat} {rs : List R} {env : En} {c : Str} {d : FH.D} : setRs is rs env ≠ .ex c d := by
  induction is generalizing rs env with
  | nil => cases rs <;> exact fun h => nomatch h
  | cons i is ih =>
    cases rs with
    | nil => exact fun h => nomatch h
    | cons r rs => exact ih
theorem unp_read {K : PySem.W.Frag} {is : List Nat} {e : T} {D : Ends} {σ : L2.St} {H : Hp} (hs : ∀ i, i ∈ is → i < σ.length ∧ i ∉ io) (q : tS ca Φ W io (.unp is e) D σ H) : tAsg (tE ca Φ W e) (gTg K (.tp is)) D σ H := by
  obtain ⟨F, O, env, ae, bl, p⟩ := q
  have p' : PostS ca W io σ F O H ((one1 (ev Φ e env)).bind fun a => match unR a.1 with
    | some rs => (setRs is rs a.2).bind fun env2 => .ok (Out.nx env2)
    | none => .no) (Dn ca D) := p
  refine ⟨F, O, env, 0, ae, bl, p'.bind.g.imp fun a F1 O1 H1 st1 p1 v ae1 rv bl1 => ?_⟩
  cases eu : unR a.1 with
  | none => rw [eu] at p1; exact p1.elim
  | some rs =>
    rw [eu] at p1
    obtain ⟨b, cs, vs, rfl, h1, rfl, h2⟩ := unR_ok eu rv
    have p2 : PostS ca W io σ F1 O1 H1 ((setRs is (cs.map toR) a.2).bind fun env2 => .ok (Out.nx env2)) (Dn ca D) := p1
    cases es : setRs is (cs.map toR) a.2 with
    | no => rw [es] at p2; exact p2.elim
    | ex c d => exact absurd es setRs_ex
    | ok env2 =>
      rw [es] at p2
      have go := setC_go (Q := D.nx) es ae1 h2 bl1 (fun i hi => (hs i hi).1) fun σ' O' u1 u2 u3 u4 u5 => by
        obtain ⟨a1, a2, a3⟩ := AE.tz0 (k := 0) u3
        exact ((show PostS ca W io σ F1 O1 H1 (.ok (Out.nx env2)) (Dn ca D) from p2).at ⟨u2, fun j hj => u1 j fun z => (hs j z).2 hj⟩ (u4.trans a3)).here a1 a2
      rcases h1 with h1 | h1
      · exact .inl ⟨b, vs, rfl, SqT.of (ae1.sub _ _ h1), go.2, go.1⟩
      · exact .inr ⟨b, vs, rfl, SqL.of (ae1.sub _ _ h1), go.2, go.1⟩
theorem par_read {ts : List TE} {xs : List Expr} {es : T} {i j : Nat} {D : Ends} {σ : L2.St} {H : Hp} (ar : ∀ σ H Q, (tA ca Φ W es σ H fun vs H' => Lnk (bkOf es) σ vs ∧ vs.length = xs.length → Q vs H') → seqT ts σ H Q) (hi : i < σ.length) (hj : j < σ.length) (h1 : i ∉ io) (h2 : j ∉ io) (hij : i ≠ j) (q : tS ca Φ W io (.par i j es) D σ H) :
    tPar i j (seqT ts) D σ H := by
  obtain ⟨F, O, env, ae, bl, p⟩ := q
  have p' : PostS ca W io σ F O H ((ev Φ es env).bind fun a => match a.1 with
    | [r, q] => .ok (Out.nx ((a.2.set i (some r)).set j (some q)))
    | _ => .no) (Dn ca D) := p
  refine ar _ _ _ ⟨F, O, env, 0, ae, bl, p'.bind.g.imp fun a F1 O1 H1 st1 p1 vs ae1 rvs bl1 z => ?_⟩
  obtain ⟨rs, env1⟩ := a
  match rs, rvs, p1, bl1 with
  | [r, q], rvs, p1, bl1 =>
    unfold RepRs at rvs
    obtain ⟨v, w1, rfl, r1, rvs⟩ := rvs
    unfold RepRs at rvs
    obtain ⟨w, w2, rfl, r2, rvs⟩ := rvs
    unfold RepRs at rvs
    subst rvs
    refine ⟨v, w, rfl, ?_⟩
    have eF : mF (aSt i 0) O1 F1 H1 = F1 := mF_same (aSt_ne i 0)
    have r2' : RepR ca F1 H1 (mO (aSt i 0) O1) (.t 1) q w := by
      have := r2.map (φ := aSt i 0) (L' := Lab.t 1) ae1.bs fun c => (show (if (0 + 1) = 0 then some (some (Lab.s i c)) else some (some (Lab.t (0 + 1) c))) = some (some (Lab.t 1 c)) from if_neg (by decide))
      rw [eF] at this
      exact this
    have b1 := ae1.bs.map (aSt i 0)
    have s1 := ae1.bs.stp (aSt_low i 0)
    rw [eF] at b1 s1
    have ae2 : AE ca F1 (mO (aSt i 0) O1) (env1.set i (some r)) (σ.set i (some v)) H1 := b1.ae fun n q' hq => by
      rcases set_slot hq with ⟨rfl, g1⟩ | ⟨ne, g1⟩
      · cases g1
        have := r1.map (φ := aSt n 0) (L' := Lab.s n) ae1.bs fun c => (show (if 0 = 0 then some (some (Lab.s n c)) else some (some (Lab.t 0 c))) = some (some (Lab.s n c)) from if_pos rfl)
        rw [eF] at this
        exact ⟨v, List.getElem?_set_self hi, this⟩
      · obtain ⟨u, w1, w2⟩ := ae1.slot n q' g1
        have := w2.map (φ := aSt i 0) (L' := Lab.s n) ae1.bs fun c => if_neg ne
        rw [eF] at this
        exact ⟨u, by rw [List.getElem?_set_ne (Ne.symm ne)]; exact w1, this⟩
    have bl2 : Below (mO (aSt i 0) O1) 2 := fun a n x z => by
      obtain ⟨l, l1, l2⟩ := mO_inv z
      cases l with
      | s j' c' =>
        unfold aSt at l2
        simp only at l2
        split at l2 <;> cases l2
      | t j' c' =>
        unfold aSt at l2
        simp only at l2
        split at l2
        · cases l2
        · cases l2; exact bl1 a n x l1
    obtain ⟨ae3, s3, bl3⟩ := ae2.take r2' (by rw [List.length_set]; exact hj) bl2
    obtain ⟨a1, a2, a3⟩ := AE.tz0 (k := 0) ae3
    have fx : Fx io σ ((σ.set i (some v)).set j (some w)) := (Fx.set h1).trans (Fx.set h2)
    exact ((show PostS ca W io σ F1 O1 H1 (.ok (Out.nx ((env1.set i (some r)).set j (some q)))) (Dn ca D) from p1).at fx ((s1.trans (s3.mono (Nat.zero_le _))).trans a3)).here a1 a2
  | [], _, p1, _ => exact p1.elim
  | [_], _, p1, _ => exact p1.elim
  | _ :: _ :: _ :: _, _, p1, _ => exact p1.elim
end
end FH
set_option Elab.async false
set_option linter.all false
set_option maxRecDepth 100000
set_option maxHeartbeats 2000000
namespace FH
open PySem PySem.Spec PyProof.Rows L2
section
variable {X : Cx} {ca : Cs} {Φ : FT} {gs : GX} {W : WX} {io : List Nat} {st : Stmt} {sts : List Stmt}
/-- the temporary k back to its slot, the others frozen -/
def aSx (i k : Nat) : Act := fun l => match l with
  | .s j c => if j = i then some none else some (some (.s j c))
  | .t j c => if j = k then some (some (.s i c)) else none
theorem aSx_low (i k : Nat) : Low 0 (aSx i k) := fun j c h => absurd h (Nat.not_lt_zero _)
theorem below_sx {O : Own} {i k : Nat} : Below (mO (aSx i k) O) 0 := fun a j c z => by
  obtain ⟨l, l1, l2⟩ := mO_inv z
  cases l with
  | s j' c' =>
    unfold aSx at l2
    simp only at l2
    split at l2 <;> cases l2
  | t j' c' =>
    unfold aSx at l2
    simp only at l2
    split at l2 <;> cases l2
theorem aSx_tk {i k c : Nat} : aSx i k (.t k c) = some (some (.s i c)) := if_pos rfl
theorem aSx_ne {i k j c : Nat} (h : j ≠ k) : aSx i k (.t j c) = none := if_neg h
theorem aSx_s {i k j c : Nat} (h : j ≠ i) : aSx i k (.s j c) = some (some (.s j c)) := if_neg h
/-- the slots but i, behind aSx -/
theorem AE.sx {F : Hp} {O : Own} {H : Hp} {env : En} {σ : L2.St} {i k : Nat} (ae : AE ca F O env σ H) (n : ∀ r, env[i]? ≠ some (some r)) : AE ca (mF (aSx i k) O F H) (mO (aSx i k) O) env σ H :=
  ae.map _ fun j r c e => aSx_s fun z => n r (by rw [← z]; exact e)
/-- a slot's root written -/
theorem AE.write {F : Hp} {O : Own} {H : Hp} {env : En} {σ : L2.St} {i : Nat} {p : Addr} {ho : HO} {r : R} (ae : AE ca F O env σ H) (n : ∀ r, env[i]? ≠ some (some r)) (hp : O p = some (.s i 0)) (hσ : σ[i]? = some (some (.ref p))) (hr : RepR ca F (upd H p ho) O (.s i) r (.ref p)) :
    AE ca F O (env.set i (some r)) σ (upd H p ho) ∧ Stp 0 F O H F O (upd H p ho) := by
  have fp : F p = none := ae.dis p _ hp
  refine ⟨⟨fun a o e => ?_, ae.dis, fun a l e => ?_, fun j q hq => ?_⟩, ⟨.refl _, fun a o e pk => ?_, fun _ _ _ _ => rfl, fun _ _ _ _ z => z, fun a o e => ?_⟩⟩
  · have hne : a ≠ p := fun h => by rw [h, fp] at e; cases e
    rw [upd_ne hne]; exact ae.sub a o e
  · by_cases h : a = p
    · rw [h]; exact ⟨_, upd_same⟩
    · rw [upd_ne h]; exact ae.own a l e
  · rcases set_slot hq with ⟨rfl, g⟩ | ⟨ne, g⟩
    · cases g
      exact ⟨_, hσ, hr⟩
    · obtain ⟨v, v1, v2⟩ := ae.slot j q g
      refine ⟨v, v1, v2.mono (.refl _) fun c a o e1 e2 => ⟨?_, e1⟩⟩
      have hne : a ≠ p := fun h => by rw [h, hp] at e1; cases e1; exact ne rfl
      rw [upd_ne hne]; exact e2
  · have hne : a ≠ p := fun h => by rw [h] at pk; exact pk.1 i 0 hp
    rw [upd_ne hne]; exact e
  · by_cases h : a = p
    · rw [h]; exact ⟨_, upd_same⟩
    · exact ⟨o, by rw [upd_ne h]; exact e⟩
theorem env_none {env : En} {i : Nat} {r : R} : (env.set i none)[i]? ≠ some (some r) := fun h => by
  rcases set_slot h with ⟨_, g⟩ | ⟨ne, _⟩
  · cases g
  · exact ne rfl
/-- the env keeps the slot empty: a set of a free slot -/
theorem set_none {env : En} {i : Nat} {r : R} (n : ∀ r, env[i]? ≠ some (some r)) : True := trivial
def tMv (ca : Cs) (Φ : FT) (W : WX) (i : Nat) : TE := fun σ H Q => tE ca Φ W (.mv i) σ H fun v H' => σ[i]? = some (some v) → Q v H'
theorem mv_e {i : Nat} {env : En} : one1 (ev Φ (.mv i) env) = (getS env i).bind fun r => .ok (r, env.set i none) := by
  have e0 : ev Φ (.mv i) env = (getS env i).bind fun r => .ok ([r], env.set i none) := rfl
  rw [e0, one1_bind] <;> rfl
/-- the slot's holder lent to a temporary -/
theorem mv_go {i k : Nat} {σ : L2.St} {F : Hp} {O : Own} {H : Hp} {env : En} {α : Type} {f : R → M α} {C : α → L2.St → Hp → Own → Hp → Prop} {Q : VK} (ae : AE ca F O env σ H) (bl : Below O k)
    (p : PostS ca W io σ F O H ((getS env i).bind f) C)
    (h : ∀ o v F1 O1 H1, AE ca F1 O1 (env.set i none) σ H1 → RepR ca F1 H1 O1 (.t k) o v → Below O1 (k + 1) → Stp k F O H F1 O1 H1 → σ[i]? = some (some v) → PostS ca W io σ F1 O1 H1 (f o) C → Q v H1) : tMv ca Φ W i σ H Q := by
  rcases getS_cases env i with ⟨r, e1, e2⟩ | e2
  · rw [e2] at p
    refine ⟨F, O, env, k, ae, bl, ?_⟩
    rw [mv_e, e2]
    intro F1 O1 H1 st v ae1 rv bl1 hσ
    exact h r v F1 O1 H1 ae1 rv bl1 st hσ ((show PostS ca W io σ F O H (f r) C from p).at (.refl _ _) (st.mono (Nat.zero_le _)))
  · rw [e2] at p
    exact p.elim
theorem AE.drop {F : Hp} {O : Own} {H : Hp} {env : En} {σ : L2.St} {i : Nat} (ae : AE ca F O env σ H) : AE ca F O (env.set i none) σ H := ae.bs.ae fun j q h => by
  rcases set_slot h with ⟨_, g⟩ | ⟨_, g⟩
  · cases g
  · exact ae.slot j q g
theorem lim_s {n : Nat} (h : n ≤ LIM) : n < sizeLine := Nat.lt_of_le_of_lt h lim_lt
/-- the end of a store: the root at the temporary k goes back to slot i, written -/
theorem back_go {i k : Nat} {σ : L2.St} {F : Hp} {O : Own} {H : Hp} {env : En} {r : R} {p : Addr} {ho : HO} {D : Ends} (ae : AE ca F O env σ H) (op : O p = some (.t k 0)) (hσ : σ[i]? = some (some (.ref p)))
    (q : PostS ca W io σ F O H (.ok (Out.nx (env.set i (some r)))) (Dn ca D)) (hr : RepR ca (mF (aSx i k) O F H) (upd H p ho) (mO (aSx i k) O) (.s i) r (.ref p)) : D.nx σ (upd H p ho) := by
  have ae1 := (ae.drop (i := i)).sx (k := k) fun r => env_none
  have s1 := ae.bs.stp (aSx_low i k)
  have op1 : mO (aSx i k) O p = some (.s i 0) := mO_some op aSx_tk
  obtain ⟨ae2, s2⟩ := ae1.write (fun r => env_none) op1 hσ hr
  rw [List.set_set] at ae2
  exact (q.at (.refl _ _) (s1.trans s2)).here ae2 below_sx
/-! ### append, extend -/
theorem app_read {i : Nat} {e : T} {D : Ends} {σ : L2.St} {H : Hp} {K : PySem.W.Frag} (q : tS ca Φ W io (.app i e) D σ H) : tDrop (tBM K "list" rAppend (tMv ca Φ W i) (tCons (tE ca Φ W e) tNil)) D σ H := by
  obtain ⟨F, O, env, ae, bl, p⟩ := q
  have p' : PostS ca W io σ F O H ((getS env i).bind fun o => match o with
    | .ow (.lst t xs) => (one1 (ev Φ e (env.set i none))).bind fun a => if xs.length ≤ LIM then .ok (Out.nx (a.2.set i (some (.ow (.lst t (xs ++ [a.1.d])))))) else .no
    | _ => .no) (Dn ca D) := p
  refine mv_go ae bl p' fun o v F1 O1 H1 ae1 rv bl1 st1 hσ p1 => ?_
  cases o with
  | ow d =>
    cases d with
    | lst t xs =>
      obtain ⟨l, vs, rfl, g1, g2, g3, g4⟩ := rv
      refine ⟨.inl ⟨rfl, vs, SqL.of g1⟩, ?_⟩
      have p2 : PostS ca W io σ F1 O1 H1 ((one1 (ev Φ e (env.set i none))).bind fun a => if xs.length ≤ LIM then .ok (Out.nx (a.2.set i (some (.ow (.lst t (xs ++ [a.1.d])))))) else .no) (Dn ca D) := p1
      refine ⟨F1, O1, env.set i none, 1, ae1, bl1, (p2.bind.g.lift (Nat.zero_le 1)).imp fun a F2 O2 H2 st2 p3 y ae2 ry bl2 => ?_⟩
      have pk : Pk 1 O1 l := ⟨fun j c z => (by rw [g2] at z; cases z), fun j c z => (by rw [g2] at z; cases z; exact Nat.lt_succ_self _)⟩
      have hl2 : H2 l = some (.lst vs) := st2.keep l _ g1 pk
      have ol2 : O2 l = some (.t 0 0) := (st2.lab l _ g1 pk).trans g2
      split at p3
      case isFalse => exact p3.elim
      rename_i hlen
      refine ⟨l, vs, y, rfl, rfl, hl2, by rw [g4.length]; exact lim_s hlen, ?_⟩
      have sb := ae2.bs.mapSub (aSx i 0)
      have ry' : Rep ca (mF (aSx i 0) O2 F2 H2) a.1.d y := ry.frz (φ := aSx i 0) ae2.bs fun c => aSx_ne (by decide)
      exact back_go ae2 ol2 hσ p3 ⟨l, _, rfl, upd_same, mO_some ol2 aSx_tk, g3, (Reps.mono (st2.ext.trans sb) _ _ g4).append (.cons ry' .nil)⟩
    | _ => exact p1.elim
  | _ => exact p1.elim
theorem ext_read {i : Nat} {e : T} {D : Ends} {σ : L2.St} {H : Hp} {K : PySem.W.Frag} (q : tS ca Φ W io (.ext i e) D σ H) : tDrop (tBM K "list" rExtend (tMv ca Φ W i) (tCons (tE ca Φ W e) tNil)) D σ H := by
  obtain ⟨F, O, env, ae, bl, p⟩ := q
  have p' : PostS ca W io σ F O H ((getS env i).bind fun o => match o with
    | .ow (.lst t xs) => (one1 (ev Φ e (env.set i none))).bind fun a => (match a.1.d with
      | .lst _ ys => if xs.length + ys.length ≤ LIM then .ok (Out.nx (a.2.set i (some (.ow (.lst t (xs ++ ys)))))) else .no
      | _ => .no)
    | _ => .no) (Dn ca D) := p
  refine mv_go ae bl p' fun o v F1 O1 H1 ae1 rv bl1 st1 hσ p1 => ?_
  cases o with
  | ow d =>
    cases d with
    | lst t xs =>
      obtain ⟨l, vs, rfl, g1, g2, g3, g4⟩ := rv
      refine ⟨.inl ⟨rfl, vs, SqL.of g1⟩, ?_⟩
      have p2 : PostS ca W io σ F1 O1 H1 ((one1 (ev Φ e (env.set i none))).bind fun a => (match a.1.d with
        | .lst _ ys => if xs.length + ys.length ≤ LIM then .ok (Out.nx (a.2.set i (some (.ow (.lst t (xs ++ ys)))))) else .no
        | _ => .no)) (Dn ca D) := p1
      refine ⟨F1, O1, env.set i none, 1, ae1, bl1, (p2.bind.g.lift (Nat.zero_le 1)).imp fun a F2 O2 H2 st2 p3 y ae2 ry bl2 => ?_⟩
      have pk : Pk 1 O1 l := ⟨fun j c z => (by rw [g2] at z; cases z), fun j c z => (by rw [g2] at z; cases z; exact Nat.lt_succ_self _)⟩
      have hl2 : H2 l = some (.lst vs) := st2.keep l _ g1 pk
      have ol2 : O2 l = some (.t 0 0) := (st2.lab l _ g1 pk).trans g2
      have sb := ae2.bs.mapSub (aSx i 0)
      have ry' : Rep ca (mF (aSx i 0) O2 F2 H2) a.1.d y := ry.frz (φ := aSx i 0) ae2.bs fun c => aSx_ne (by decide)
      have sH := (ae2.bs.map (aSx i 0)).sub
      cases ed : a.1.d with
      | lst t2 ys =>
        rw [ed] at p3 ry'
        have p4 : PostS ca W io σ F2 O2 H2 (if xs.length + ys.length ≤ LIM then .ok (Out.nx (a.2.set i (some (.ow (.lst t (xs ++ ys)))))) else .no) (Dn ca D) := p3
        split at p4
        case isFalse => exact p4.elim
        rename_i hlen
        unfold Rep at ry'
        obtain ⟨b, us, rfl, y1, _, y2⟩ := ry'
        refine ⟨l, b, vs, us, rfl, rfl, hl2, sH _ _ y1, by rw [g4.length, y2.length]; exact lim_of hlen, ?_⟩
        exact back_go ae2 ol2 hσ p4 ⟨l, _, rfl, upd_same, mO_some ol2 aSx_tk, g3, (Reps.mono (st2.ext.trans sb) _ _ g4).append y2⟩
      | _ => rw [ed] at p3; exact p3.elim
    | _ => exact p1.elim
  | _ => exact p1.elim
/-! ### remove -/
theorem eqk_str {y : Str} {u : Tok} : ∀ {us : List Value} {ns : List Str}, StrsAre us ns → ∀ v ∈ us, MeetsSeq.EqGives v (.str y u) (match v with
    | .str z _ => decide (z = y)
    | _ => false)
  | _, _, .nil => fun v hv => nomatch hv
  | _, _, .cons n t' h => fun v hv => by
    rcases List.mem_cons.mp hv with e | e
    · rw [e]
      have h1 : (n.cps.toList == y.cps.toList) = decide (n = y) := by
        rw [Bool.eq_iff_iff, beq_iff_eq, decide_eq_true_iff]
        constructor
        · intro h
          obtain ⟨⟨a⟩⟩ := n
          obtain ⟨⟨b⟩⟩ := y
          simp only at h
          rw [h]
        · intro h; rw [h]
      show MeetsSeq.EqGives (.str n t') (.str y u) (decide (n = y))
      rw [← h1]
      exact SeqRoads2.EqGives.str n y t' u
    · exact eqk_str h v e
def rRemS : V → List V → Hp → VK → Prop := fun x xs H Q => ∃ (l : Addr) (vs : List V) (ns : List Str) (y : Str) (j : Nat), x = .ref l ∧ xs = [.str y] ∧ H l = some (.lst vs) ∧ vs = ns.map V.str ∧ ns.findIdx? (fun s => decide (s = y)) = some j ∧ Q .non (upd H l (.lst (vs.eraseIdx j)))
theorem mt_remS : MtM X "list.remove" rRemS := by
  intro pins s σ H x xs v us Q I rx rxs h
  obtain ⟨l, vs, ns, y, j, rfl, rfl, hH, rfl, hj, q⟩ := h
  cases rx
  obtain ⟨u, rfl, ru⟩ := rxs.one
  obtain ⟨t, rfl⟩ := ru
  obtain ⟨z, its, n, r, hl, e⟩ := I.lstM hH
  have hi := r.strs
  rw [List.length_map] at hl z
  obtain ⟨hj1, hj2, hj3⟩ := List.findIdx?_eq_some_iff_getElem.mp hj
  have hjl : j < its.toArray.size := by rw [List.size_toArray]; omega
  have at1 : ∀ (m : Nat) (hm : m < ns.length) (hm' : m < its.toArray.size), ∃ t', its.toArray[m] = .str ns[m] t' := fun m hm hm' => by
    obtain ⟨t', ht⟩ := hi.get m _ (List.getElem?_eq_getElem hm)
    obtain ⟨h1, h2⟩ := List.getElem?_eq_some_iff.mp ht
    exact ⟨t', by simpa using h2⟩
  refine call_meets PySem.F.slot_list_remove ⟨_, e, rfl⟩ PySem.F.entry_list_remove (PySem.F.args_list_remove_2 _ _)
    (MeetsSeq.list_remove l its.toArray n (.str y t) _ (fun y' hy => eqk_str hi y' (by simpa using hy)) j hjl ?_ ?_ (by rw [List.size_toArray]; omega)) ⟨e, ?_⟩
  · obtain ⟨t', e1⟩ := at1 j hj1 hjl
    rw [e1]
    exact hj2
  · intro m hm hmj
    obtain ⟨t', e1⟩ := at1 m (by omega) hm
    rw [e1]
    simpa using hj3 m hmj
  · refine ⟨.non, _, I.lset (its' := its.eraseIdx j) (t' := s.toks) hH e ?_ (r.eraseIdx j) ?_, rfl, q⟩
    · show its.toArray.eraseIdxIfInBounds j = (its.eraseIdx j).toArray
      rw [List.eraseIdxIfInBounds_toArray]
    · have z2 := List.length_eraseIdx_le (ns.map V.str) j
      rw [List.length_map] at z2
      omega
theorem remD_ok {xs ys : List D} {d : D} (e : remD xs d = some ys) : ∃ y ss j, d = .str y ∧ strsOf xs = some ss ∧ ss.findIdx? (fun s => decide (s = y)) = some j ∧ ys = xs.eraseIdx j := by
  unfold remD at e
  split at e
  · rename_i y ss hs
    cases hf : ss.findIdx? (fun s => decide (s = y)) with
    | none => rw [hf] at e; cases e
    | some j =>
      rw [hf] at e
      exact ⟨y, ss, j, rfl, hs, hf, (Option.some.inj e).symm⟩
  · cases e
theorem rem_read {i : Nat} {e : T} {D : Ends} {σ : L2.St} {H : Hp} {K : PySem.W.Frag} (q : tS ca Φ W io (.rem i e) D σ H) : tDrop (tBM K "list" rRemS (tMv ca Φ W i) (tCons (tE ca Φ W e) tNil)) D σ H := by
  obtain ⟨F, O, env, ae, bl, p⟩ := q
  have p' : PostS ca W io σ F O H ((getS env i).bind fun o => match o with
    | .ow (.lst t xs) => (one1 (ev Φ e (env.set i none))).bind fun a => (match remD xs a.1.d with
      | some ys => .ok (Out.nx (a.2.set i (some (.ow (.lst t ys)))))
      | none => .no)
    | _ => .no) (Dn ca D) := p
  refine mv_go ae bl p' fun o v F1 O1 H1 ae1 rv bl1 st1 hσ p1 => ?_
  cases o with
  | ow d =>
    cases d with
    | lst t xs =>
      obtain ⟨l, vs, rfl, g1, g2, g3, g4⟩ := rv
      refine ⟨.inl ⟨rfl, vs, SqL.of g1⟩, ?_⟩
      have p2 : PostS ca W io σ F1 O1 H1 ((one1 (ev Φ e (env.set i none))).bind fun a => (match remD xs a.1.d with
        | some ys => .ok (Out.nx (a.2.set i (some (.ow (.lst t ys)))))
        | none => .no)) (Dn ca D) := p1
      refine ⟨F1, O1, env.set i none, 1, ae1, bl1, (p2.bind.g.lift (Nat.zero_le 1)).imp fun a F2 O2 H2 st2 p3 y ae2 ry bl2 => ?_⟩
      have pk : Pk 1 O1 l := ⟨fun j c z => (by rw [g2] at z; cases z), fun j c z => (by rw [g2] at z; cases z; exact Nat.lt_succ_self _)⟩
      have hl2 : H2 l = some (.lst vs) := st2.keep l _ g1 pk
      have ol2 : O2 l = some (.t 0 0) := (st2.lab l _ g1 pk).trans g2
      have sb := ae2.bs.mapSub (aSx i 0)
      have ry' : Rep ca (mF (aSx i 0) O2 F2 H2) a.1.d y := ry.frz (φ := aSx i 0) ae2.bs fun c => aSx_ne (by decide)
      cases er : remD xs a.1.d with
      | none => rw [er] at p3; exact p3.elim
      | some ys =>
        rw [er] at p3
        obtain ⟨tx, ss, j, hd, hs, hj, rfl⟩ := remD_ok er
        rw [hd] at ry'
        have ey : y = .str tx := by unfold Rep at ry'; exact ry'
        have ev := strs_v g4 hs
        refine ⟨l, vs, ss, tx, j, rfl, by rw [ey], hl2, ev, hj, ?_⟩
        exact back_go ae2 ol2 hσ p3 ⟨l, _, rfl, upd_same, mO_some ol2 aSx_tk, g3, (Reps.mono (st2.ext.trans sb) _ _ g4).eraseIdx⟩
    | _ => exact p1.elim
  | _ => exact p1.elim
/-! ### o[k] = d -/
def rSet2 : TSet := fun o i v H Q => rSetL o i v H Q ∨ rSetD o i v H Q
theorem set_two (hu : X.A.units + 1 < cLine) : PSet X rSet2 := by
  intro pins s σ H o i v ov iv u Q I ro ri rv h
  rcases h with h | h
  · exact set_list pins s σ H o i v ov iv u Q I ro ri rv h
  · exact set_dict hu pins s σ H o i v ov iv u Q I ro ri rv h
theorem setx_read {i : Nat} {ix e : T} {D : Ends} {σ : L2.St} {H : Hp} (q : tS ca Φ W io (.setx i ix e) D σ H) : tAsg (tE ca Φ W e) (gSub (tMv ca Φ W i) (tE ca Φ W ix) rSet2) D σ H := by
  obtain ⟨F, O, env, ae, bl, p⟩ := q
  have p' : PostS ca W io σ F O H ((one1 (ev Φ e env)).bind fun r => (getS r.2 i).bind fun o => (one1 (ev Φ ix (r.2.set i none))).bind fun k => match setO o k.1.d r.1.d with
    | some o' => .ok (Out.nx (k.2.set i (some o')))
    | none => .no) (Dn ca D) := p
  refine ⟨F, O, env, 0, ae, bl, p'.bind.g.imp fun r F1 O1 H1 st1 p1 x ae1 rx bl1 => ?_⟩
  refine mv_go ae1 bl1 p1 fun o v F2 O2 H2 ae2 ro bl2 st2 hσ p2 => ?_
  have rx2 := rx.stp st2 (Nat.lt_succ_self 0)
  refine ⟨F2, O2, r.2.set i none, 2, ae2, bl2, (p2.bind.g.lift (Nat.zero_le 2)).imp fun k F3 O3 H3 st3 p3 y ae3 ry bl3 => ?_⟩
  have rx3 := rx2.stp st3 (by decide)
  have ro3 := ro.stp st3 (by decide)
  have sb := ae3.bs.mapSub (aSx i 1)
  have rx' : Rep ca (mF (aSx i 1) O3 F3 H3) r.1.d x := rx3.frz (φ := aSx i 1) ae3.bs fun c => aSx_ne (by decide)
  have ry' : Rep ca (mF (aSx i 1) O3 F3 H3) k.1.d y := ry.frz (φ := aSx i 1) ae3.bs fun c => aSx_ne (by decide)
  cases es : setO o k.1.d r.1.d with
  | none => rw [es] at p3; exact p3.elim
  | some o' =>
    rw [es] at p3
    have p4 : PostS ca W io σ F3 O3 H3 (.ok (Out.nx (k.2.set i (some o')))) (Dn ca D) := p3
    unfold setO at es
    split at es
    · rename_i t xs n ek
      rw [ek] at ry'
      have ey : y = .int n := int_of ry'
      subst ey
      obtain ⟨l, vs, rfl, g1, g2, g3, g4⟩ := ro3
      cases ej : ixN xs.length n with
      | none => rw [ej] at es; cases es
      | some j =>
        rw [ej] at es
        cases es
        refine .inl ⟨l, vs, n, j, rfl, rfl, g1, by rw [g4.length]; exact ej, ?_⟩
        exact back_go ae3 g2 hσ p4 ⟨l, _, rfl, upd_same, mO_some g2 aSx_tk, g3, (Reps.mono sb _ _ g4).set rx'⟩
    · rename_i t kvs
      split at es
      · rename_i hlen
        cases ek : keyD k.1.d with
        | none => rw [ek] at es; cases es
        | some n =>
          rw [ek] at es
          cases es
          obtain ⟨l, vs, rfl, g1, g2, g3, g4⟩ := ro3
          have ey := keyD_v ry' ek
          subst ey
          have hl : vs.length = kvs.length := by
            have key : ∀ {ds : List (Key × FH.D)} {us : List (Key × V)} {G : Hp}, RepK ca G ds us → us.length = ds.length := by
              intro ds
              induction ds with
              | nil => intro us G h; unfold RepK at h; subst h; rfl
              | cons p ds ih =>
                intro us G h
                obtain ⟨kk, dd⟩ := p
                unfold RepK at h
                obtain ⟨v, r, rfl, h1, h2⟩ := h
                rw [List.length_cons, List.length_cons, ih h2]
            exact key g4
          refine .inr ⟨l, _, rfl, DPut.k g1 (by rw [hl]; exact lim_s hlen), ?_⟩
          exact back_go ae3 g2 hσ p4 ⟨l, _, rfl, upd_same, mO_some g2 aSx_tk, g3, RepK.put rx' (RepK.mono sb _ _ g4)⟩
      · cases es
    · cases es
/-! ### o.f = d -/
theorem setf_read (hK : ca.K = X.K) {i : Nat} {C f : Str} {e : T} {D : Ends} {σ : L2.St} {H : Hp} (hc : L2.Cls X.K (ca.ad C)) (hn : NoAttr X.K (ca.ad C) f) (q : tS ca Φ W io (.setf i C f e) D σ H) : sFld X.K (tMv ca Φ W i) (tE ca Φ W e) f D σ H := by
  obtain ⟨F, O, env, ae, bl, p⟩ := q
  have p' : PostS ca W io σ F O H ((one1 (ev Φ e env)).bind fun r => (getS r.2 i).bind fun o => match o with
    | .ow (.obj A fs) => if A = C ∧ fs.length < 1000 then .ok (Out.nx (r.2.set i (some (.ow (.obj A (putD f r.1.d fs)))))) else .no
    | _ => .no) (Dn ca D) := p
  refine ⟨F, O, env, 0, ae, bl, p'.bind.g.imp fun r F1 O1 H1 st1 p1 x ae1 rx bl1 => ?_⟩
  refine mv_go ae1 bl1 p1 fun o v F2 O2 H2 ae2 ro bl2 st2 hσ p2 => ?_
  have rx2 := rx.stp st2 (Nat.lt_succ_self 0)
  cases o with
  | ow d =>
    cases d with
    | obj A fs =>
      have p3 : PostS ca W io σ F2 O2 H2 (if A = C ∧ fs.length < 1000 then .ok (Out.nx (r.2.set i (some (.ow (.obj A (putD f r.1.d fs)))))) else .no) (Dn ca D) := p2
      split at p3
      case isFalse => exact p3.elim
      rename_i hA
      obtain ⟨hA, hl⟩ := hA
      subst hA
      obtain ⟨l, dx, vs, rfl, g1, g2, g3⟩ := ro
      have sb := ae2.bs.mapSub (aSx i 1)
      have rx' : Rep ca (mF (aSx i 1) O2 F2 H2) r.1.d x := rx2.frz (φ := aSx i 1) ae2.bs fun c => aSx_ne (by decide)
      refine ⟨l, ca.ad A, dx, vs, rfl, g1, hc, hn, by rw [g3.length]; exact hl, ?_⟩
      have key := back_go (r := .ow (.obj A (putD f r.1.d fs))) (ho := .ins (ca.ad A) dx (putF f x vs)) ae2 g2 hσ (env := r.2.set i none) (by rw [List.set_set]; exact p3)
      exact key ⟨l, dx, _, rfl, upd_same, mO_some g2 aSx_tk, RepF.put rx' (RepF.mono sb _ _ g3)⟩
    | _ => exact p2.elim
  | _ => exact p2.elim
end
end FH
set_option Elab.async false
set_option linter.all false
set_option maxRecDepth 100000
set_option maxHeartbeats 2000000
namespace FH
open PySem PySem.Spec PyProof.Rows L2
section
variable {X : Cx} {ca : Cs} {Φ : FT} {gs : GX} {W : WX} {io : List Nat} {st : Stmt} {sts : List Stmt}
theorem kind_fn {k : ScopeKind} (h : (match k with | .function => true | _ => false) = true) : k = .function := by
  cases k <;> first
    | rfl
    | (cases h; done)
theorem swap_pair {x y : Str} {a b : Expr} {px py pt pt2 : Pos} {kt k2} {env : Env} (hk : env.scope.kind = .function) (hx : env.scope.names.lookup x = some .local) (hy : env.scope.names.lookup y = some .local) (hl : (py.line == px.line) = true) (hxy : x ≠ y)
    (pa : plain a = true) (pb : plain b = true) (hf : (foldedForSure 8 a && foldedForSure 8 b) = false) (hc : (constantsAlone 8 a && constantsAlone 8 b) = false) :
    swappedStores [.Tuple [.Name x px, .Name y py] kt pt] (.Tuple [a, b] k2 pt2) env = pure (some [x, y]) := by
  have kx : env.kindOf x = some .local := hx
  have ky : env.kindOf y = some .local := hy
  have hb : env.blockKind = .function := by unfold Env.blockKind; rw [hk]; rfl
  have sa : ([a, b].any fun e => match e with | .Starred .. => true | _ => false) = false := by
    have one : ∀ {e : Expr}, plain e = true → (match e with | .Starred .. => true | _ => false) = false := fun {e} h => by
      cases e <;> first
        | rfl
        | (unfold plain at h; cases h; done)
    rw [List.any_cons, one pa, List.any_cons, one pb] <;> rfl
  have hne : (x == y) = false := by simpa using hxy
  have hne2 : (y == x) = false := by simpa using Ne.symm hxy
  unfold swappedStores
  simp only [hb, kx, ky, sa, List.filterMap, Expr.pos, hl, beq_self_eq_true, Bool.true_and, List.length_cons, List.length_nil, List.all_cons, List.all_nil, Bool.and_true, hf, hc, List.head?_cons, Option.map_some, Option.getD_some]
  simp [hne, hne2, List.eraseDups_cons]
  intro h
  exfalso
  rcases h with h | h
  · cases a <;> first
      | (cases h; done)
      | (unfold plain at pa; cases pa; done)
  · cases b <;> first
      | (cases h; done)
      | (unfold plain at pb; cases pb; done)
theorem noLc {x : Expr} (h : isLc x = false) : ∀ a b c d, x ≠ .ListComp a b c d := fun a b c d z => by subst z; cases h
/-- the simple stores -/
theorem st_setx (G : Good X ca Φ gs W) {i : Nat} {ix e : T} {y : Str} {k v : Expr} {p1 p2 pos : Pos} (hn : visN (cOf X gs) i y = true) (h1 : PE X k (tE ca Φ W ix)) (h2 : PE X v (tE ca Φ W e)) (hk : plain k = true) (hp : plain v = true) (hl : isLc v = false) : PS X (.Assign [.Subscript (.Name y p1) k p2] v pos) (tS ca Φ W io (.setx i ix e)) := by
  have hu : X.A.units + 1 < cLine := by have := G.room.room.units; omega
  have hmv : PE X (.Name y p1) (tMv ca Φ W i) := snd_mv G hn
  refine psImp (ps_asg h2 (pg_sub hmv h1 (set_two hu) (fun w => by cases k <;> first | rfl | (unfold plain at hk; cases hk; done))) (by unfold swapsWithSole; exact swaps_no hp (noLc hl)) (by cases v <;> first | rfl | (unfold plain at hp; cases hp; done))) fun D σ H _ q => setx_read q
theorem st_setf (hK : ca.K = X.K) (G : Good X ca Φ gs W) {i : Nat} {C f : Str} {e : T} {y : Str} {v : Expr} {p1 p2 pos : Pos} (hn : visN (cOf X gs) i y = true) (hf : gs.has C f = true) (h : PE X v (tE ca Φ W e)) (hp : plain v = true) (hl : isLc v = false) : PS X (.Assign [.Attribute (.Name y p1) f p2] v pos) (tS ca Φ W io (.setf i C f e)) := by
  have hmv : PE X (.Name y p1) (tMv ca Φ W i) := snd_mv G hn
  obtain ⟨c1, c2⟩ := G.cl C f hf
  exact psImp (ps_fld hmv h (swaps_no hp (noLc hl))) fun D σ H _ q => setf_read hK c1 c2 q
theorem mvT (G : Good X ca Φ gs W) {i : Nat} {y : Str} {p : Pos} (hn : visN (cOf X gs) i y = true) : PE X (.Name y p) (tMv ca Φ W i) := snd_mv G hn
theorem one_few {cpos : Pos} {e : Expr} {env : Env} (hp : plain e = true) : ((backTo cpos (starEach [e] env)).all (fun x => !x.1) && (backToKw cpos (keywordEach [] env)).all (fun x => x.1.isSome)
    && decide (([e] : List Expr).length + ([] : List Keyword).length + (if ([] : List Keyword).isEmpty then 0 else 1) < 30)) = true := few_ok (by unfold plains plains; rw [hp] <;> rfl) (by simp)
theorem st_app (G : Good X ca Φ gs W) {i : Nat} {e : T} {y : Str} {v : Expr} {p1 ap cp pos : Pos} (hn : visN (cOf X gs) i y = true) (h : PE X v (tE ca Φ W e)) (hp : plain v = true) (hl : (ap.endLine == cp.line) = true) : PS X (.Expr (.Call (.Attribute (.Name y p1) "append" ap) [v] [] cp) pos) (tS ca Φ W io (.app i e)) :=
  psImp (ps_expr (pe_bm PySem.F.plainAttrs_list PySem.F.slot_list_append PySem.F.type_list_append mt_append (mvT G hn) (pa_cons h pa_nil (star_plain hp)) rfl (one_few hp) hl (star_plain hp) rfl) rfl) fun D σ H _ q => app_read q
theorem st_ext (G : Good X ca Φ gs W) {i : Nat} {e : T} {y : Str} {v : Expr} {p1 ap cp pos : Pos} (hn : visN (cOf X gs) i y = true) (h : PE X v (tE ca Φ W e)) (hp : plain v = true) (hl : (ap.endLine == cp.line) = true) : PS X (.Expr (.Call (.Attribute (.Name y p1) "extend" ap) [v] [] cp) pos) (tS ca Φ W io (.ext i e)) :=
  psImp (ps_expr (pe_bm PySem.F.plainAttrs_list PySem.F.slot_list_extend PySem.F.type_list_extend mt_extend (mvT G hn) (pa_cons h pa_nil (star_plain hp)) rfl (one_few hp) hl (star_plain hp) rfl) rfl) fun D σ H _ q => ext_read q
theorem st_rem (G : Good X ca Φ gs W) {i : Nat} {e : T} {y : Str} {v : Expr} {p1 ap cp pos : Pos} (hn : visN (cOf X gs) i y = true) (h : PE X v (tE ca Φ W e)) (hp : plain v = true) (hl : (ap.endLine == cp.line) = true) : PS X (.Expr (.Call (.Attribute (.Name y p1) "remove" ap) [v] [] cp) pos) (tS ca Φ W io (.rem i e)) :=
  psImp (ps_expr (pe_bm PySem.F.plainAttrs_list PySem.F.slot_list_remove PySem.F.type_list_remove mt_remS (mvT G hn) (pa_cons h pa_nil (star_plain hp)) rfl (one_few hp) hl (star_plain hp) rfl) rfl) fun D σ H _ q => rem_read q
theorem names_lt {is : List Nat} {es : List Expr} (h : mNames (cOf X gs) is es = true) : ∀ i, i ∈ is → i < X.N.length := by
  induction is generalizing es with
  | nil => exact fun i hi => nomatch hi
  | cons j is ih =>
    cases es with
    | nil => unfold mNames at h; cases h
    | cons e es =>
      cases e <;> first
        | (unfold mNames at h; cases h; done)
        | skip
      unfold mNames at h
      simp only [Bool.and_eq_true] at h
      intro i hi
      rcases List.mem_cons.mp hi with rfl | hi
      · exact (List.getElem?_eq_some_iff.mp (locN_ok h.1).1).1
      · exact ih h.2 i hi
theorem tg_lt {tg : Tg} {tx : Expr} (h : mTg (cOf X gs) tg tx = true) : ∀ i, i ∈ tgSlots tg → i < X.N.length := by
  cases tg with
  | nm i =>
    cases tx <;> first
      | (unfold mTg at h; cases h; done)
      | skip
    unfold mTg at h
    intro j hj
    have : j = i := by simpa [tgSlots] using hj
    rw [this]
    exact (List.getElem?_eq_some_iff.mp (locN_ok h).1).1
  | tp is =>
    cases tx <;> first
      | (unfold mTg at h; cases h; done)
      | skip
    unfold mTg at h
    exact names_lt h
/-- a target that a comprehension holds: the stores stand in order -/
theorem few_some {α β : Type} {f : α → Option β} : ∀ {l : List α} {a : α}, a ∈ l → f a = none → (l.filterMap f).length < l.length
  | b :: l, a, h, k => by
    rw [List.filterMap_cons]
    rcases List.mem_cons.mp h with rfl | h
    · rw [k]
      exact Nat.lt_succ_of_le (List.length_filterMap_le ..)
    · have := few_some h k
      cases f b with
      | none => exact Nat.lt_succ_of_lt this
      | some c => exact Nat.succ_lt_succ this
theorem cell_in {c : MC} : ∀ {ts : List Expr}, cellAny c ts = true → ∃ x p, Expr.Name x p ∈ ts ∧ c.sc.names.lookup x = some .cell
  | t :: ts, h => by
    have keep : cellAny c ts = true → ∃ x p, Expr.Name x p ∈ t :: ts ∧ c.sc.names.lookup x = some .cell := fun q => by
      obtain ⟨x, p, h1, h2⟩ := cell_in q
      exact ⟨x, p, List.mem_cons_of_mem _ h1, h2⟩
    cases t <;> first
      | exact keep h
      | skip
    rename_i x p
    rcases Bool.or_eq_true_iff.mp h with h | h
    · exact ⟨x, p, List.mem_cons_self, of_decide_eq_true h⟩
    · exact keep h
theorem sw_cell {ts vs : List Expr} {k k2 : Nat} {p p2 : Pos} (h : unpOk (cOf X gs) ts (.Tuple vs k2 p2) = true) : swappedStores [.Tuple ts k p] (.Tuple vs k2 p2) X.env = pure none := by
  have h' : cellAny (cOf X gs) ts = true := h
  obtain ⟨x, q, h1, h2⟩ := cell_in h'
  have hk : X.env.kindOf x = some .cell := h2
  have few : ∀ line : Nat, (ts.filterMap fun t => match t with
      | .Name id pos => if X.env.kindOf id == some .local && pos.line == line then some id else none
      | _ => none).length < ts.length := fun line => few_some h1 (by simp only [hk]; rfl)
  unfold swappedStores
  simp only []
  split
  · rfl
  · split
    · rfl
    · exact if_pos (Bool.or_eq_true_iff.mpr (.inl (bne_iff_ne.mpr (Nat.ne_of_lt (few ((ts.head?.map (·.pos.line)).getD 0))))))
theorem st_unp (G : Good X ca Φ gs W) {is : List Nat} {e : T} {ts : List Expr} {v : Expr} {k : Nat} {p1 pos : Pos} (hn : mNames (cOf X gs) is ts = true) (h : PE X v (tE ca Φ W e)) (hs : unpOk (cOf X gs) ts v = true) (hio : ∀ i, i ∈ is → i ∉ io) : PS X (.Assign [.Tuple ts k p1] v pos) (tS ca Φ W io (.unp is e)) := by
  have hg : PG X (.Tuple ts k p1) (gTg X.K (.tp is)) := by
    obtain ⟨g1, g2, g3⟩ := pgs_names G.nd hn
    exact pg_tl G.calm g1 g2 g3
  have e1 : ∀ n, swapsWithSole [.Tuple ts k p1] v n X.env = pure false := fun n => by
    cases v <;> first
      | rfl
      | (unfold unpOk isSrc isTup at hs; cases hs; done)
  have e2 : swappedStores [.Tuple ts k p1] v X.env = pure none := by
    cases v <;> first
      | rfl
      | (unfold unpOk isSrc isTup at hs; cases hs; done)
      | exact sw_cell hs
  refine psImp (ps_asg h hg (e1 _) e2) fun D σ H hσ q => unp_read (fun i hi => ⟨by rw [hσ]; exact names_lt hn i hi, hio i hi⟩) q
theorem st_par (G : Good X ca Φ gs W) {i j : Nat} {es : T} {x y : Str} {a b : Expr} {px py pt pt2 pos : Pos} {kt k2 : Nat} (hn : locN (cOf X gs) i x = true) (hm : locN (cOf X gs) j y = true) (hij : i ≠ j) (h : ArgOk X ca Φ W es [a, b]) (hp : plains [a, b] = true) (h1 : i ∉ io) (h2 : j ∉ io)
    (hk : parOk (cOf X gs) x y px py a b = true) : PS X (.Assign [.Tuple [.Name x px, .Name y py] kt pt] (.Tuple [a, b] k2 pt2) pos) (tS ca Φ W io (.par i j es)) := by
  obtain ⟨n1, _, _⟩ := locN_ok hn
  obtain ⟨m1, _, _⟩ := locN_ok hm
  obtain ⟨ts, pe, ar⟩ := h
  unfold parOk at hk
  simp only [Bool.and_eq_true, decide_eq_true_eq, Bool.not_eq_true'] at hk
  obtain ⟨⟨⟨⟨⟨l1, l2⟩, l3⟩, l4⟩, l5⟩, l6⟩ := hk
  have hxy : x ≠ y := fun z => by
    subst z
    exact hij ((List.getElem?_inj (List.getElem?_eq_some_iff.mp n1).1 G.nd).mp (n1.trans m1.symm))
  have lt1 := (List.getElem?_eq_some_iff.mp n1).1
  have lt2 := (List.getElem?_eq_some_iff.mp m1).1
  exact psImp (ps_par G.calm G.nd n1 m1 hij l1 l2 (pe.pa hp) (swap_pair (kind_fn l3) l1 l2 l4 hxy (plains_1 hp).1 (plains_1 (plains_1 hp).2).1 l5 l6)) fun D σ H hσ q => par_read ar (by rw [hσ]; exact lt1) (by rw [hσ]; exact lt2) h1 h2 hij q
theorem st_asgLc (G : Good X ca Φ gs W) {i : Nat} {y : Str} {own : List (Str × Nat)} {elt src cond : T} {tg : Tg} {e tx it : Expr} {ifs : List Expr} {scope : Scope} {p yp pos : Pos} (hn : locN (cOf X gs) i y = true) (hio : i ∉ io) (hlc : lcOk0 (cOf X gs) y yp (.ListComp e [⟨tx, it, ifs, 0⟩] scope p) = true)
    (hi : PI X tx it (tI ca Φ W src)) (ok : blkC X.N X.env.scope scope own = true)
    (hg : ∀ (s : Shared) (H : Hp) (C : Addr) (cl : List (Str × Addr)) (fp : List Addr), PG (X.blk s H scope (compEnvC scope cl C X.env) fp) tx (gTg X.K tg)) (ht : ∀ (s : Shared) (H : Hp) (C : Addr) (cl : List (Str × Addr)) (fp : List Addr), PTs (X.blk s H scope (compEnvC scope cl C X.env) fp) ifs (ttOf ca Φ cond))
    (he : ∀ (s : Shared) (H : Hp) (C : Addr) (cl : List (Str × Addr)) (fp : List Addr), PE (X.blk s H scope (compEnvC scope cl C X.env) fp) e (tE ca Φ W0 elt)) (hs : ∀ v, foldedSetIterable it X.env v = pure v) (htg : ∀ i, i ∈ tgSlots tg → i ∈ own.map (·.2)) :
    PS X (.Assign [.Name y yp] (.ListComp e [⟨tx, it, ifs, 0⟩] scope p) pos) (tS ca Φ W io (.asg i (.comp own elt tg src cond))) := by
  obtain ⟨n1, n2, n3⟩ := locN_ok hn
  unfold lcOk0 at hlc
  simp only [Bool.and_eq_true, decide_eq_true_eq, Bool.not_eq_true'] at hlc
  obtain ⟨⟨⟨l1, l2⟩, l3⟩, l4⟩ := hlc
  refine psImp (ps_setLc G.calm G.nd n1 l3 (sw_true (kind_fn l4) l3 l1 l2) hi (blkOk_by ok) hg ht he hs) fun D σ H hσ q => ?_
  have q1 := st_asgR (by rw [hσ]; exact (List.getElem?_eq_some_iff.mp n1).1) hio q
  exact comp_read (fun i hi => by rw [hσ]; exact own_lt ok i hi) htg q1
theorem st_asgLcB (G : Good X ca Φ gs W) {i : Nat} {y : Str} {own : List (Str × Nat)} {elt src cond : T} {tg : Tg} {e tx it : Expr} {ifs : List Expr} {scope : Scope} {p yp pos : Pos} (hn : locN (cOf X gs) i y = true) (hio : i ∉ io) (hlc : lcOk0 (cOf X gs) y yp (.ListComp e [⟨tx, it, ifs, 0⟩] scope p) = true)
    (hi : PI X tx it (tI ca Φ W src)) (ok : blkC X.N X.env.scope scope own = true)
    (hg : ∀ (s : Shared) (H : Hp) (C : Addr) (cl : List (Str × Addr)) (fp : List Addr), PG (X.blk s H scope (compEnvC scope cl C X.env) fp) tx (gTg X.K tg)) (ht : ∀ (s : Shared) (H : Hp) (C : Addr) (cl : List (Str × Addr)) (fp : List Addr), PTs (X.blk s H scope (compEnvC scope cl C X.env) fp) ifs (ttOf ca Φ cond))
    (he : ∀ (s : Shared) (H : Hp) (C : Addr) (cl : List (Str × Addr)) (fp : List Addr), PE (X.blk s H scope (compEnvC scope cl C X.env) fp) e (tE ca Φ W0 elt)) (hs : ∀ v, foldedSetIterable it X.env v = pure v) (htg : ∀ i, i ∈ tgSlots tg → i ∈ own.map (·.2)) :
    PS X (.Assign [.Name y yp] (.ListComp e [⟨tx, it, ifs, 0⟩] scope p) pos) (tS ca Φ W io (.asg i (.bor (.comp own elt tg src cond)))) := by
  obtain ⟨n1, n2, n3⟩ := locN_ok hn
  unfold lcOk0 at hlc
  simp only [Bool.and_eq_true, decide_eq_true_eq, Bool.not_eq_true'] at hlc
  obtain ⟨⟨⟨l1, l2⟩, l3⟩, l4⟩ := hlc
  refine psImp (ps_setLc G.calm G.nd n1 l3 (sw_true (kind_fn l4) l3 l1 l2) hi (blkOk_by ok) hg ht he hs) fun D σ H hσ q => ?_
  have q1 := st_asgR (by rw [hσ]; exact (List.getElem?_eq_some_iff.mp n1).1) hio q
  exact comp_read (fun i hi => by rw [hσ]; exact own_lt ok i hi) htg (bor_read q1)
end
end FH
set_option Elab.async false
set_option linter.all false
set_option maxRecDepth 100000
set_option maxHeartbeats 2000000
namespace FH
open PySem PySem.Spec PyProof.Rows L2
section
variable {c : MC} {io : List Nat} {st : Stmt} {sts : List Stmt}
theorem mS_expr {e : T} (h : mS c io (.expr e) st = true) : ∃ x p, st = .Expr x p ∧ plain x = true ∧ mE c e x = true ∧ isLc x = false := by
  cases st <;> first
    | (unfold mS at h; cases h; done)
    | skip
  unfold mS at h
  simp only [Bool.and_eq_true, Bool.not_eq_true'] at h
  exact ⟨_, _, rfl, h.1.1, h.1.2, h.2⟩
theorem mS_asg {i : Nat} {e : T} (h : mS c io (.asg i e) st = true) : ∃ x xp y p, st = .Assign [.Name x xp] y p ∧ locN c i x = true ∧ plain y = true ∧ mE c e y = true ∧ i ∉ io ∧ lcOk c x xp y = true := by
  unfold mS at h
  split at h <;> first
    | contradiction
    | (cases h; done)
    | skip
  rename_i h0
  cases h0
  simp only [Bool.and_eq_true, decide_eq_true_eq] at h
  exact ⟨_, _, _, _, rfl, h.1.1.1.1, h.1.1.1.2, h.1.1.2, h.1.2, h.2⟩
theorem mS_unp {is : List Nat} {e : T} (h : mS c io (.unp is e) st = true) : ∃ ts k q y p, st = .Assign [.Tuple ts k q] y p ∧ mNames c is ts = true ∧ mE c e y = true ∧ (∀ i, i ∈ is → i ∉ io) ∧ unpOk c ts y = true := by
  unfold mS at h
  split at h <;> first
    | contradiction
    | (cases h; done)
    | skip
  rename_i h0
  cases h0
  simp only [Bool.and_eq_true, decide_eq_true_eq] at h
  exact ⟨_, _, _, _, _, rfl, h.1.1.1, h.1.1.2, fun i hi => of_decide_eq_true (List.all_eq_true.mp h.1.2 i hi), h.2⟩
theorem mS_par {i j : Nat} {es : T} (h : mS c io (.par i j es) st = true) : ∃ x xp y yp k q a b k2 q2 p, st = .Assign [.Tuple [.Name x xp, .Name y yp] k q] (.Tuple [a, b] k2 q2) p ∧ locN c i x = true ∧ locN c j y = true ∧ i ≠ j ∧ mA c es [a, b] = true ∧ i ∉ io ∧ j ∉ io ∧ parOk c x y xp yp a b = true := by
  unfold mS at h
  split at h <;> first
    | contradiction
    | (cases h; done)
    | skip
  rename_i h0
  cases h0
  simp only [Bool.and_eq_true, decide_eq_true_eq] at h
  obtain ⟨⟨⟨⟨⟨⟨h1, h2⟩, h3⟩, h4⟩, h5⟩, h6⟩, h7⟩ := h
  exact ⟨_, _, _, _, _, _, _, _, _, _, _, rfl, h1, h2, h3, h4, h5, h6, h7⟩
theorem mS_setx {i : Nat} {ix e : T} (h : mS c io (.setx i ix e) st = true) : ∃ x xp k q y p, st = .Assign [.Subscript (.Name x xp) k q] y p ∧ visN c i x = true ∧ plain k = true ∧ plain y = true ∧ isLc y = false ∧ mE c ix k = true ∧ mE c e y = true := by
  unfold mS at h
  split at h <;> first
    | contradiction
    | (cases h; done)
    | skip
  rename_i h0
  cases h0
  simp only [Bool.and_eq_true, Bool.not_eq_true'] at h
  obtain ⟨⟨⟨⟨⟨h1, h2⟩, h3⟩, h4⟩, h5⟩, h6⟩ := h
  exact ⟨_, _, _, _, _, _, rfl, h1, h2, h3, h4, h5, h6⟩
theorem mS_setf {i : Nat} {C f : Str} {e : T} (h : mS c io (.setf i C f e) st = true) : ∃ x xp q y p, st = .Assign [.Attribute (.Name x xp) f q] y p ∧ visN c i x = true ∧ c.gs.has C f = true ∧ plain y = true ∧ isLc y = false ∧ mE c e y = true := by
  unfold mS at h
  split at h <;> first
    | contradiction
    | (cases h; done)
    | skip
  rename_i h0
  cases h0
  simp only [Bool.and_eq_true, Bool.not_eq_true', decide_eq_true_eq] at h
  obtain ⟨⟨⟨⟨⟨h1, h2⟩, h3⟩, h4⟩, h5⟩, h6⟩ := h
  subst h2
  exact ⟨_, _, _, _, _, rfl, h1, h3, h4, h5, h6⟩
theorem mS_app {i : Nat} {e : T} (h : mS c io (.app i e) st = true) : ∃ x xp ap y cp p, st = .Expr (.Call (.Attribute (.Name x xp) "append" ap) [y] [] cp) p ∧ visN c i x = true ∧ plain y = true ∧ (ap.endLine == cp.line) = true ∧ mE c e y = true := by
  unfold mS at h
  split at h <;> first
    | contradiction
    | (cases h; done)
    | skip
  rename_i h0
  cases h0
  simp only [Bool.and_eq_true, decide_eq_true_eq] at h
  obtain ⟨⟨⟨⟨h1, h2⟩, h3⟩, h4⟩, h5⟩ := h
  subst h3
  exact ⟨_, _, _, _, _, _, rfl, h1, h2, h4, h5⟩
theorem mS_ext {i : Nat} {e : T} (h : mS c io (.ext i e) st = true) : ∃ x xp ap y cp p, st = .Expr (.Call (.Attribute (.Name x xp) "extend" ap) [y] [] cp) p ∧ visN c i x = true ∧ plain y = true ∧ (ap.endLine == cp.line) = true ∧ mE c e y = true := by
  unfold mS at h
  split at h <;> first
    | contradiction
    | (cases h; done)
    | skip
  rename_i h0
  cases h0
  simp only [Bool.and_eq_true, decide_eq_true_eq] at h
  obtain ⟨⟨⟨⟨h1, h2⟩, h3⟩, h4⟩, h5⟩ := h
  subst h3
  exact ⟨_, _, _, _, _, _, rfl, h1, h2, h4, h5⟩
theorem mS_rem {i : Nat} {e : T} (h : mS c io (.rem i e) st = true) : ∃ x xp ap y cp p, st = .Expr (.Call (.Attribute (.Name x xp) "remove" ap) [y] [] cp) p ∧ visN c i x = true ∧ plain y = true ∧ (ap.endLine == cp.line) = true ∧ mE c e y = true := by
  unfold mS at h
  split at h <;> first
    | contradiction
    | (cases h; done)
    | skip
  rename_i h0
  cases h0
  simp only [Bool.and_eq_true, decide_eq_true_eq] at h
  obtain ⟨⟨⟨⟨h1, h2⟩, h3⟩, h4⟩, h5⟩ := h
  subst h3
  exact ⟨_, _, _, _, _, _, rfl, h1, h2, h4, h5⟩
theorem mS_ifs {t : T} {a b : S} (h : mS c io (.ifs t a b) st = true) : ∃ x ys zs p, st = .If x ys zs p ∧ mE c t x = true ∧ mSs c io a ys = true ∧ mSs c io b zs = true := by
  cases st <;> first
    | (unfold mS at h; cases h; done)
    | skip
  unfold mS at h
  simp only [Bool.and_eq_true] at h
  exact ⟨_, _, _, _, rfl, h.1.1, h.1.2, h.2⟩
theorem mS_for {tg : Tg} {src : T} {body : S} (h : mS c io (.for tg src body) st = true) : ∃ tx it ys p, st = .For tx it ys [] p ∧ mI c src tx it = true ∧ mTg c tg tx = true ∧ (∀ i, i ∈ tgSlots tg → i ∉ io) ∧ mSs c io body ys = true := by
  unfold mS at h
  split at h <;> first
    | contradiction
    | (cases h; done)
    | skip
  rename_i h0
  cases h0
  simp only [Bool.and_eq_true] at h
  exact ⟨_, _, _, _, rfl, h.1.1.1, h.1.1.2, fun i hi => of_decide_eq_true (List.all_eq_true.mp h.1.2 i hi), h.2⟩
theorem mS_while {n : Nat} {t : T} {body : S} (h : mS c io (.while n t body) st = true) : ∃ x ys p, st = .While x ys [] p ∧ mE c t x = true ∧ mSs c io body ys = true := by
  unfold mS at h
  split at h <;> first
    | contradiction
    | (cases h; done)
    | skip
  rename_i h0
  cases h0
  simp only [Bool.and_eq_true] at h
  exact ⟨_, _, _, rfl, h.1, h.2⟩
theorem mS_ret {e : T} (h : mS c io (.ret e) st = true) : ∃ x p, st = .Return (some x) p ∧ mE c e x = true := by
  unfold mS at h
  split at h <;> first
    | contradiction
    | (cases h; done)
    | skip
  rename_i h0
  cases h0
  exact ⟨_, _, rfl, h⟩
theorem mS_ret0 (h : mS c io .ret0 st = true) : ∃ p, st = .Return none p := by
  cases st <;> first
    | (unfold mS at h; cases h; done)
    | skip
  rename_i v p
  cases v with
  | none => exact ⟨p, rfl⟩
  | some _ => unfold mS at h; cases h
theorem mS_brk (h : mS c io .brk st = true) : ∃ p, st = .Break p := by
  cases st <;> first
    | (unfold mS at h; cases h; done)
    | exact ⟨_, rfl⟩
theorem mS_cont (h : mS c io .cont st = true) : ∃ p, st = .Continue p := by
  cases st <;> first
    | (unfold mS at h; cases h; done)
    | exact ⟨_, rfl⟩
theorem mSs_nil (h : mSs c io .nil sts = true) : sts = [] := by
  cases sts with
  | nil => rfl
  | cons _ _ => unfold mSs at h; cases h
theorem mSs_seq {s r : S} (h : mSs c io (.seq s r) sts = true) : ∃ x xs, sts = x :: xs ∧ mS c io s x = true ∧ mSs c io r xs = true := by
  cases sts with
  | nil => unfold mSs at h; cases h
  | cons x xs =>
    unfold mSs at h
    simp only [Bool.and_eq_true] at h
    exact ⟨x, xs, rfl, h.1, h.2⟩
end
structure GoodS (X : Cx) (ca : Cs) (Φ : FT) (gs : GX) (W : WX) : Prop where
  good : Good X ca Φ gs W
  po : PassesOwn (model X.prog X.w) X.A X.env X.xe
section
variable {ca : Cs} {Φ : FT} {X : Cx} {gs : GX} {W : WX}
theorem asg_all0 (hK : ca.K = X.K) (G : Good X ca Φ gs W) {io : List Nat} {i : Nat} {e : T} {st : Stmt} (hne : ∀ e', e ≠ .frz e') (h : mS (cOf X gs) io (.asg i e) st = true) : PS X st (tS ca Φ W io (.asg i e)) := by
  obtain ⟨x, xp, y, p, rfl, h1, h2, h3, h4, h5⟩ := mS_asg h
  rcases Bool.or_eq_true_iff.mp h5 with h5 | h5
  rotate_left
  · exact st_asgC G h1 h4 ((snd_all ca Φ e).1 X gs W hK G y h3).1 (of_decide_eq_true h5)
  by_cases hl : isLc y = true
  · by_cases hc : ∃ own elt tg src cond, e = .comp own elt tg src cond
    · obtain ⟨own, elt, tg, src, cond, rfl⟩ := hc
      obtain ⟨e', tx, it, ifs, scope, p', rfl, k1, k2, k3, k4, k5, k6⟩ := mE_comp h3
      refine st_asgLc G h1 h4 h5 ((snd_all ca Φ src).2.2 X gs W hK G tx it k1) k2 (fun s H C cl fp => pg_tg (G.blk s H scope C cl fp) k3) (fun s H C cl fp => ?_) (fun s H C cl fp => ((snd_all ca Φ elt).1 (X.blk s H scope (compEnvC scope cl C X.env) fp) gs W0 hK (G.blk s H scope C cl fp) e' k5).1) (mI_fold k1 X.env) k4
      rcases k6 with ⟨rfl, rfl⟩ | ⟨hc, y, rfl, k6⟩
      · exact pts_nil
      · have e2 : ttOf ca Φ cond = tT ca Φ W0 cond := by
          cases cond <;> first
            | rfl
            | exact absurd rfl hc
        rw [e2]
        exact pts_one ((snd_all ca Φ cond).1 (X.blk s H scope (compEnvC scope cl C X.env) fp) gs W0 hK (G.blk s H scope C cl fp) y k6).2.1
    by_cases hb : ∃ own elt tg src cond, e = .bor (.comp own elt tg src cond)
    · obtain ⟨own, elt, tg, src, cond, rfl⟩ := hb
      have h3 := (mE_bor h3).2
      obtain ⟨e', tx, it, ifs, scope, p', rfl, k1, k2, k3, k4, k5, k6⟩ := mE_comp h3
      refine st_asgLcB G h1 h4 h5 ((snd_all ca Φ src).2.2 X gs W hK G tx it k1) k2 (fun s H C cl fp => pg_tg (G.blk s H scope C cl fp) k3) (fun s H C cl fp => ?_) (fun s H C cl fp => ((snd_all ca Φ elt).1 (X.blk s H scope (compEnvC scope cl C X.env) fp) gs W0 hK (G.blk s H scope C cl fp) e' k5).1) (mI_fold k1 X.env) k4
      rcases k6 with ⟨rfl, rfl⟩ | ⟨hc, y, rfl, k6⟩
      · exact pts_nil
      · have e2 : ttOf ca Φ cond = tT ca Φ W0 cond := by
          cases cond <;> first
            | rfl
            | exact absurd rfl hc
        rw [e2]
        exact pts_one ((snd_all ca Φ cond).1 (X.blk s H scope (compEnvC scope cl C X.env) fp) gs W0 hK (G.blk s H scope C cl fp) y k6).2.1
    · exfalso
      cases y <;> first
        | (cases hl; done)
        | skip
      cases e <;> first
        | exact hc ⟨_, _, _, _, _, rfl⟩
        | (have z := mE_borC h3 rfl
           rename_i a
           cases a <;> first
             | (cases z; done)
             | exact hb ⟨_, _, _, _, _, rfl⟩)
        | (unfold mE at h3; cases h3; done)
        | exact absurd rfl (hne _)
        | (obtain ⟨_, h, _⟩ := mE_prim h3; unfold mP at h; split at h <;> contradiction)
  · have hl' : isLc y = false := by simpa using hl
    exact st_asg G h1 h4 ((snd_all ca Φ e).1 X gs W hK G y h3).1 h2 (noLc hl')
theorem asg_frz {io : List Nat} {i : Nat} {e : T} {D : Ends} {σ : L2.St} {H : Hp} (q : tS ca Φ W io (.asg i (.frz e)) D σ H) : tS ca Φ W io (.asg i e) D σ H := by
  obtain ⟨F, O, env, ae, bl, p⟩ := q
  refine ⟨F, O, env, ae, bl, ?_⟩
  have e1 : ex Φ (.asg i (.frz e)) env = (one1 (ev Φ e env)).bind fun a => .ok (Out.nx (a.2.set i (some (sh1 a.1)))) := by
    show (one1 ((one1 (ev Φ e env)).bind _)).bind _ = _
    rw [one1_bind, M.bind_assoc] <;> rfl
  have e2 : ex Φ (.asg i e) env = (one1 (ev Φ e env)).bind fun a => .ok (Out.nx (a.2.set i (some a.1))) := rfl
  rw [e1] at p
  rw [e2]
  revert p
  cases one1 (ev Φ e env) with
  | no => exact fun p => p
  | ex c d => exact fun p => p
  | ok a =>
    intro p
    intro σ' F' O' H' fx st ae' bl'
    have p' : ∀ σ' F' O' H', Fx io σ σ' → Stp 0 F O H F' O' H' → AE ca F' O' (a.2.set i (some (sh1 a.1))) σ' H' → Below O' 0 → D.nx σ' H' := p
    refine p' σ' _ _ H' fx (st.trans (ae'.bs.stp (aFz_low i 0))) ?_ ?_
    · refine (ae'.bs.map (aFz i)).ae fun j r' e => ?_
      rcases set_slot e with ⟨rfl, e5⟩ | ⟨ne, e5⟩
      · cases e5
        have hj : (a.2.set j (some a.1))[j]? = some (some a.1) := by
          have := (List.getElem?_eq_some_iff.mp e).1
          rw [List.length_set] at this
          exact List.getElem?_set_self this
        obtain ⟨v, s1, s2⟩ := ae'.slot j a.1 hj
        exact ⟨v, s1, s2.frz ae'.bs fun c => if_pos rfl⟩
      · obtain ⟨w, w1, w2⟩ := ae'.slot j r' (by rw [List.getElem?_set_ne (Ne.symm ne)]; exact e5)
        exact ⟨w, w1, w2.map ae'.bs fun c => if_neg ne⟩
    · intro b j c z
      obtain ⟨l, l1, l2⟩ := mO_inv z
      cases l with
      | s i' c' =>
        exfalso
        unfold aFz at l2
        simp only at l2
        split at l2 <;> cases l2
      | t j' c' =>
        cases l2
        exact bl' b j c l1
theorem asg_all (hK : ca.K = X.K) (G : Good X ca Φ gs W) {io : List Nat} {i : Nat} {e : T} {st : Stmt} (h : mS (cOf X gs) io (.asg i e) st = true) : PS X st (tS ca Φ W io (.asg i e)) := by
  induction e with
  | frz e ih =>
    have h' : mS (cOf X gs) io (.asg i e) st = true := by
      obtain ⟨x, xp, y, p, rfl, h1, h2, h3, h4, h5⟩ := mS_asg h
      unfold mS
      rw [h1, h2, (mE_frz h3).2, decide_eq_true h4, h5] <;> rfl
    exact psImp (ih h') fun D σ H _ q => asg_frz q
  | _ => exact asg_all0 hK G (fun _ z => nomatch z) h
theorem snd_st (hK : ca.K = X.K) (G : GoodS X ca Φ gs W) {io : List Nat} (s : S) : (∀ st, mS (cOf X gs) io s st = true → PS X st (tS ca Φ W io s)) ∧ ∀ sts, mSs (cOf X gs) io s sts = true → PSs X sts (tS ca Φ W io s) := by
  have E := fun (e : T) (x : Expr) (m : mE (cOf X gs) e x = true) => (snd_all ca Φ e).1 X gs W hK G.good x m
  induction s with
  | nil => exact ⟨fun st m => (by unfold mS at m; cases m), fun sts m => (by rw [mSs_nil m]; exact st_nil)⟩
  | seq s r ih1 ih2 =>
    refine ⟨fun st m => (by unfold mS at m; cases m), fun sts m => ?_⟩
    obtain ⟨x, xs, rfl, h1, h2⟩ := mSs_seq m
    exact st_seq (ih1.1 x h1) (ih2.2 xs h2)
  | dead => exact ⟨fun _ _ => st_dead1, fun _ _ => st_dead⟩
  | expr e =>
    refine ⟨fun st m => ?_, fun sts m => by cases sts <;> (unfold mSs at m; cases m)⟩
    obtain ⟨x, p, rfl, h1, h2, h3⟩ := mS_expr m
    exact st_expr (E e x h2).1 h1 (noLc h3)
  | asg i e => exact ⟨fun st m => asg_all hK G.good m, fun sts m => by cases sts <;> (unfold mSs at m; cases m)⟩
  | unp is e =>
    refine ⟨fun st m => ?_, fun sts m => by cases sts <;> (unfold mSs at m; cases m)⟩
    obtain ⟨ts, k, q, y, p, rfl, h1, h2, h3, h4⟩ := mS_unp m
    exact st_unp G.good h1 (E e y h2).1 h4 h3
  | par i j es =>
    refine ⟨fun st m => ?_, fun sts m => by cases sts <;> (unfold mSs at m; cases m)⟩
    obtain ⟨x, xp, y, yp, k, q, a, b, k2, q2, p, rfl, h1, h2, h3, h4, h5, h6, h7⟩ := mS_par m
    exact st_par G.good h1 h2 h3 ((snd_all ca Φ es).2.1 X gs W hK G.good _ h4) (plains_of h4) h5 h6 h7
  | setx i ix e =>
    refine ⟨fun st m => ?_, fun sts m => by cases sts <;> (unfold mSs at m; cases m)⟩
    obtain ⟨x, xp, k, q, y, p, rfl, h1, h2, h3, h4, h5, h6⟩ := mS_setx m
    exact st_setx G.good h1 (E ix k h5).1 (E e y h6).1 h2 h3 h4
  | setf i C f e =>
    refine ⟨fun st m => ?_, fun sts m => by cases sts <;> (unfold mSs at m; cases m)⟩
    obtain ⟨x, xp, q, y, p, rfl, h1, h2, h3, h4, h5⟩ := mS_setf m
    exact st_setf hK G.good h1 h2 (E e y h5).1 h3 h4
  | app i e =>
    refine ⟨fun st m => ?_, fun sts m => by cases sts <;> (unfold mSs at m; cases m)⟩
    obtain ⟨x, xp, ap, y, cp, p, rfl, h1, h2, h3, h4⟩ := mS_app m
    exact st_app G.good h1 (E e y h4).1 h2 h3
  | ext i e =>
    refine ⟨fun st m => ?_, fun sts m => by cases sts <;> (unfold mSs at m; cases m)⟩
    obtain ⟨x, xp, ap, y, cp, p, rfl, h1, h2, h3, h4⟩ := mS_ext m
    exact st_ext G.good h1 (E e y h4).1 h2 h3
  | rem i e =>
    refine ⟨fun st m => ?_, fun sts m => by cases sts <;> (unfold mSs at m; cases m)⟩
    obtain ⟨x, xp, ap, y, cp, p, rfl, h1, h2, h3, h4⟩ := mS_rem m
    exact st_rem G.good h1 (E e y h4).1 h2 h3
  | ifs t a b ih1 ih2 =>
    refine ⟨fun st m => ?_, fun sts m => by cases sts <;> (unfold mSs at m; cases m)⟩
    obtain ⟨x, ys, zs, p, rfl, h1, h2, h3⟩ := mS_ifs m
    exact st_if (E t x h1).2.1 (ih1.2 ys h2) (ih2.2 zs h3)
  | «for» tg src body ih =>
    refine ⟨fun st m => ?_, fun sts m => by cases sts <;> (unfold mSs at m; cases m)⟩
    obtain ⟨tx, it, ys, p, rfl, h1, h2, h3, h4⟩ := mS_for m
    exact psImp (ps_for G.po G.good.calm ((snd_all ca Φ src).2.2 X gs W hK G.good tx it h1) (pg_tg G.good h2) (ih.2 ys h4) (mI_fold h1 X.env)) fun D σ H hσ q => for_read (fun i hi => ⟨by rw [hσ]; exact tg_lt h2 i hi, h3 i hi⟩) q
  | «while» n t body ih =>
    refine ⟨fun st m => ?_, fun sts m => by cases sts <;> (unfold mSs at m; cases m)⟩
    obtain ⟨x, ys, p, rfl, h1, h2⟩ := mS_while m
    exact psImp (ps_while G.po (E t x h1).2.1 (ih.2 ys h2)) fun D σ H hσ q => while_read q
  | ret e =>
    refine ⟨fun st m => ?_, fun sts m => by cases sts <;> (unfold mSs at m; cases m)⟩
    obtain ⟨x, p, rfl, h1⟩ := mS_ret m
    exact st_ret (E e x h1).1
  | ret0 =>
    refine ⟨fun st m => ?_, fun sts m => by cases sts <;> (unfold mSs at m; cases m)⟩
    obtain ⟨p, rfl⟩ := mS_ret0 m
    exact st_ret0
  | brk =>
    refine ⟨fun st m => ?_, fun sts m => by cases sts <;> (unfold mSs at m; cases m)⟩
    obtain ⟨p, rfl⟩ := mS_brk m
    exact st_brk
  | cont =>
    refine ⟨fun st m => ?_, fun sts m => by cases sts <;> (unfold mSs at m; cases m)⟩
    obtain ⟨p, rfl⟩ := mS_cont m
    exact st_cont
end
end FH
set_option Elab.async false
set_option linter.all false
set_option maxRecDepth 100000
set_option maxHeartbeats 2000000
namespace FH
open PySem PySem.Spec PyProof.Rows L2
theorem RoomG.mono {j k : Nat} {A : Around} (r : RoomG k A) (h : j ≤ k) : RoomG j A := ⟨r.room.mono h, r.gd⟩
theorem RoomG.deeper {k : Nat} {A : Around} (r : RoomG (k + 1) A) (env : Env) : RoomG k (A.deeper env) := ⟨r.room.deeper env, r.gd⟩
theorem caller_room {k : Nat} (h : k ≤ 60) : RoomG k callerA := by
  have h1 : (1 + claimMargin + 3 * 60 + 5 : Nat) < recursionLimit := by decide +kernel
  have h2 : (4 + 16 * 60 + 200 : Nat) < cLine := by decide +kernel
  refine ⟨⟨rfl, ?_, ?_⟩, rfl⟩
  · show 1 + claimMargin + 3 * k + 5 < recursionLimit
    omega
  · show 4 + 16 * k + 200 < cLine
    omega
/-- a look at a def's scope -/
def scOk (N ps : List Str) (sc : Scope) : Bool :=
  (match sc.kind with | .function => true | _ => false) && (!sc.isCoroutine && !sc.isGenerator) && (decide N.Nodup && decide (N.take ps.length = ps)) &&
    ((ps.all fun x => match sc.names.lookup x with | some .local => true | some .cell => true | _ => false) && sc.names.all fun y => match y.2 with | .free => false | _ => true)
theorem scope_ok {N ps : List Str} {sc : Scope} (h : scOk N ps sc = true) : FnScope N ps sc := by
  unfold scOk at h
  simp only [Bool.and_eq_true, Bool.not_eq_true', decide_eq_true_eq, List.all_eq_true] at h
  obtain ⟨⟨⟨h1, h2, h3⟩, h4, h5⟩, h6, h7⟩ := h
  refine ⟨kind_fn h1, h2, h3, h4, h5, fun x hx => ?_, fun y hy z => ?_⟩
  · have q := h6 x hx
    cases e : sc.names.lookup x with
    | none => rw [e] at q; cases q
    | some k =>
      rw [e] at q
      cases k <;> first
        | exact .inl rfl
        | exact .inr rfl
        | (cases q; done)
  · have q := h7 y hy
    rw [z] at q
    cases q
section
variable {P : Program} {w : World} {K : PySem.W.Frag} {mg : Str → Option Value} {base : Heap} {ca : Cs} {Φ : FT} {gs : GX}
/-- a def, its defaults whatever they are -/
structure FunX (K : PySem.W.Frag) (x qual : Str) (st : Stmt) (f : Addr) (fd : FuncData) : Prop where
  ex : ∃ (oc : Value) (od : Option Addr) (dV kV doc pm : Value) (an : Option Addr) (cdv ct : Value) (osl : Array (Option Value)),
    fd = PySem.W.fnOf x qual (defArgs st) (defBody st) (defScope st) dV kV doc pm an cdv ct ∧ K.lookup f = some ⟨oc, od, .func fd, osl⟩ ∧ PySem.W.codeIn K cdv qual = true
/-- THE RULE: a def by its body, no guard around -/
theorem fnG_of {k : Nat} {f : Addr} {x qual : Str} {st : Stmt} {fd : FuncData} {N ps : List Str} {sp : Sp} (Fu : FunX K x qual st f fd) (S : FnScope N ps (defScope st)) (len : ∀ vs H Q E, sp vs H Q E → vs.length = ps.length)
    (body : ∀ (cdv : Value) (A : Around) (outer : List Env) (s : Shared) (H : Hp) (vs : List V) (Q : VK) (E : XK), RoomG k (A.deeper (envOfC qual (defScope st) s.heap.objs.size f cdv)) → sp vs H Q E →
      ∃ t, PSs (cxOf (L2.CX P w) P w K mg base N qual (defScope st) f cdv A outer s H E) (defBody st) t ∧ t { nx := fun _ H' => Q .non H', rt := Q } (L2.start N vs) H) : FnG P w K mg base (k + 1) f fd ps sp := by
  obtain ⟨oc, od, dV, kV, doc, pm, an, cdv, ct, osl, rfl, look, code⟩ := Fu.ex
  refine ⟨len, ?_⟩
  intro A outer s H args us vs Q E room e0 bind rel promise
  have size := len _ _ _ _ promise
  have whole : K.In s.heap := e0.mod.kin.keeps fun b o y => (e0.bs b o y).1
  have noLim : s.heap.NoLimit := e0.mod.nolimit.keeps fun b o y => (e0.bs b o y).1
  have kinds : ∀ y ∈ ps.zip us, (defScope st).names.lookup y.1 = some .local ∨ ((defScope st).names.lookup y.1 = some .cell ∧ ((cellsFrom (s.heap.objs.size + 1) (defScope st).names []).lookup y.1).isSome = true) := by
    rintro ⟨n, v⟩ hy
    rcases S.par n (List.of_mem_zip hy).1 with z | z
    · exact .inl z
    · exact .inr ⟨z, PySem.W.cellsFrom_some _ _ _ (.inl z)⟩
  refine codeAny_call_function room.room.depth (whole _ _ look) rfl S.co S.gen rfl (PySem.W.codeRec_of whole code) (bind _ _ _ _ ?_)
  refine wpAny_newFunctionEnv_cells S.kind kinds ?_
  rintro env rfl s1 x1
  refine ⟨noLim.keeps x1.toInCall.keep, codeAny_func ?_⟩
  obtain ⟨t, run, goal⟩ := body cdv A outer s H vs Q E (room.deeper _) promise
  have J := inv_start (CX := L2.CX P w) (P := P) (w := w) (E := E) (cd := cdv) S room.room.hd e0 size rel x1
  refine wpAny_mono (run.run [] s1 (L2.start N vs) H _ J goal) (fun fl s2 done => ?_) fun e s2 y => y
  have ends : ∀ {σ2 : L2.St} {H2 : Hp} {v : V} {u : Value}, Inv (cxOf (L2.CX P w) P w K mg base N qual (defScope st) f cdv A outer s H E) [] σ2 H2 s2 → RelV v u → Q v H2 → L2.CE outer P w H s Q u s2 := by
    intro σ2 H2 v u I2 ru q
    exact ⟨v, H2, I2.os, I2.bare, I2.base, I2.hok, ru, q⟩
  cases fl with
  | ret u => obtain ⟨v, σ2, H2, I2, ru, q⟩ := done; exact ends I2 ru q
  | next => obtain ⟨σ2, H2, I2, q⟩ := done; exact ends (v := .non) (u := .none) I2 rfl q
  | brk => obtain ⟨_, _, _, q⟩ := done; exact q.elim
  | cont => obtain ⟨_, _, _, q⟩ := done; exact q.elim
/-- what a program's module gives at a base -/
structure Mdl (P : Program) (w : World) (K : PySem.W.Frag) (mg : Str → Option Value) (base : Heap) (ca : Cs) (Φ : FT) (gs : GX) (k : Nat) : Prop where
  un : ∀ x, x ∈ bnames → mg x = none
  gv : ∀ p, p ∈ gs.vs → ∃ u, mg p.1 = some u ∧ RelV p.2 u
  ic : ∀ C, gs.isC C = true → L2.Cls K (ca.ad C) ∧ OwnI K (ca.ad C) ∧ ownKit K (ca.ad C) = true ∧ mg C = some (.ref (ca.ad C)) ∧ ∀ A, gs.isC A = true → PySem.W.kitOne K (.ref (ca.ad A)) (.ref (ca.ad C)) = some (decide (A = C))
  cl : ∀ C f, gs.has C f = true → L2.Cls K (ca.ad C) ∧ NoAttr K (ca.ad C) f
  fn : ∀ x g, cm x = none → Φ x = some g → ∃ f fd ps, FnG P w K mg base k f fd ps (spD ca g) ∧ mg x = some (.ref f) ∧ PySem.W.keepIn K (.ref f) = true ∧ Binds K fd ps []
  ini : ∀ x g C, cm x = some (C, ("__init__" : Str)) → Φ x = some g → ∃ f fd ps, FnG P w K mg base k f fd ps (spD ca g) ∧ L2.Mk K (ca.ad C) f ∧ mg C = some (.ref (ca.ad C)) ∧ Binds K fd ps []
  mt : ∀ x g C m, cm x = some (C, m) → Φ x = some g → ∃ f fd ps, FnG P w K mg base k f fd ps (spD ca g) ∧ Meth K (ca.ad C) m f ∧ L2.Cls K (ca.ad C) ∧ Binds K fd ps []
theorem FnG.mono {j k : Nat} {f : Addr} {fd : FuncData} {ps : List Str} {sp : Sp} (F : FnG P w K mg base j f fd ps sp) (h : j ≤ k) : FnG P w K mg base k f fd ps sp := ⟨F.len, fun A outer s H args us vs Q E hr => F.run A outer s H args us vs Q E (hr.mono h)⟩
theorem start_get {N : List Str} {vs : List V} {i : Nat} {v : V} (h : vs[i]? = some v) : (L2.start N vs)[i]? = some (some v) := by
  have hi := (List.getElem?_eq_some_iff.mp h).1
  unfold L2.start
  rw [List.getElem?_append_left (by rw [List.length_map]; exact hi), List.getElem?_map, h] <;> rfl
theorem env0_get {rs : List R} {n i : Nat} {r : R} (h : (rs.map some ++ List.replicate n (none : Option R))[i]? = some (some r)) : rs[i]? = some r := by
  by_cases hi : i < rs.length
  · rw [List.getElem?_append_left (by rw [List.length_map]; exact hi), List.getElem?_map] at h
    cases e : rs[i]? with
    | none => rw [e] at h; cases h
    | some q => rw [e] at h; exact congrArg some (Option.some.inj (Option.some.inj h))
  · rw [List.getElem?_append_right (by rw [List.length_map]; omega)] at h
    have := List.mem_of_getElem? h
    cases (List.eq_of_mem_replicate this)
theorem outs_get {io : List Nat} {n : Nat} {env : En} {j : Nat} {r : R} (h : (outsOf io n env)[j]? = some (some r)) : j < n ∧ j ∈ io ∧ env[j]? = some (some r) := by
  unfold outsOf at h
  rw [List.getElem?_map] at h
  by_cases hj : j < n
  · rw [List.getElem?_range hj] at h
    have h' : (if j ∈ io then env[j]?.join else none) = some r := Option.some.inj h
    split at h'
    · rename_i hio
      cases e : env[j]? with
      | none => rw [e] at h'; cases h'
      | some o => rw [e] at h'; exact ⟨hj, hio, congrArg some h'⟩
    · cases h'
  · rw [List.getElem?_eq_none (by rw [List.length_range]; omega)] at h
    cases h
/-- a def's promise from its fit -/
theorem fnG_run {k : Nat} {f : Addr} {x qual : Str} {st : Stmt} {fd : FuncData} {N ps : List Str} {io : List Nat} {body : S} (Fu : FunX K x qual st f fd) (S : FnScope N ps (defScope st)) (hK : ca.K = K) (m : Mdl P w K mg base ca Φ gs (k + 1))
    (fit : mSs ⟨N, defScope st, fun _ => true, gs⟩ io body (defBody st) = true) :
    FnG P w K mg base (k + 3) f fd ps (spD ca (fun rs => if rs.length = ps.length then runF Φ N.length io body rs else .no)) := by
  refine fnG_of Fu S (fun vs H Q E h => ?_) fun cdv A outer s H vs Q E room h => ?_
  · obtain ⟨F, O, rs, b, lo, rr, h⟩ := h
    rw [rr.length]
    by_cases e : rs.length = ps.length
    · exact e
    · simp only [if_neg e] at h
  · obtain ⟨F, O, rs, b, lo, rr, h⟩ := h
    by_cases e : rs.length = ps.length
    case neg => simp only [if_neg e] at h
    simp only [if_pos e] at h
    have good : GoodS (cxOf (L2.CX P w) P w K mg base N qual (defScope st) f cdv A outer s H E) ca Φ gs (fun cls d _ H' => E cls d H') :=
      ⟨⟨rfl, S.nd, room.mono (by omega), takes_of (X := cxOf (L2.CX P w) P w K mg base N qual (defScope st) f cdv A outer s H E) rfl rfl rfl rfl, m.un, m.gv, m.ic, m.cl, fun x g hc hx => by
        obtain ⟨fa, fd', ps', F1, h1, h2, h3⟩ := m.fn x g hc hx
        exact ⟨k + 1, fa, fd', ps', F1, room.mono (by omega), h1, h2, h3⟩, fun x g C hc hx => by
        obtain ⟨fa, fd', ps', F1, h1, h2, h3⟩ := m.ini x g C hc hx
        exact ⟨k + 1, fa, fd', ps', F1, room, h1, h2, h3⟩, fun x g C m' hc hx => by
        obtain ⟨fa, fd', ps', F1, h1, h2, h3⟩ := m.mt x g C m' hc hx
        exact ⟨k + 1, fa, fd', ps', F1, room.mono (by omega), h1, h2, h3⟩⟩, passes_of (X := cxOf (L2.CX P w) P w K mg base N qual (defScope st) f cdv A outer s H E) rfl⟩
    refine ⟨_, (snd_st hK good body).2 _ fit, F, O, rs.map some ++ List.replicate (N.length - rs.length) none, b.ae fun i r q => ?_, fun a j c z => ?_, ?_⟩
    · obtain ⟨v, v1, v2⟩ := rr.get (env0_get q)
      rw [Nat.zero_add] at v2
      exact ⟨v, start_get v1, v2⟩
    · obtain ⟨i, c', z'⟩ := lo a _ z
      cases z'
    · have e0 : runF Φ N.length io body rs = (ex Φ body (rs.map some ++ List.replicate (N.length - rs.length) none)).bind fun o => match o with
        | .rt r env => .ok (r, outsOf io rs.length env)
        | .nx env => .ok (.sh .non, outsOf io rs.length env)
        | _ => .no := rfl
      rw [e0] at h
      have outs : ∀ {env : En} {σ' : L2.St} {F' H' : Hp} {O' : Own}, Fx io (L2.start N vs) σ' → AE ca F' O' env σ' H' → ∀ j r', (outsOf io rs.length env)[j]? = some (some r') → ∃ v', vs[j]? = some v' ∧ RepR ca F' H' O' (.s j) r' v' := by
        intro env σ' F' H' O' fx ae j r' q
        obtain ⟨q1, q2, q3⟩ := outs_get q
        obtain ⟨v', w1, w2⟩ := ae.slot j r' q3
        rw [fx.2 j q2] at w1
        have hj : j < vs.length := by rw [rr.length]; exact q1
        have w3 := start_get (N := N) (List.getElem?_eq_getElem hj)
        rw [w1] at w3
        cases w3
        exact ⟨_, List.getElem?_eq_getElem hj, w2⟩
      cases eo : ex Φ body (rs.map some ++ List.replicate (N.length - rs.length) none) with
      | no => rw [eo] at h; exact h.elim
      | ex c d =>
        rw [eo] at h
        exact fun dx v n σ' F' O' H' fx st b' hx hr => h dx v n F' O' H' st b' hx hr
      | ok o =>
        rw [eo] at h
        cases o with
        | nx env => exact fun σ' F' O' H' fx st ae bl => h .non F' O' H' st ae.bs (by show Rep ca F' .non .non; unfold Rep; rfl) (outs fx ae)
        | rt r env => exact fun σ' F' O' H' fx st v ae rv bl => h v F' O' H' st ae.bs rv (outs fx ae)
        | bk env => exact h.elim
        | ct env => exact h.elim
end
end FH
set_option Elab.async false
set_option linter.all false
set_option maxRecDepth 100000
set_option maxHeartbeats 2000000
namespace FH
open PySem PySem.Spec PyProof.Rows L2
section
variable {P : Program} {w : World} {K : PySem.W.Frag} {mg mb : Str → Option Value} {k : Nat} {fa a : Addr} {fd : FuncData} {x : Str} {sp : Sp} {t : Shared} {vs : List Value} {ns : List Int}
/-- the end of the law's call, seen from an abstract heap with at most the script in it -/
theorem run_from (inK : K.In t.heap) (nG : t.heap.Ns mainGlobals mg) (nB : t.heap.Ns builtinsNs mb) (boot : ∀ x : Str, x ≠ "__name__" → mb x = bootBuiltins x) (noLim : t.heap.NoLimit) (bare : t.gens = #[])
    (at_a : t.heap.get? a = some { cls := .type "list", data := .seq vs.toArray }) (room : RoomG k callerA) (Fn : ∀ base : Heap, K.In base → base.Ns mainGlobals mg → FnG P w K mg base k fa fd [x] sp) (bnd : ∀ (s : Shared) (u : Value), BindsTo s fd ⟨[u], []⟩ [(x, u)])
    (H : Hp) (only : Only H) (hsp : sp [.ref a] H (fun v _ => v = .bl true) fun _ _ _ => False) (ok : HOk P w H t.heap) (one : ∀ b, H b ≠ none → b = a) (not : H a ≠ none → K.lookup a = none) :
    codeAny (model P w) callerA (.call (.ref fa) ⟨[.ref a], []⟩) (fun r s' => r = .ok (.ret (.bool true)) ∧ OldK t.heap s'.heap ∧ s'.os = t.os ∧ AllBare s'.gens) t := by
  have off : ∀ {b : Addr} {o : Obj} {es : Array DictEntry} {ep : Nat}, t.heap.get? b = some o → o.data = .dict es ep → H b = none := by
    intro b o es ep g1 g2
    by_cases n : H b = none
    · exact n
    · have z := one b n
      rw [z, at_a] at g1
      cases g1
      cases (show Data.seq vs.toArray _ = Data.dict es ep from g2)
  have space : ∀ {b : Addr} {m : Str → Option Value}, t.heap.Ns b m → (hidT t.heap H).Ns b m := by
    rintro b m ⟨o, es, ep, g1, g2, g3⟩
    exact ⟨o, es, ep, hidT_get g1 (off g1 g2), g2, g3⟩
  have inB : K.In (hidT t.heap H) := by
    intro b o g
    refine hidT_get (inK b o g) ?_
    by_cases n : H b = none
    · exact n
    · have z := one b n
      have y := not (by rw [← z]; exact n)
      rw [z, y] at g
      cases g
  have limB : (hidT t.heap H).NoLimit := by
    obtain ⟨mc, l1, l2⟩ := noLim
    exact ⟨mc, space l1, l2⟩
  have mod : Mod K mg (hidT t.heap H) := ⟨inB, space nG, ⟨mb, space nB, boot⟩, limB⟩
  have env : Env0 P w K mg (hidT t.heap H) callerA [] t H := ⟨rfl, mod, fun b o g => of_hidT g, Nat.le_of_eq (hidT_size _ _), trivial, fun b hb => (nomatch (show b ∈ ([] : List Addr) from hb)), ok, .of_eq bare⟩
  have go := (Fn _ inB (space nG)).run callerA [] t H ⟨[.ref a], []⟩ [.ref a] [.ref a] _ _ room env (bnd t (.ref a)) (.cons rfl .nil) hsp
  refine codeAny_mono go ?_
  intro r s' h
  match r, h with
  | .error e, h =>
    obtain ⟨_, _, _, _, _, _, _, _, _, _, _, _, z⟩ := h
    exact z.elim
  | .ok .next, h => exact h.elim
  | .ok .brk, h => exact h.elim
  | .ok .cont, h => exact h.elim
  | .ok (.ret u), h =>
    obtain ⟨v, H', os, bare', un, ok', ru, q⟩ := h
    have q' : v = .bl true := q
    rw [q'] at ru
    obtain rfl : u = Value.bool true := ru
    refine ⟨rfl, OldK.of_keep fun b o g => ?_, os, bare'⟩
    rcases only b with n | ⟨ob, xs, n⟩
    · exact un.keep b o g n (fun z => (nomatch (show b ∈ ([] : List Addr) from z))) (by simp)
    · obtain ⟨e1, _⟩ := ok b _ n
      obtain ⟨e2, _⟩ := ok' b _ (un.frzs b ob _ n)
      rw [g] at e1
      cases e1
      exact e2
theorem run_law (inK : K.In t.heap) (nG : t.heap.Ns mainGlobals mg) (nB : t.heap.Ns builtinsNs mb) (boot : ∀ x : Str, x ≠ "__name__" → mb x = bootBuiltins x) (noLim : t.heap.NoLimit) (bare : t.gens = #[])
    (at_a : t.heap.get? a = some { cls := .type "list", data := .seq vs.toArray }) (areI : IntsAre vs ns) (len : ns.length ≤ sizeLine) (room : RoomG k callerA) (Fn : ∀ base : Heap, K.In base → base.Ns mainGlobals mg → FnG P w K mg base k fa fd [x] sp)
    (bnd : ∀ (s : Shared) (u : Value), BindsTo s fd ⟨[u], []⟩ [(x, u)]) (hsp : ∀ H : Hp, Only H → SqL K H a (ns.map V.int) → sp [.ref a] H (fun v _ => v = .bl true) fun _ _ _ => False) :
    codeAny (model P w) callerA (.call (.ref fa) ⟨[.ref a], []⟩) (fun r s' => r = .ok (.ret (.bool true)) ∧ OldK t.heap s'.heap ∧ s'.os = t.os ∧ AllBare s'.gens) t := by
  have rv := vals_ints areI
  have lv := areI.length
  by_cases hk : K.lookup a = none
  · -- the one tracked thing is the script, frozen
    refine run_from inK nG nB boot noLim bare at_a room Fn bnd (fun b => if b = a then some (.frz { cls := .type "list", data := .seq vs.toArray } (.lst (ns.map V.int))) else none) (fun b => ?_) (hsp _ (fun b => ?_) (.inl (.inr ⟨{ cls := .type "list", data := .seq vs.toArray }, if_pos rfl⟩))) (fun b u z => ?_) (fun b z => ?_) fun _ => hk
    · by_cases hb : b = a
      · exact .inr ⟨_, _, if_pos hb⟩
      · exact .inl (if_neg hb)
    · by_cases hb : b = a
      · exact .inr ⟨_, _, if_pos hb⟩
      · exact .inl (if_neg hb)
    · by_cases hb : b = a
      · have y := (if_pos hb).symm.trans z
        cases y
        rw [hb]
        exact ⟨at_a, by rw [List.length_map]; exact len, vs, _, rv, at_a⟩
      · have y := (if_neg hb).symm.trans z
        cases y
    · by_cases hb : b = a
      · exact hb
      · exact absurd (if_neg hb) z
  · -- the script is an object of the module
    obtain ⟨o, ho⟩ := Option.ne_none_iff_exists'.mp hk
    have g := inK a o ho
    rw [at_a] at g
    cases g
    exact run_from inK nG nB boot noLim bare at_a room Fn bnd (fun _ => none) (fun _ => .inl rfl) (hsp _ (fun _ => .inl rfl) (.inr ⟨_, vs.toArray, _, ho, rfl, rfl, rfl, by rw [List.size_toArray, lv]; exact len, by simpa using rv⟩))
      (fun b u z => (nomatch (show (none : Option HO) = some u from z))) (fun b z => absurd rfl z) fun z => absurd rfl z
end
/-- what a law's head is to give -/
theorem walk_G {l : PySem.W.OpenLaw} {n k : Nat} {q : Program} {loose : List Str} {XP : (Str → Option Value) → Heap → Prop} {YP : World → Heap → Prop} {d : DefRec} {x : Str} (hn : l.most = some n) (hn2 : n ≤ sizeLine) (hdf : d.params.defaults = []) (hr : k ≤ 60)
    (F : ∀ (w : World) (mg : Str → Option Value) (fa : Addr) (h : Heap), YP w h → h.Ns mainGlobals mg → mg d.name = some (.ref fa) → ∃ (K : PySem.W.Frag) (fd : FuncData) (sp : Sp), K.In h ∧ (∀ (s : Shared) (u : Value), BindsTo s fd ⟨[u], []⟩ [(x, u)]) ∧
      (∀ (H : Hp) (a : Addr) (ns : List Int), ns.length ≤ n → Only H → SqL K H a (ns.map V.int) → sp [.ref a] H (fun v _ => v = .bl true) fun _ _ _ => False) ∧ ∀ base : Heap, K.In base → base.Ns mainGlobals mg → FnG l.prog w K mg base k fa fd [x] sp) :
    PySem.W.WalkO q loose XP YP l.row.toRowW d [] (fun f vs => PySem.call f vs) := by
  refine Att.attach_call hn hdf fun w s0 s1 mg mb fa o pm cd doc a vs ns G Y ho hd hcd hmg hobj hints hlen hg => ?_
  obtain ⟨K, fd, sp, inK, bnd, hsp, Fn⟩ := F w mg fa _ Y G.T.g hmg
  exact run_law inK G.T.g G.T.b G.T.builtins G.T.nolimit hg hobj hints (Nat.le_trans hlen hn2) (caller_room hr) Fn bnd fun H oH sH => hsp H a ns hlen oH sH
/-- the law's promise from what its def computes -/
theorem spD_law {ca : Cs} {g : Sem1} {K : PySem.W.Frag} {H : Hp} {a : Addr} {ns : List Int} (hK : ca.K = K) (only : Only H) (sq : SqL K H a (ns.map V.int)) (hg : ∃ outs, g [.sh (.scr ns)] = .ok (.sh (.bl true), outs)) : spD ca g [.ref a] H (fun v _ => v = .bl true) fun _ _ _ => False := by
  obtain ⟨outs, e⟩ := hg
  refine ⟨H, fun _ => none, [.sh (.scr ns)], ⟨.refl _, fun a l z => (nomatch z), fun a l z => (nomatch z)⟩, fun a l z => (nomatch z), ⟨_, [], rfl, ?_, rfl⟩, ?_⟩
  · show Rep ca H (.scr ns) (.ref a)
    unfold Rep
    exact ⟨a, rfl, by rw [hK]; exact sq⟩
  · rw [e]
    intro v F' O' H' st b rv ho
    have rv' : Rep ca F' (.bl true) v := rv
    unfold Rep at rv'
    exact rv'
end FH
set_option Elab.async false
set_option linter.all false
set_option maxRecDepth 100000
set_option maxHeartbeats 2000000
namespace FH
open PySem PySem.Spec PyProof.Rows L2
/-- m ends well, or raises as told -/
def OkM {α : Type} (m : M α) (Q : α → Prop) (X : Str → D → Prop) : Prop := match m with
  | .ok a => Q a
  | .ex c d => X c d
  | .no => False
section
variable {α β : Type} {m : M α} {f : α → M β} {X : Str → D → Prop}
theorem OkM.bind {Q : β → Prop} (h : OkM m (fun a => OkM (f a) Q X) X) : OkM (m.bind f) Q X := by
  cases m with
  | ok a => exact h
  | ex c d => exact h
  | no => exact h
theorem OkM.imp {Q Q' : α → Prop} (h : OkM m Q X) (i : ∀ a, Q a → Q' a) : OkM m Q' X := by
  cases m with
  | ok a => exact i a h
  | ex c d => exact h
  | no => exact h
theorem OkM.of {Q : α → Prop} {a : α} (e : m = .ok a) (q : Q a) : OkM m Q X := by rw [e]; exact q
end
theorem okIf {α : Type} {c : Prop} [Decidable c] {m m' : M α} {Q : α → Prop} {X : Str → D → Prop} (h : c) (q : OkM m Q X) : OkM (if c then m else m') Q X := by rw [if_pos h]; exact q
/-! ### operations by wishes -/
def wOk (m : M R) (K : R → Prop) : Prop := match m with
  | .ok r => K r
  | _ => False
def wOpt (o : Option D) (K : D → Prop) : Prop := ∃ d, o = some d ∧ K d
def wBo (o : Option Bool) (K : Bool → Prop) : Prop := ∃ b, o = some b ∧ K b
def wBin : Operator → D → D → (R → Prop) → Prop
  | .Add, .str a, .str b, K => a.length + b.length ≤ LIM ∧ K (.sh (.str (a ++ b)))
  | .Add, .lst _ xs, .lst _ ys, K => xs.length + ys.length ≤ LIM ∧ K (.ow (.lst none (xs ++ ys)))
  | .Mult, .int i, .int j, K => (small i || small j) = true ∧ K (.sh (.int (i * j)))
  | .Mult, .lst _ xs, .int j, K => (-1000000 ≤ j ∧ j ≤ 1000000 ∧ xs.length * j.toNat ≤ LIM) ∧ K (.ow (.lst none (List.replicate j.toNat xs).flatten))
  | .Mult, .str s, .int j, K => (-1000000 ≤ j ∧ j ≤ 1000000 ∧ s.length * j.toNat ≤ LIM) ∧ K (.sh (.str (strRep s j.toNat)))
  | .FloorDiv, .int i, .int j, K => (0 < j ∧ j < 1073741824) ∧ K (.sh (.int (i / j)))
  | .Mod, .int i, .int j, K => 0 < j ∧ K (.sh (.int (i % j)))
  | .Pow, .int i, .int j, K => (0 ≤ j ∧ j ≤ 1000000 ∧ i.natAbs < 2 ^ 64) ∧ K (.sh (.int (i ^ j.toNat)))
  | op, a, b, K => wOk (semBin op a b) K
theorem wOk_ok {m : M R} {K : R → Prop} {X : Str → D → Prop} (h : wOk m K) : OkM m K X := by
  cases m with
  | ok r => exact h
  | ex c d => exact h.elim
  | no => exact h.elim
theorem wBin_ok {op : Operator} {a b : D} {K : R → Prop} {X : Str → D → Prop} (h : wBin op a b K) : OkM (semBin op a b) K X := by
  unfold wBin at h
  split at h <;> first
    | exact wOk_ok h
    | (obtain ⟨h1, h2⟩ := h
       show OkM (if _ then _ else _) _ _
       rw [if_pos h1]
       exact h2)
def wCmp : CmpOp → D → D → (R → Prop) → Prop
  | .Eq, a, b, K => wBo (eqD a b) fun t => K (.sh (.bl t))
  | .NotEq, a, b, K => wBo (eqD a b) fun t => K (.sh (.bl (!t)))
  | .In, a, b, K => wBo (semIn a b) fun t => K (.sh (.bl t))
  | .NotIn, a, b, K => wBo (semIn a b) fun t => K (.sh (.bl (!t)))
  | op, a, b, K => wOk (semCmp op a b) K
theorem wCmp_ok {op : CmpOp} {a b : D} {K : R → Prop} {X : Str → D → Prop} (h : wCmp op a b K) : OkM (semCmp op a b) K X := by
  unfold wCmp at h
  split at h <;> first
    | exact wOk_ok h
    | (obtain ⟨t, e, q⟩ := h
       unfold semCmp
       simp only [e, mbo, Option.map_some]
       exact q)
def wIdx : D → D → (R → Prop) → Prop
  | .lst _ xs, .int i, K => wOpt (atI xs i) fun d => K (.sh d)
  | .scr ns, .int i, K => ∃ n, atI ns i = some n ∧ K (.sh (.int n))
  | .tup xs, .int i, K => wOpt (atI xs i) fun d => K (.sh d)
  | .str s, .int i, K => s.length ≤ LIM ∧ ∃ c, atI s.cps.toList i = some c ∧ K (.sh (.str ⟨#[c]⟩))
  | a, b, K => wOk (semIdx a b) K
theorem wIdx_ok {a b : D} {K : R → Prop} {X : Str → D → Prop} (h : wIdx a b K) : OkM (semIdx a b) K X := by
  unfold wIdx at h
  split at h
  · obtain ⟨d, e, q⟩ := h
    unfold semIdx
    simp only [e, mopt]
    exact q
  · obtain ⟨d, e, q⟩ := h
    unfold semIdx
    simp only [e, mopt, Option.map_some]
    exact q
  · obtain ⟨d, e, q⟩ := h
    unfold semIdx
    simp only [e, mopt]
    exact q
  · obtain ⟨hl, d, e, q⟩ := h
    refine okIf hl ?_
    unfold oneStr
    simp only [e, mopt, Option.map_some]
    exact q
  · exact wOk_ok h
def wSl (d : D) (lo hi : Option Int) (K : R → Prop) : Prop := match d with
  | .lst _ xs => K (.ow (.lst none (cutD xs lo hi)))
  | .str s => s.length ≤ LIM ∧ K (.sh (.str (cutS s lo hi)))
  | _ => False
theorem wSl_ok {d : D} {lo hi : Option Int} {K : R → Prop} {X : Str → D → Prop} (h : wSl d lo hi K) : OkM (semSl d lo hi) K X := by
  unfold wSl at h
  split at h
  · exact h
  · exact okIf h.1 h.2
  · exact h.elim
def wFn : Fn → List D → (R → Prop) → Prop
  | .len, [.str s], K => s.length ≤ LIM ∧ K (.sh (.int s.length))
  | .int, [.str s], K => ∃ n, PySem.intText? s = some n ∧ s.length ≤ 640 ∧ K (.sh (.int n))
  | .str, [.int i], K => i.natAbs.log2 < 1920 ∧ K (.sh (.str (toString i)))
  | .all, [.lst _ xs], K => ∃ bs, blsOf xs = some bs ∧ K (.sh (.bl (bs.all id)))
  | .any, [.lst _ xs], K => ∃ bs, blsOf xs = some bs ∧ K (.sh (.bl (bs.any id)))
  | .sum, [.lst _ xs], K => ∃ is, intsOf xs = some is ∧ K (.sh (.int is.sum))
  | .repr, [d], K => ∃ x, toPy d = some x ∧ (x.canLay0 && (x.showable && (decide (x.depth ≤ 40) && decide (x.shown.length ≤ LIM)))) = true ∧ K (.sh (.str x.shown))
  | f, ds, K => wOk (semFn f ds) K
theorem wFn_ok {f : Fn} {ds : List D} {K : R → Prop} {X : Str → D → Prop} (h : wFn f ds K) : OkM (semFn f ds) K X := by
  unfold wFn at h
  split at h
  · exact okIf h.1 h.2
  · obtain ⟨n, e, hl, q⟩ := h
    show OkM (semInt [.str _]) K X
    unfold semInt
    simp only [e]
    exact okIf hl q
  · exact okIf h.1 h.2
  · obtain ⟨n, e, q⟩ := h
    rename_i t xs
    show OkM (semAll [.lst t xs]) K X
    unfold semAll
    simp only [e]
    exact q
  · obtain ⟨n, e, q⟩ := h
    rename_i t xs
    show OkM (semAny [.lst t xs]) K X
    unfold semAny
    simp only [e]
    exact q
  · obtain ⟨n, e, q⟩ := h
    rename_i t xs
    show OkM (semSum [.lst t xs]) K X
    unfold semSum
    simp only [e]
    exact q
  · obtain ⟨n, e, hc, q⟩ := h
    show OkM (semRepr [_]) K X
    unfold semRepr
    simp only [e]
    exact okIf hc q
  · exact wOk_ok h
def wP : P → List D → (R → Prop) → Prop
  | .bin op, [a, b], K => wBin op a b K
  | .cmp op, [a, b], K => wCmp op a b K
  | .idx, [a, b], K => wIdx a b K
  | .sl true true, [d, .int i, .int j], K => wSl d (some i) (some j) K
  | .sl true false, [d, .int i], K => wSl d (some i) none K
  | .sl false true, [d, .int j], K => wSl d none (some j) K
  | .fn f, ds, K => wFn f ds K
  | p, ds, K => wOk (p.sem ds) K
theorem wP_ok {p : P} {ds : List D} {K : R → Prop} {X : Str → D → Prop} (h : wP p ds K) : OkM (p.sem ds) K X := by
  unfold wP at h
  split at h
  · exact wBin_ok h
  · exact wCmp_ok h
  · exact wIdx_ok h
  · exact wSl_ok h
  · exact wSl_ok h
  · exact wSl_ok h
  · exact wFn_ok h
  · exact wOk_ok h
def wMt : Mt → List D → (R → Prop) → Prop
  | .join, [.str z, .lst _ xs], K => ∃ ss, strsOf xs = some ss ∧ (ss.map (·.length)).sum + ss.length * z.length ≤ LIM ∧ K (.sh (.str (Txt.join z ss)))
  | m, ds, K => wOk (semMt m ds) K
theorem wMt_ok {m : Mt} {ds : List D} {K : R → Prop} {X : Str → D → Prop} (h : wMt m ds K) : OkM (semMt m ds) K X := by
  unfold wMt at h
  split at h
  · obtain ⟨n, e, hl, q⟩ := h
    rename_i z t xs
    show OkM (semJoin [.str z, .lst t xs]) K X
    unfold semJoin
    simp only [e]
    exact okIf hl q
  · exact wOk_ok h
/-! ### terms by wishes -/
def w1 (rs : List R) (K : R → Prop) : Prop := match rs with
  | [r] => K r
  | _ => False
def wB (r : R) (K : Bool → Prop) : Prop := match r with
  | .sh (.bl t) => K t
  | _ => False
def wGet (env : En) (i : Nat) (K : R → Prop) : Prop := match env[i]? with
  | some (some r) => K r
  | _ => False
def wRes (b : Bool) (K : Prop) : Prop := match b with
  | true => K
  | false => False
def wIf (t : Bool) (A B : Prop) : Prop := (t = true → A) ∧ (t = false → B)
def wTg (tg : Tg) (d : D) (env : En) (K : En → Prop) : Prop := match setT tg d env with
  | .ok e => K e
  | _ => False
def wSrc (o : Option (List D)) (K : List R → Prop) : Prop := ∃ xs, o = some xs ∧ xs.length ≤ LIM ∧ K [.sh (.lst none xs)]
def wRng (ds : List D) (K : List R → Prop) : Prop := match ds with
  | [.int n] => (-LIM ≤ n ∧ n ≤ LIM) ∧ K [.sh (.lst none (rngD 0 n))]
  | [.int a, .int b] => (-LIM ≤ a ∧ a ≤ LIM ∧ -LIM ≤ b ∧ b ≤ LIM ∧ b - a ≤ LIM) ∧ K [.sh (.lst none (rngD a b))]
  | _ => False
def wZip (ds : List D) (K : List R → Prop) : Prop := match ds with
  | [.lst _ xs, .lst _ ys] => xs.length ≤ LIM ∧ K [.sh (.lst none (zipD xs ys))]
  | _ => False
def wFt (o : Option Sem1) (K : Sem1 → Prop) : Prop := ∃ g, o = some g ∧ K g
def wCond : T → (En → (List R → En → Prop) → Prop) → En → (Bool → En → Prop) → Prop
  | .nil, _, env, K => K true env
  | _, f, env, K => f env fun z env3 => w1 z fun b => wB b fun t => K t env3
def wPair (o : Option (List (Key × D))) (K : R → Prop) : Prop := match o with
  | some kvs => K (.ow (.dic none (mergeD [] kvs)))
  | none => False
section
variable (Φ : FT)
def wE : T → (Str → D → Prop) → En → (List R → En → Prop) → Prop
  | .var i, X, env, Q => wGet env i fun r => Q [sh1 r] (env.set i (some (sh1 r)))
  | .mv i, X, env, Q => wGet env i fun r => Q [r] (env.set i none)
  | .lit v, X, env, Q => Q [.sh (dV v)] env
  | .glb _ v, X, env, Q => Q [.sh (dV v)] env
  | .nil, X, env, Q => Q [] env
  | .cons e es, X, env, Q => wE e X env fun a env1 => w1 a fun r => wE es X env1 fun rs env2 => Q (r :: rs) env2
  | .late _ _, _, _, _ => False
  | .om _ _ _, _, _, _ => False
  | .mk _ _, _, _, _ => False
  | .bor _, _, _, _ => False
  | .prim p es, X, env, Q => wE es X env fun rs env1 => wP p (rs.map R.d) fun r => wRes (okRes rs r) (Q [r] (backs (rs.map some) (bkOf es) env1))
  | .mth m e es, X, env, Q => wE e X env fun a env1 => w1 a fun r => wRes (m.okD r.d) (wE es X env1 fun rs env2 => wMt m (r.d :: rs.map R.d) fun q => wRes (okRes (r :: rs) q) (Q [q] (backs (some r :: rs.map some) (bkOf (.cons e es)) env2)))
  | .call f es, X, env, Q => wFt (Φ f) fun g => wE es X env fun rs env1 => OkM (g rs) (fun a => Q [a.1] (backs a.2 (bkOf es) env1)) X
  | .lst es, X, env, Q => wE es X env fun rs env1 => Q [.ow (.lst none (rs.map R.d))] env1
  | .tup es, X, env, Q => wE es X env fun rs env1 => Q [.tp (rs.map cmpOf)] env1
  | .dic es, X, env, Q => wE es X env fun rs env1 => wPair (pairD (rs.map R.d)) fun r => Q [r] env1
  | .one a, X, env, Q => wE a X env Q
  | .frz a, X, env, Q => wE a X env fun c env1 => w1 c fun r => Q [sh1 r] env1
  | .and a b, X, env, Q => wE a X env fun c env1 => w1 c fun r => wB r fun t => wIf t (wE b X env1 Q) (Q [.sh (.bl false)] env1)
  | .or a b, X, env, Q => wE a X env fun c env1 => w1 c fun r => wB r fun t => wIf t (Q [.sh (.bl true)] env1) (wE b X env1 Q)
  | .not a, X, env, Q => wE a X env fun c env1 => w1 c fun r => wB r fun t => Q [.sh (.bl (!t))] env1
  | .ite c a b, X, env, Q => wE c X env fun c env1 => w1 c fun r => wB r fun t => wIf t (wE a X env1 Q) (wE b X env1 Q)
  | .chain p q a b c, X, env, Q => wE a X env fun x env1 => w1 x fun ra => wE b X env1 fun y env2 => w1 y fun rb => wCmp p ra.d rb.d fun r => wB r fun t => wIf t (wE c X env2 fun z env3 => w1 z fun rc => wCmp q rb.d rc.d fun r2 => Q [r2] env3) (Q [.sh (.bl false)] env2)
  | .comp own elt tg src cond, X, env, Q => wE src X env fun x env1 => w1 x fun r => ∃ t xs, r = .sh (.lst t xs) ∧ xs.length ≤ LIM ∧ ∃ I : Nat → List D → En → Prop, I 0 [] (wipeE env1 (own.map (·.2))) ∧
      (∀ i d ys env, xs[i]? = some d → I i ys env → wTg tg d env fun env2 => wCond cond (wE cond (fun _ _ => False)) env2 fun t env3 => wIf t (wE elt (fun _ _ => False) env3 fun z env4 => w1 z fun y => I (i + 1) (ys ++ [y.d]) (wipeE env4 (own.map (·.2)))) (I (i + 1) ys (wipeE env3 (own.map (·.2))))) ∧
      ∀ ys env, I xs.length ys env → Q [.ow (.lst none ys)] (restore (own.map (·.2)) env1 env)
  | .sval e, X, env, Q => wE e X env fun x env1 => w1 x fun r => wSrc (itemsOf r.d) fun rs => Q rs env1
  | .srng es, X, env, Q => wE es X env fun rs env1 => wRng (rs.map R.d) fun a => Q a env1
  | .senum e, X, env, Q => wE e X env fun x env1 => w1 x fun r => wSrc ((enumOf r.d).map enumD) fun rs => Q rs env1
  | .szip es, X, env, Q => wE es X env fun rs env1 => wZip (rs.map R.d) fun a => Q a env1
end
section
variable {Φ : FT} {X : Str → D → Prop}
theorem w1_ok {m : M (List R × En)} {Q : List R → En → Prop} {K : R × En → Prop} (h : OkM m (fun a => Q a.1 a.2) X) (i : ∀ rs env, Q rs env → w1 rs fun r => K (r, env)) : OkM (one1 m) K X := by
  cases m with
  | ok a =>
    obtain ⟨rs, env⟩ := a
    have q := i rs env h
    unfold w1 at q
    match rs, q with
    | [r], q => exact q
  | ex c d => exact h
  | no => exact h
theorem wGet_ok {env : En} {i : Nat} {K : R → Prop} (h : wGet env i K) : OkM (getS env i) K X := by
  unfold wGet at h
  cases e : env[i]? with
  | none => rw [e] at h; exact h.elim
  | some o => cases o with
    | none => rw [e] at h; exact h.elim
    | some r =>
      rw [e] at h
      rw [getS_ok e]
      exact h
theorem wRes_ok {b : Bool} {K : Prop} (h : wRes b K) : b = true ∧ K := by
  cases b with
  | true => exact ⟨rfl, h⟩
  | false => exact h.elim
theorem wB_ok {r : R} {K : Bool → Prop} (h : wB r K) : OkM (asB r) K X := by
  unfold wB at h
  unfold asB
  split at h
  · exact h
  · exact h.elim
theorem wSrc_ok {xs : List D} {env : En} {K : List R → Prop} (h : xs.length ≤ LIM ∧ K [.sh (.lst none xs)]) : OkM (srcR xs env) (fun a => K a.1 ∧ a.2 = env) X := by
  unfold srcR
  rw [if_pos h.1]
  exact ⟨h.2, rfl⟩
theorem wIf_ok {t : Bool} {A B : Prop} (h : wIf t A B) : if t = true then A else B := by
  cases t with
  | true => exact h.1 rfl
  | false => exact h.2 rfl
theorem compL_ok {f : D → En → M (Option D × En)} {I : Nat → List D → En → Prop} {xs : List D} (hs : ∀ i d ys env, xs[i]? = some d → I i ys env → OkM (f d env) (fun a => I (i + 1) (ys ++ a.1.toList) a.2) fun _ _ => False) :
    ∀ (n : Nat) (ys : List D) (env : En), n ≤ xs.length → I n ys env → OkM (compL f (xs.drop n) env) (fun a => I xs.length (ys ++ a.1) a.2) X := by
  intro n ys env hn h
  generalize hm : xs.length - n = m
  induction m generalizing n ys env with
  | zero =>
    have e : n = xs.length := by omega
    subst e
    rw [List.drop_eq_nil_of_le (Nat.le_refl _)]
    show I xs.length (ys ++ []) env
    rw [List.append_nil]
    exact h
  | succ m ih =>
    have hlt : n < xs.length := by omega
    rw [List.drop_eq_getElem_cons hlt]
    have h1 := hs n xs[n] ys env (List.getElem?_eq_getElem hlt) h
    show OkM ((f xs[n] env).bind fun a => (compL f (xs.drop (n + 1)) a.2).bind fun b => .ok (a.1.toList ++ b.1, b.2)) _ X
    cases e : f xs[n] env with
    | no => rw [e] at h1; exact h1.elim
    | ex c d => rw [e] at h1; exact h1.elim
    | ok a =>
      rw [e] at h1
      show OkM ((compL f (xs.drop (n + 1)) a.2).bind fun b => .ok (a.1.toList ++ b.1, b.2)) _ X
      refine OkM.bind (OkM.imp (ih (n + 1) (ys ++ a.1.toList) a.2 (by omega) h1 (by omega)) fun b q => ?_)
      show I xs.length (ys ++ (a.1.toList ++ b.1)) b.2
      rw [← List.append_assoc]
      exact q
theorem noex_okM {α : Type} {m : M α} {Q : α → Prop} (h : OkM m Q fun _ _ => False) : OkM m.noex Q fun _ _ => False := by
  cases m with
  | ok a => exact h
  | ex c d => exact h.elim
  | no => exact h.elim
end
end FH
set_option Elab.async false
set_option linter.all false
set_option maxRecDepth 100000
set_option maxHeartbeats 2000000
namespace FH
open PySem PySem.Spec PyProof.Rows L2
section
variable {Φ : FT}
theorem wE_ok (e : T) : ∀ (X : Str → D → Prop) (env : En) (Q : List R → En → Prop), wE Φ e X env Q → OkM (ev Φ e env) (fun a => Q a.1 a.2) X := by
  induction e with
  | var i =>
    intro X env Q h
    have h' : wGet env i fun r => Q [sh1 r] (env.set i (some (sh1 r))) := h
    exact OkM.bind (m := getS env i) (wGet_ok h')
  | mv i =>
    intro X env Q h
    have h' : wGet env i fun r => Q [r] (env.set i none) := h
    exact OkM.bind (m := getS env i) (wGet_ok h')
  | lit v => intro X env Q h; exact h
  | glb y v => intro X env Q h; exact h
  | nil => intro X env Q h; exact h
  | cons e es ih1 ih2 =>
    intro X env Q h
    refine OkM.bind (m := one1 (ev Φ e env)) (w1_ok (ih1 X env _ h) fun rs env1 q => ?_)
    unfold w1 at q ⊢
    split at q
    · exact OkM.bind (ih2 X env1 _ q)
    · exact q.elim
  | late i es ih => intro X env Q h; exact h.elim
  | om x e es ih1 ih2 => intro X env Q h; exact h.elim
  | mk x es ih => intro X env Q h; exact h.elim
  | bor e ih => intro X env Q h; exact h.elim
  | prim p es ih =>
    intro X env Q h
    refine OkM.bind (m := ev Φ es env) (OkM.imp (ih X env _ h) fun a q => ?_)
    refine OkM.bind (OkM.imp (wP_ok q) fun r q2 => ?_)
    obtain ⟨q3, q4⟩ := wRes_ok q2
    exact okIf q3 q4
  | mth m e es ih1 ih2 =>
    intro X env Q h
    refine OkM.bind (m := one1 (ev Φ e env)) (w1_ok (ih1 X env _ h) fun rs env1 q => ?_)
    unfold w1 at q ⊢
    split at q
    · obtain ⟨q1, q2⟩ := wRes_ok q
      refine okIf q1 (OkM.bind (OkM.imp (ih2 X env1 _ q2) fun b q3 => ?_))
      refine OkM.bind (OkM.imp (wMt_ok q3) fun r q4 => ?_)
      obtain ⟨q5, q6⟩ := wRes_ok q4
      exact okIf q5 q6
    · exact q.elim
  | call f es ih =>
    intro X env Q h
    have e0 : ev Φ (.call f es) env = (match Φ f with
      | some g => (ev Φ es env).bind fun a => (g a.1).bind fun b => .ok ([b.1], backs b.2 (bkOf es) a.2)
      | none => .no) := rfl
    rw [e0]
    obtain ⟨g, eg, h'⟩ := h
    simp only [eg]
    exact OkM.bind (OkM.imp (ih X env _ h') fun a q => OkM.bind q)
  | lst es ih =>
    intro X env Q h
    exact OkM.bind (m := ev Φ es env) (ih X env _ h)
  | tup es ih =>
    intro X env Q h
    exact OkM.bind (m := ev Φ es env) (ih X env _ h)
  | dic es ih =>
    intro X env Q h
    refine OkM.bind (m := ev Φ es env) (OkM.imp (ih X env _ h) fun a q => ?_)
    unfold wPair at q
    split at q
    · rename_i e
      simp only [e]
      exact q
    · exact q.elim
  | one a ih => intro X env Q h; exact ih X env Q h
  | frz a ih =>
    intro X env Q h
    refine OkM.bind (m := one1 (ev Φ a env)) (w1_ok (ih X env _ h) fun rs env1 q => ?_)
    unfold w1 at q ⊢
    split at q
    · exact q
    · exact q.elim
  | and a b ih1 ih2 =>
    intro X env Q h
    refine OkM.bind (m := one1 (ev Φ a env)) (w1_ok (ih1 X env _ h) fun rs env1 q => ?_)
    unfold w1 at q ⊢
    split at q
    · refine OkM.bind (OkM.imp (wB_ok q) fun t q2 => ?_)
      cases t with
      | true => exact ih2 X env1 _ (q2.1 rfl)
      | false => exact q2.2 rfl
    · exact q.elim
  | or a b ih1 ih2 =>
    intro X env Q h
    refine OkM.bind (m := one1 (ev Φ a env)) (w1_ok (ih1 X env _ h) fun rs env1 q => ?_)
    unfold w1 at q ⊢
    split at q
    · refine OkM.bind (OkM.imp (wB_ok q) fun t q2 => ?_)
      cases t with
      | true => exact q2.1 rfl
      | false => exact ih2 X env1 _ (q2.2 rfl)
    · exact q.elim
  | not a ih =>
    intro X env Q h
    refine OkM.bind (m := one1 (ev Φ a env)) (w1_ok (ih X env _ h) fun rs env1 q => ?_)
    unfold w1 at q ⊢
    split at q
    · exact OkM.bind (OkM.imp (wB_ok q) fun t q2 => q2)
    · exact q.elim
  | ite c a b ih1 ih2 ih3 =>
    intro X env Q h
    refine OkM.bind (m := one1 (ev Φ c env)) (w1_ok (ih1 X env _ h) fun rs env1 q => ?_)
    unfold w1 at q ⊢
    split at q
    · refine OkM.bind (OkM.imp (wB_ok q) fun t q2 => ?_)
      cases t with
      | true => exact ih2 X env1 _ (q2.1 rfl)
      | false => exact ih3 X env1 _ (q2.2 rfl)
    · exact q.elim
  | chain p q a b c ih1 ih2 ih3 =>
    intro X env Q h
    refine OkM.bind (m := one1 (ev Φ a env)) (w1_ok (ih1 X env _ h) fun rs env1 w => ?_)
    unfold w1 at w ⊢
    split at w
    · refine OkM.bind (m := one1 (ev Φ b env1)) (w1_ok (ih2 X env1 _ w) fun rs2 env2 w2 => ?_)
      unfold w1 at w2 ⊢
      split at w2
      · refine OkM.bind (OkM.imp (wCmp_ok w2) fun r w3 => OkM.bind (OkM.imp (wB_ok w3) fun t w4 => ?_))
        cases t with
        | false => exact w4.2 rfl
        | true =>
          refine OkM.bind (m := one1 (ev Φ c env2)) (w1_ok (ih3 X env2 _ (w4.1 rfl)) fun rs3 env3 w5 => ?_)
          unfold w1 at w5 ⊢
          split at w5
          · exact OkM.bind (OkM.imp (wCmp_ok w5) fun r2 w6 => w6)
          · exact w5.elim
      · exact w2.elim
    · exact w.elim
  | comp own elt tg src cond ih1 ih2 ih3 =>
    intro X env Q h
    refine OkM.bind (m := one1 (ev Φ src env)) (w1_ok (ih2 X env _ h) fun rs env1 q => ?_)
    unfold w1 at q ⊢
    split at q
    case h_2 => exact q.elim
    obtain ⟨t, xs, rfl, hl, I, i0, step, fin⟩ := q
    have key := compL_ok (X := X) (f := fun x env => (compB Φ (own.map (·.2)) tg elt cond x env).noex) (I := I) (xs := xs) (fun i d ys env e hI => ?_) 0 [] _ (Nat.zero_le _) i0
    · rw [List.drop_zero] at key
      exact okIf hl (OkM.bind (OkM.imp key fun b w => fin _ _ (by simpa using w)))
    · refine noex_okM ?_
      have st := step i d ys env e hI
      unfold wTg at st
      unfold compB
      cases es : setT tg d env with
      | no => rw [es] at st; exact st.elim
      | ex c e => rw [es] at st; exact st.elim
      | ok env2 =>
        rw [es] at st
        show OkM ((condM cond (ev Φ cond) env2).bind _) _ _
        refine OkM.bind ?_
        have last : ∀ env3, wE Φ elt (fun _ _ => False) env3 (fun z env4 => w1 z fun y => I (i + 1) (ys ++ [y.d]) (wipeE env4 (own.map (·.2)))) → OkM ((one1 (ev Φ elt env3)).bind fun b => (.ok (some b.1.d, wipeE b.2 (own.map (·.2))) : M (Option D × En))) (fun a => I (i + 1) (ys ++ a.1.toList) a.2) fun _ _ => False := fun env3 w =>
          OkM.bind (w1_ok (ih1 _ env3 _ w) fun rs env4 z => z)
        have two : ∀ (t : Bool) (env3 : En), wIf t (wE Φ elt (fun _ _ => False) env3 fun z env4 => w1 z fun y => I (i + 1) (ys ++ [y.d]) (wipeE env4 (own.map (·.2)))) (I (i + 1) ys (wipeE env3 (own.map (·.2)))) →
            OkM (if t = true then (one1 (ev Φ elt env3)).bind fun b => (.ok (some b.1.d, wipeE b.2 (own.map (·.2))) : M (Option D × En)) else .ok (none, wipeE env3 (own.map (·.2)))) (fun a => I (i + 1) (ys ++ a.1.toList) a.2) fun _ _ => False := fun t env3 z2 => by
          cases t with
          | true => exact last env3 (z2.1 rfl)
          | false =>
            show I (i + 1) (ys ++ []) _
            rw [List.append_nil]
            exact z2.2 rfl
        by_cases hc : cond = .nil
        · subst hc
          exact two true env2 st
        · have st' : wE Φ cond (fun _ _ => False) env2 fun z env3 => w1 z fun b => wB b fun t => wIf t (wE Φ elt (fun _ _ => False) env3 fun z env4 => w1 z fun y => I (i + 1) (ys ++ [y.d]) (wipeE env4 (own.map (·.2)))) (I (i + 1) ys (wipeE env3 (own.map (·.2)))) := by
            cases cond <;> first
              | exact st
              | exact absurd rfl hc
          have e2 : condM cond (ev Φ cond) env2 = evB Φ cond env2 := by
            cases cond <;> first
              | rfl
              | exact absurd rfl hc
          rw [e2]
          refine OkM.bind (m := one1 (ev Φ cond env2)) (w1_ok (ih3 _ env2 _ st') fun rs env3 z => ?_)
          unfold w1 at z ⊢
          split at z
          case h_2 => exact z.elim
          exact OkM.bind (OkM.imp (wB_ok z) fun t z2 => two t env3 z2)
  | sval e ih =>
    intro X env Q h
    refine OkM.bind (m := one1 (ev Φ e env)) (w1_ok (ih X env _ h) fun rs env1 q => ?_)
    unfold w1 at q ⊢
    split at q
    · obtain ⟨xs, e1, e2, e3⟩ := q
      simp only [e1]
      exact OkM.imp (wSrc_ok (K := fun a => Q a env1) ⟨e2, e3⟩) fun a w => by rw [w.2]; exact w.1
    · exact q.elim
  | srng es ih =>
    intro X env Q h
    refine OkM.bind (m := ev Φ es env) (OkM.imp (ih X env _ h) fun a q => ?_)
    have e0 : ∀ ds : List D, wRng ds (fun b => Q b a.2) → OkM (match ds with
      | [.int n] => if -LIM ≤ n ∧ n ≤ LIM then srcR (rngD 0 n) a.2 else .no
      | [.int a', .int b] => if -LIM ≤ a' ∧ a' ≤ LIM ∧ -LIM ≤ b ∧ b ≤ LIM then srcR (rngD a' b) a.2 else .no
      | _ => .no) (fun a => Q a.1 a.2) X := by
      intro ds w
      unfold wRng at w
      split at w
      · refine okIf w.1 (OkM.imp (wSrc_ok (K := fun b => Q b a.2) ⟨?_, w.2⟩) fun b z => by rw [z.2]; exact z.1)
        have := w.1
        unfold rngD
        simp
        omega
      · refine okIf ⟨w.1.1, w.1.2.1, w.1.2.2.1, w.1.2.2.2.1⟩ (OkM.imp (wSrc_ok (K := fun b => Q b a.2) ⟨?_, w.2⟩) fun b z => by rw [z.2]; exact z.1)
        have := w.1
        unfold rngD
        simp
        omega
      · exact w.elim
    exact e0 _ q
  | senum e ih =>
    intro X env Q h
    refine OkM.bind (m := one1 (ev Φ e env)) (w1_ok (ih X env _ h) fun rs env1 q => ?_)
    unfold w1 at q ⊢
    split at q
    · obtain ⟨xs, e1, e2, e3⟩ := q
      rename_i r
      cases e4 : enumOf r.d with
      | none => rw [e4] at e1; cases e1
      | some ys =>
        rw [e4] at e1
        cases e1
        simp only [e4]
        exact OkM.imp (wSrc_ok (K := fun a => Q a env1) ⟨e2, e3⟩) fun a w => by rw [w.2]; exact w.1
    · exact q.elim
  | szip es ih =>
    intro X env Q h
    refine OkM.bind (m := ev Φ es env) (OkM.imp (ih X env _ h) fun a q => ?_)
    have e0 : ∀ ds : List D, wZip ds (fun b => Q b a.2) → OkM (match ds with
      | [a', b] => (match lstOf a', lstOf b with
        | some xs, some ys => srcR (zipD xs ys) a.2
        | _, _ => .no)
      | _ => .no) (fun a => Q a.1 a.2) X := by
      intro ds w
      unfold wZip at w
      split at w
      · refine OkM.imp (wSrc_ok (K := fun b => Q b a.2) ⟨?_, w.2⟩) fun b z => by rw [z.2]; exact z.1
        have := w.1
        unfold zipD
        rw [List.length_map, List.length_zip]
        omega
      · exact w.elim
    exact e0 _ q
end
end FH
set_option Elab.async false
set_option linter.all false
set_option maxRecDepth 100000
set_option maxHeartbeats 2000000
namespace FH
open PySem PySem.Spec PyProof.Rows L2
def wNx (o : Out) (K : En → Prop) (Q : Out → Prop) : Prop := match o with
  | .nx e => K e
  | o => Q o
def wLoop (o : Out) (K : En → Prop) (Q : Out → Prop) : Prop := match o with
  | .nx e => K e
  | .ct e => K e
  | .bk e => Q (.nx e)
  | .rt r e => Q (.rt r e)
def w2 (rs : List R) (K : R → R → Prop) : Prop := match rs with
  | [r, q] => K r q
  | _ => False
def wUn (o : Option (List R)) (K : List R → Prop) : Prop := match o with
  | some rs => K rs
  | none => False
def wSet (m : M En) (K : En → Prop) : Prop := match m with
  | .ok e => K e
  | _ => False
def wSetO (o : Option R) (K : R → Prop) : Prop := ∃ r, o = some r ∧ K r
def wLst (o : R) (K : Option Addr → List D → Prop) : Prop := match o with
  | .ow (.lst t xs) => K t xs
  | _ => False
def wLd (d : D) (K : List D → Prop) : Prop := match d with
  | .lst _ ys => K ys
  | _ => False
section
variable (Φ : FT)
def wS : S → (Str → D → Prop) → En → (Out → Prop) → Prop
  | .nil, X, env, Q => Q (.nx env)
  | .seq s r, X, env, Q => wS s X env fun o => wNx o (fun e => wS r X e Q) Q
  | .expr e, X, env, Q => wE Φ e X env fun a env1 => w1 a fun _ => Q (.nx env1)
  | .asg i e, X, env, Q => wE Φ e X env fun a env1 => w1 a fun r => Q (.nx (env1.set i (some r)))
  | .unp is e, X, env, Q => wE Φ e X env fun a env1 => w1 a fun r => wUn (unR r) fun rs => wSet (setRs is rs env1) fun env2 => Q (.nx env2)
  | .par i j es, X, env, Q => wE Φ es X env fun rs env1 => w2 rs fun r q => Q (.nx ((env1.set i (some r)).set j (some q)))
  | .setx i ix e, X, env, Q => wE Φ e X env fun a env1 => w1 a fun r => wGet env1 i fun o => wE Φ ix X (env1.set i none) fun b env2 => w1 b fun k => wSetO (setO o k.d r.d) fun o' => Q (.nx (env2.set i (some o')))
  | .setf _ _ _ _, _, _, _ => False
  | .rem _ _, _, _, _ => False
  | .app i e, X, env, Q => wGet env i fun o => wLst o fun t xs => wE Φ e X (env.set i none) fun b env1 => w1 b fun r => xs.length ≤ LIM ∧ Q (.nx (env1.set i (some (.ow (.lst t (xs ++ [r.d]))))))
  | .ext i e, X, env, Q => wGet env i fun o => wLst o fun t xs => wE Φ e X (env.set i none) fun b env1 => w1 b fun r => wLd r.d fun ys => xs.length + ys.length ≤ LIM ∧ Q (.nx (env1.set i (some (.ow (.lst t (xs ++ ys))))))
  | .ifs c a b, X, env, Q => wE Φ c X env fun z env1 => w1 z fun r => wB r fun t => wIf t (wS a X env1 Q) (wS b X env1 Q)
  | .for tg src body, X, env, Q => wE Φ src X env fun z env1 => w1 z fun r => ∃ t xs, r = .sh (.lst t xs) ∧ ∃ I : Nat → En → Prop, I 0 env1 ∧ (∀ i d env, xs[i]? = some d → I i env → wTg tg d env fun env2 => wS body X env2 fun o => wLoop o (I (i + 1)) Q) ∧ ∀ env, I xs.length env → Q (.nx env)
  | .while n c body, X, env, Q => ∃ I : Nat → En → Prop, I n env ∧ ∀ m env, I m env → ∃ m', m = m' + 1 ∧ wE Φ c X env fun z env1 => w1 z fun r => wB r fun t => wIf t (wS body X env1 fun o => wLoop o (I m') Q) (Q (.nx env1))
  | .ret e, X, env, Q => wE Φ e X env fun a env1 => w1 a fun r => Q (.rt r env1)
  | .ret0, X, env, Q => Q (.rt (.sh .non) env)
  | .brk, X, env, Q => Q (.bk env)
  | .cont, X, env, Q => Q (.ct env)
  | .dead, X, env, Q => False
end
section
variable {Φ : FT} {X : Str → D → Prop}
theorem wE1_ok {e : T} {env : En} {K : R × En → Prop} (h : wE Φ e X env fun a env1 => w1 a fun r => K (r, env1)) : OkM (one1 (ev Φ e env)) K X := w1_ok (wE_ok e X env _ h) fun rs env1 q => q
theorem loop_ok {α : Type} {o : Out} {K : En → Prop} {Q : Out → Prop} {f : En → M Out} (h : wLoop o K Q) (i : ∀ e, K e → OkM (f e) Q X) : OkM (match o with
    | .nx e => f e
    | .ct e => f e
    | .bk e => .ok (.nx e)
    | .rt r e => .ok (.rt r e)) Q X := by
  cases o with
  | nx e => exact i e h
  | ct e => exact i e h
  | bk e => exact h
  | rt r e => exact h
theorem exL_ok {f : D → En → M Out} {I : Nat → En → Prop} {Q : Out → Prop} {xs : List D} (hs : ∀ i d env, xs[i]? = some d → I i env → OkM (f d env) (fun o => wLoop o (I (i + 1)) Q) X) (fin : ∀ env, I xs.length env → Q (.nx env)) :
    ∀ (n : Nat) (env : En), n ≤ xs.length → I n env → OkM (exL f (xs.drop n) env) Q X := by
  intro n env hn h
  generalize hm : xs.length - n = m
  induction m generalizing n env with
  | zero =>
    have e : n = xs.length := by omega
    subst e
    rw [List.drop_eq_nil_of_le (Nat.le_refl _)]
    exact fin env h
  | succ m ih =>
    have hlt : n < xs.length := by omega
    rw [List.drop_eq_getElem_cons hlt]
    exact OkM.bind (m := f xs[n] env) (OkM.imp (hs n xs[n] env (List.getElem?_eq_getElem hlt) h) fun o w => loop_ok (α := Unit) w fun e k => ih (n + 1) e (by omega) k (by omega))
theorem exW_ok {c : T} {f : En → M Out} {g : En → (Out → Prop) → Prop} {I : Nat → En → Prop} {Q : Out → Prop} (hg : ∀ env Q, g env Q → OkM (f env) Q X) (hs : ∀ m env, I m env → ∃ m', m = m' + 1 ∧ wE Φ c X env fun z env1 => w1 z fun r => wB r fun t => wIf t (g env1 fun o => wLoop o (I m') Q) (Q (.nx env1))) :
    ∀ (n : Nat) (env : En), I n env → OkM (exW (evB Φ c) f n env) Q X := by
  intro n
  induction n with
  | zero =>
    intro env h
    obtain ⟨m', e, _⟩ := hs 0 env h
    omega
  | succ n ih =>
    intro env h
    obtain ⟨m', e, w⟩ := hs (n + 1) env h
    have em : m' = n := by omega
    subst em
    show OkM ((evB Φ c env).bind fun t => if t.1 then (f t.2).bind fun
      | .nx e => exW (evB Φ c) f m' e
      | .ct e => exW (evB Φ c) f m' e
      | .bk e => .ok (.nx e)
      | .rt r e => .ok (.rt r e)
      else .ok (.nx t.2)) Q X
    refine OkM.bind (OkM.bind (m := one1 (ev Φ c env)) (w1_ok (wE_ok c X env _ w) fun rs env1 q => ?_))
    unfold w1 at q ⊢
    split at q
    case h_2 => exact q.elim
    refine OkM.bind (OkM.imp (wB_ok q) fun t z => ?_)
    cases t with
    | true => exact OkM.bind (m := f env1) (OkM.imp (hg _ _ (z.1 rfl)) fun o w => loop_ok (α := Unit) w fun e k => ih e k)
    | false => exact z.2 rfl
theorem wS_ok (s : S) : ∀ (env : En) (Q : Out → Prop), wS Φ s X env Q → OkM (ex Φ s env) Q X := by
  induction s with
  | nil => intro env Q h; exact h
  | seq s r ih1 ih2 =>
    intro env Q h
    refine OkM.bind (m := ex Φ s env) (OkM.imp (ih1 env _ h) fun o w => ?_)
    cases o with
    | nx e => exact ih2 e Q w
    | bk e => exact w
    | ct e => exact w
    | rt r e => exact w
  | expr e =>
    intro env Q h
    exact OkM.bind (m := one1 (ev Φ e env)) (wE1_ok (K := fun a => Q (.nx a.2)) h)
  | asg i e =>
    intro env Q h
    exact OkM.bind (m := one1 (ev Φ e env)) (wE1_ok (K := fun a => Q (.nx (a.2.set i (some a.1)))) h)
  | unp is e =>
    intro env Q h
    refine OkM.bind (m := one1 (ev Φ e env)) (w1_ok (wE_ok e X env _ h) fun rs env1 q => ?_)
    unfold w1 at q ⊢
    split at q
    case h_2 => exact q.elim
    unfold wUn at q
    split at q
    case h_2 => exact q.elim
    rename_i e1
    simp only [e1]
    unfold wSet at q
    split at q
    case h_2 => exact q.elim
    rename_i e2
    rw [e2]
    exact q
  | par i j es =>
    intro env Q h
    refine OkM.bind (m := ev Φ es env) (OkM.imp (wE_ok es X env _ h) fun a q => ?_)
    obtain ⟨rs, env1⟩ := a
    unfold w2 at q
    match rs, q with
    | [r, p], q => exact q
  | setx i ix e =>
    intro env Q h
    refine OkM.bind (m := one1 (ev Φ e env)) (w1_ok (wE_ok e X env _ h) fun rs env1 q => ?_)
    unfold w1 at q ⊢
    split at q
    case h_2 => exact q.elim
    refine OkM.bind (m := getS env1 i) (OkM.imp (wGet_ok q) fun o q => ?_)
    refine OkM.bind (m := one1 (ev Φ ix (env1.set i none))) (w1_ok (wE_ok ix X _ _ q) fun rs env2 q => ?_)
    unfold w1 at q ⊢
    split at q
    case h_2 => exact q.elim
    obtain ⟨o', e1, q⟩ := q
    simp only [e1]
    exact q
  | setf i C f e => intro env Q h; exact h.elim
  | rem i e => intro env Q h; exact h.elim
  | app i e =>
    intro env Q h
    refine OkM.bind (m := getS env i) (OkM.imp (wGet_ok h) fun o q => ?_)
    unfold wLst at q
    split at q
    case h_2 => exact q.elim
    refine OkM.bind (m := one1 (ev Φ e (env.set i none))) (w1_ok (wE_ok e X _ _ q) fun rs env2 q => ?_)
    unfold w1 at q ⊢
    split at q
    case h_2 => exact q.elim
    exact okIf q.1 q.2
  | ext i e =>
    intro env Q h
    refine OkM.bind (m := getS env i) (OkM.imp (wGet_ok h) fun o q => ?_)
    unfold wLst at q
    split at q
    case h_2 => exact q.elim
    refine OkM.bind (m := one1 (ev Φ e (env.set i none))) (w1_ok (wE_ok e X _ _ q) fun rs env2 q => ?_)
    unfold w1 at q ⊢
    split at q
    case h_2 => exact q.elim
    unfold wLd at q
    split at q
    case h_2 => exact q.elim
    rename_i e1
    simp only [e1]
    exact okIf q.1 q.2
  | ifs c a b ih1 ih2 =>
    intro env Q h
    refine OkM.bind (m := one1 (ev Φ c env)) (w1_ok (wE_ok c X env _ h) fun rs env1 q => ?_)
    unfold w1 at q ⊢
    split at q
    case h_2 => exact q.elim
    refine OkM.bind (OkM.imp (wB_ok q) fun t z => ?_)
    cases t with
    | true => exact ih1 env1 Q (z.1 rfl)
    | false => exact ih2 env1 Q (z.2 rfl)
  | «for» tg src body ih =>
    intro env Q h
    refine OkM.bind (m := one1 (ev Φ src env)) (w1_ok (wE_ok src X env _ h) fun rs env1 q => ?_)
    unfold w1 at q ⊢
    split at q
    case h_2 => exact q.elim
    obtain ⟨t, xs, rfl, I, i0, step, fin⟩ := q
    have key := exL_ok (X := X) (f := fun x env => (setT tg x env).bind fun env => ex Φ body env) (I := I) (Q := Q) (xs := xs) (fun i d env e hI => ?_) fin 0 env1 (Nat.zero_le _) i0
    · rw [List.drop_zero] at key
      exact key
    · have st := step i d env e hI
      unfold wTg at st
      cases es : setT tg d env with
      | no => rw [es] at st; exact st.elim
      | ex c e => rw [es] at st; exact st.elim
      | ok env2 =>
        rw [es] at st
        exact ih env2 _ st
  | «while» n c body ih =>
    intro env Q h
    obtain ⟨I, i0, step⟩ := h
    exact exW_ok (f := ex Φ body) (g := wS Φ body X) (I := I) ih step n env i0
  | ret e =>
    intro env Q h
    exact OkM.bind (m := one1 (ev Φ e env)) (wE1_ok (K := fun a => Q (.rt a.1 a.2)) h)
  | ret0 => intro env Q h; exact h
  | brk => intro env Q h; exact h
  | cont => intro env Q h; exact h
  | dead => intro env Q h; exact h.elim
theorem runF_ok {n : Nat} {io : List Nat} {body : S} {rs : List R} {K : R → List (Option R) → Prop} (h : wS Φ body X (rs.map some ++ List.replicate (n - rs.length) none) fun o => match o with
    | .rt r env => K r (outsOf io rs.length env)
    | .nx env => K (.sh .non) (outsOf io rs.length env)
    | _ => False) : OkM (runF Φ n io body rs) (fun a => K a.1 a.2) X := by
  refine OkM.bind (m := ex Φ body (rs.map some ++ List.replicate (n - rs.length) none)) (OkM.imp (wS_ok body _ _ h) fun o w => ?_)
  cases o with
  | nx e => exact w
  | rt r e => exact w
  | bk e => exact w.elim
  | ct e => exact w.elim
end
end FH
set_option Elab.async false
set_option linter.all false
set_option maxRecDepth 100000
set_option maxHeartbeats 2000000
namespace FH
open PySem PySem.Spec PyProof.Rows L2
/-- e's value is r, the frame stays -/
def Ev (Φ : FT) (e : T) (env : En) (r : R) : Prop := one1 (ev Φ e env) = .ok (r, env)
def wipeB : List (Option Nat) → En → En
  | [], env => env
  | some i :: bk, env => wipeB bk (env.set i none)
  | none :: bk, env => wipeB bk env
def Held : List (Option Nat) → List R → En → Prop
  | [], _, _ => True
  | none :: bk, _ :: rs, env => Held bk rs env
  | some i :: bk, r :: rs, env => env[i]? = some (some r) ∧ some i ∉ bk ∧ Held bk rs env
  | _ :: _, [], _ => False
/-- arguments; the lent slots are away -/
structure EvA (Φ : FT) (es : T) (env : En) (rs : List R) : Prop where
  run : ev Φ es env = .ok (rs, wipeB (bkOf es) env)
  held : Held (bkOf es) rs env
/-- arguments, none lent -/
def EvN (Φ : FT) (es : T) (env : En) (rs : List R) : Prop := ev Φ es env = .ok (rs, env) ∧ (bkOf es).all (·.isNone) = true
def EvI (Φ : FT) (e : T) (env : En) (xs : List D) : Prop := one1 (ev Φ e env) = .ok (.sh (.lst none xs), env)
theorem wipeB_set {bk : List (Option Nat)} {i : Nat} {o : Option R} : ∀ {env : En}, some i ∉ bk → (wipeB bk env).set i o = wipeB bk (env.set i o) := by
  induction bk with
  | nil => intro env h; rfl
  | cons b bk ih =>
    intro env h
    cases b with
    | none => exact ih (fun z => h (List.mem_cons_of_mem _ z))
    | some j =>
      have hj : i ≠ j := fun e => h (by rw [e]; exact List.mem_cons_self)
      show (wipeB bk (env.set j none)).set i o = wipeB bk ((env.set i o).set j none)
      rw [ih (fun z => h (List.mem_cons_of_mem _ z)), List.set_comm _ _ hj.symm]
theorem set_back {env : En} {i : Nat} {r : R} (h : env[i]? = some (some r)) : (env.set i none).set i (some r) = env := by
  rw [List.set_set]
  exact List.set_getElem_self (by obtain ⟨hl, e⟩ := List.getElem?_eq_some_iff.mp h; exact hl) ▸ by
    obtain ⟨hl, e⟩ := List.getElem?_eq_some_iff.mp h
    rw [List.set_getElem_self hl, ← e, List.set_getElem_self hl]
theorem backs_wipe {bk : List (Option Nat)} : ∀ {rs : List R} {env : En}, Held bk rs env → backs (rs.map some) bk (wipeB bk env) = env := by
  induction bk with
  | nil => intro rs env h; cases rs <;> rfl
  | cons b bk ih =>
    intro rs env h
    cases rs with
    | nil => cases b <;> exact h.elim
    | cons r rs =>
      cases b with
      | none => exact ih h
      | some i =>
        obtain ⟨h1, h2, h3⟩ := h
        show backs (rs.map some) bk ((wipeB bk (env.set i none)).set i (some r)) = env
        rw [wipeB_set h2, set_back h1]
        exact ih h3
theorem backs_none {bk : List (Option Nat)} : ∀ {rs : List (Option R)} {env : En}, bk.all (·.isNone) = true → backs rs bk env = env := by
  induction bk with
  | nil => intro rs env h; cases rs with
    | nil => rfl
    | cons r rs => cases r <;> rfl
  | cons b bk ih =>
    intro rs env h
    simp only [List.all_cons, Bool.and_eq_true] at h
    cases b with
    | some i => cases h.1
    | none => cases rs with
      | nil => rfl
      | cons r rs => cases r <;> exact ih h.2
theorem wipeB_none {bk : List (Option Nat)} {env : En} (h : bk.all (·.isNone) = true) : wipeB bk env = env := by
  induction bk with
  | nil => rfl
  | cons b bk ih =>
    simp only [List.all_cons, Bool.and_eq_true] at h
    cases b with
    | some i => cases h.1
    | none => exact ih h.2
theorem held_none {bk : List (Option Nat)} : ∀ {rs : List R} {env : En}, bk.all (·.isNone) = true → bk.length ≤ rs.length → Held bk rs env := by
  induction bk with
  | nil => intros; trivial
  | cons b bk ih =>
    intro rs env h hl
    simp only [List.all_cons, Bool.and_eq_true] at h
    cases b with
    | some i => cases h.1
    | none => cases rs with
      | nil => simp at hl
      | cons r rs => exact ih h.2 (by simpa using hl)
section
variable {Φ : FT} {env : En}
theorem Ev.var {i : Nat} {d : D} (h : env[i]? = some (some (.sh d))) : Ev Φ (.var i) env (.sh d) := by
  unfold Ev
  show one1 ((getS env i).bind fun r => .ok ([sh1 r], env.set i (some (sh1 r)))) = _
  unfold getS
  rw [h]
  obtain ⟨hl, e⟩ := List.getElem?_eq_some_iff.mp h
  show M.ok ((.sh d : R), env.set i (some (.sh d))) = _
  rw [← e, List.set_getElem_self hl]
theorem Ev.lit {v : V} : Ev Φ (.lit v) env (.sh (dV v)) := rfl
theorem Ev.glb {x : Str} {v : V} : Ev Φ (.glb x v) env (.sh (dV v)) := rfl
theorem EvN.nil : EvN Φ .nil env [] := ⟨rfl, rfl⟩
theorem bk_cons {e es : T} (h : notMv e = true) : bkOf (.cons e es) = none :: bkOf es := by
  cases e <;> first | rfl | (cases h; done)
theorem EvN.cons {e es : T} {r : R} {rs : List R} (hm : notMv e = true) (h : Ev Φ e env r) (k : EvN Φ es env rs) : EvN Φ (.cons e es) env (r :: rs) := by
  obtain ⟨k1, k2⟩ := k
  constructor
  · show (one1 (ev Φ e env)).bind _ = _
    rw [h]
    show (ev Φ es env).bind _ = _
    rw [k1] <;> rfl
  · rw [bk_cons hm]
    simpa using k2
theorem ev_len {es : T} {rs : List R} : ∀ {env env1 : En}, ev Φ es env = .ok (rs, env1) → (bkOf es).length ≤ rs.length := by
  intro env env1 h
  induction es generalizing rs env env1 with
  | cons e es ih1 ih2 =>
    have h' : (one1 (ev Φ e env)).bind (fun a => (ev Φ es a.2).bind fun b => .ok (a.1 :: b.1, b.2)) = .ok (rs, env1) := h
    obtain ⟨a, h1, h2⟩ := M.bind_eq h'
    obtain ⟨b, h3, h4⟩ := M.bind_eq h2
    cases h4
    have := ih2 h3
    have e : (bkOf (.cons e es)).length = (bkOf es).length + 1 := by cases e <;> rfl
    rw [e, List.length_cons]
    omega
  | late i es ih =>
    have h' : (getS env i).bind (fun _ => (ev Φ es env).bind fun b => (getS b.2 i).bind fun r => .ok (r :: b.1, b.2.set i none)) = .ok (rs, env1) := h
    obtain ⟨_, _, h2⟩ := M.bind_eq h'
    obtain ⟨b, h3, h4⟩ := M.bind_eq h2
    obtain ⟨r, _, h5⟩ := M.bind_eq h4
    cases h5
    have := ih h3
    show (bkOf es).length + 1 ≤ _
    rw [List.length_cons]
    omega
  | _ => exact Nat.zero_le _
theorem EvN.a {es : T} {rs : List R} (h : EvN Φ es env rs) : EvA Φ es env rs := ⟨by rw [wipeB_none h.2]; exact h.1, held_none h.2 (ev_len h.1)⟩
theorem EvA.nil : EvA Φ .nil env [] := ⟨rfl, trivial⟩
theorem EvA.cons {e es : T} {r : R} {rs : List R} (hm : notMv e = true) (h : Ev Φ e env r) (k : EvA Φ es env rs) : EvA Φ (.cons e es) env (r :: rs) := by
  obtain ⟨k1, k2⟩ := k
  constructor
  · rw [bk_cons hm]
    show (one1 (ev Φ e env)).bind _ = _
    rw [h]
    show (ev Φ es env).bind _ = _
    rw [k1] <;> rfl
  · rw [bk_cons hm]
    exact k2
theorem held_set {bk : List (Option Nat)} {i : Nat} : ∀ {rs : List R} {env : En}, some i ∉ bk → Held bk rs (env.set i none) → Held bk rs env := by
  induction bk with
  | nil => intros; trivial
  | cons b bk ih =>
    intro rs env hi h
    cases rs with
    | nil => cases b <;> exact h.elim
    | cons r rs =>
      cases b with
      | none => exact ih (fun z => hi (List.mem_cons_of_mem _ z)) h
      | some j =>
        obtain ⟨h1, h2, h3⟩ := h
        have hj : i ≠ j := fun e => hi (by rw [e]; exact List.mem_cons_self)
        rw [List.getElem?_set_ne hj] at h1
        exact ⟨h1, h2, ih (fun z => hi (List.mem_cons_of_mem _ z)) h3⟩
theorem EvA.mv {i : Nat} {es : T} {r : R} {rs : List R} (h : env[i]? = some (some r)) (k : EvA Φ es (env.set i none) rs) (hi : some i ∉ bkOf es) : EvA Φ (.cons (.mv i) es) env (r :: rs) := by
  obtain ⟨k1, k2⟩ := k
  constructor
  · show (one1 ((getS env i).bind _)).bind _ = _
    unfold getS
    rw [h]
    show (ev Φ es (env.set i none)).bind _ = _
    rw [k1] <;> rfl
  · exact ⟨h, hi, held_set hi k2⟩
theorem Ev.prim {p : P} {es : T} {rs : List R} {r : R} (h : EvA Φ es env rs) (hs : p.sem (rs.map R.d) = .ok r) (ho : okRes rs r = true) : Ev Φ (.prim p es) env r := by
  unfold Ev
  show one1 ((ev Φ es env).bind _) = _
  rw [h.run]
  show one1 ((p.sem (rs.map R.d)).bind _) = _
  rw [hs]
  show one1 (if okRes rs r = true then _ else _) = _
  rw [if_pos ho, backs_wipe h.held] <;> rfl
theorem Ev.mth {m : Mt} {e es : T} {r q : R} {rs : List R} (hm : notMv e = true) (h : Ev Φ e env r) (hk : m.okD r.d = true) (k : EvA Φ es env rs) (hs : semMt m (r.d :: rs.map R.d) = .ok q) (ho : okRes (r :: rs) q = true) : Ev Φ (.mth m e es) env q := by
  unfold Ev
  show one1 ((one1 (ev Φ e env)).bind _) = _
  rw [h]
  show one1 (if m.okD r.d = true then _ else _) = _
  rw [if_pos hk, k.run]
  show one1 ((semMt m (r.d :: rs.map R.d)).bind _) = _
  rw [hs]
  show one1 (if okRes (r :: rs) q = true then _ else _) = _
  rw [if_pos ho, bk_cons hm]
  show M.ok (q, backs (rs.map some) (bkOf es) (wipeB (bkOf es) env)) = _
  rw [backs_wipe k.held]
theorem Ev.call {f : Str} {es : T} {rs : List R} {g : Sem1} {r : R} {outs : List (Option R)} (hf : Φ f = some g) (h : EvN Φ es env rs) (hg : g rs = .ok (r, outs)) : Ev Φ (.call f es) env r := by
  unfold Ev
  have e0 : ev Φ (.call f es) env = (match Φ f with
    | some g => (ev Φ es env).bind fun a => (g a.1).bind fun b => .ok ([b.1], backs b.2 (bkOf es) a.2)
    | none => .no) := rfl
  rw [e0, hf]
  show one1 ((ev Φ es env).bind _) = _
  rw [h.1]
  show one1 ((g rs).bind _) = _
  rw [hg]
  show M.ok (r, backs outs (bkOf es) env) = _
  rw [backs_none h.2]
theorem Ev.om {x C m : Str} {e es : T} {r0 : R} {rs : List R} {g : Sem1} {r : R} {outs : List (Option R)} (hx : cm x = some (C, m)) (hf : Φ x = some g) (hm : notMv e = true) (h0 : Ev Φ e env r0) (hi : isIns C m r0.d = true) (h : EvN Φ es env rs) (hg : g (r0 :: rs) = .ok (r, outs)) : Ev Φ (.om x e es) env r := by
  have e1 : ev Φ (.om x e es) env = (one1 (ev Φ e env)).bind fun a => if isIns C m a.1.d then (ev Φ es a.2).bind fun b => (g (a.1 :: b.1)).bind fun q => .ok ([q.1], backs q.2 (bkOf (.cons e es)) b.2) else .no := by
    rw [ev, hx, hf] <;> rfl
  unfold Ev
  rw [e1, h0]
  show one1 (if isIns C m r0.d then _ else _) = _
  rw [if_pos hi]
  show one1 ((ev Φ es env).bind _) = _
  rw [h.1]
  show one1 ((g (r0 :: rs)).bind _) = _
  rw [hg]
  show M.ok (r, backs outs (bkOf (.cons e es)) env) = _
  rw [bk_cons hm, backs_none (by simpa using h.2)]
theorem Ev.lst {es : T} {rs : List R} (h : EvN Φ es env rs) : Ev Φ (.lst es) env (.ow (.lst none (rs.map R.d))) := by
  unfold Ev
  show one1 ((ev Φ es env).bind _) = _
  rw [h.1] <;> rfl
theorem Ev.tup {es : T} {rs : List R} (h : EvN Φ es env rs) : Ev Φ (.tup es) env (.tp (rs.map cmpOf)) := by
  unfold Ev
  show one1 ((ev Φ es env).bind _) = _
  rw [h.1] <;> rfl
theorem Ev.dic {es : T} {rs : List R} {kvs : List (Key × D)} (h : EvN Φ es env rs) (hp : pairD (rs.map R.d) = some kvs) : Ev Φ (.dic es) env (.ow (.dic none (mergeD [] kvs))) := by
  unfold Ev
  show one1 ((ev Φ es env).bind _) = _
  rw [h.1]
  show one1 (match pairD (rs.map R.d) with
    | some kvs => .ok ([.ow (.dic none (mergeD [] kvs))], env)
    | none => .no) = _
  rw [hp] <;> rfl
theorem Ev.frz {a : T} {r : R} (h : Ev Φ a env r) : Ev Φ (.frz a) env (.sh r.d) := by
  unfold Ev
  show one1 ((one1 (ev Φ a env)).bind _) = _
  rw [h] <;> rfl
/-- a flat reading while the owners wait -/
theorem Ev.bor {a : T} {r : R} (h : Ev Φ a (shE env) r) (hf : flatR r = true) : Ev Φ (.bor a) env r := by
  unfold Ev
  show one1 ((one1 (ev Φ a (shE env))).bind _) = _
  rw [h]
  show one1 (if flatR r = true then _ else _) = _
  rw [if_pos hf] <;> rfl
theorem Ev.one {a : T} {r : R} (h : Ev Φ a env r) : Ev Φ (.one a) env r := h
theorem Ev.and {a b : T} {s t : Bool} (h : Ev Φ a env (.sh (.bl s))) (k : s = true → Ev Φ b env (.sh (.bl t))) : Ev Φ (.and a b) env (.sh (.bl (s && t))) := by
  unfold Ev
  show one1 ((one1 (ev Φ a env)).bind _) = _
  rw [h]
  cases s with
  | true => exact k rfl
  | false => rfl
theorem Ev.or {a b : T} {s t : Bool} (h : Ev Φ a env (.sh (.bl s))) (k : s = false → Ev Φ b env (.sh (.bl t))) : Ev Φ (.or a b) env (.sh (.bl (s || t))) := by
  unfold Ev
  show one1 ((one1 (ev Φ a env)).bind _) = _
  rw [h]
  cases s with
  | true => rfl
  | false => exact k rfl
theorem Ev.not {a : T} {s : Bool} (h : Ev Φ a env (.sh (.bl s))) : Ev Φ (.not a) env (.sh (.bl (!s))) := by
  unfold Ev
  show one1 ((one1 (ev Φ a env)).bind _) = _
  rw [h] <;> rfl
theorem Ev.ite {c a b : T} {s : Bool} {r : R} (h : Ev Φ c env (.sh (.bl s))) (k1 : s = true → Ev Φ a env r) (k2 : s = false → Ev Φ b env r) : Ev Φ (.ite c a b) env r := by
  unfold Ev
  show one1 ((one1 (ev Φ c env)).bind _) = _
  rw [h]
  cases s with
  | true => exact k1 rfl
  | false => exact k2 rfl
theorem Ev.iteS {c a b : T} {s : Bool} {x y : Str} (h : Ev Φ c env (.sh (.bl s))) (k1 : s = true → Ev Φ a env (.sh (.str x))) (k2 : s = false → Ev Φ b env (.sh (.str y))) : Ev Φ (.ite c a b) env (.sh (.str (if s then x else y))) := by
  cases s with
  | true => exact Ev.ite h k1 fun z => nomatch z
  | false => exact Ev.ite h (fun z => nomatch z) k2
theorem Ev.iteI {c a b : T} {s : Bool} {x y : Int} (h : Ev Φ c env (.sh (.bl s))) (k1 : s = true → Ev Φ a env (.sh (.int x))) (k2 : s = false → Ev Φ b env (.sh (.int y))) : Ev Φ (.ite c a b) env (.sh (.int (if s then x else y))) := by
  cases s with
  | true => exact Ev.ite h k1 fun z => nomatch z
  | false => exact Ev.ite h (fun z => nomatch z) k2
theorem Ev.chain {p q : CmpOp} {a b c : T} {ra rb : R} {s t : Bool} (ha : Ev Φ a env ra) (hb : Ev Φ b env rb) (hs : semCmp p ra.d rb.d = .ok (.sh (.bl s))) (k : s = true → ∃ rc, Ev Φ c env rc ∧ semCmp q rb.d rc.d = .ok (.sh (.bl t))) :
    Ev Φ (.chain p q a b c) env (.sh (.bl (s && t))) := by
  unfold Ev
  show one1 ((one1 (ev Φ a env)).bind _) = _
  rw [ha]
  show one1 ((one1 (ev Φ b env)).bind _) = _
  rw [hb]
  show one1 ((semCmp p ra.d rb.d).bind _) = _
  rw [hs]
  cases s with
  | false => rfl
  | true =>
    obtain ⟨rc, hc, hq⟩ := k rfl
    show one1 ((one1 (ev Φ c env)).bind _) = _
    rw [hc]
    show one1 ((semCmp q rb.d rc.d).bind _) = _
    rw [hq] <;> rfl
theorem Ev.of {e : T} {r r' : R} (h : Ev Φ e env r') (q : r' = r) : Ev Φ e env r := q ▸ h
/-! ### comprehensions -/
/-- the comprehension's own names hold nothing that it would spoil -/
def okOwn (env : En) (own : List Nat) : Bool := own.all fun i => match env[i]? with
  | some none => true
  | some (some (.sh _)) => true
  | none => true
  | _ => false
theorem restore_eq {env : En} {own : List Nat} (h : okOwn env own = true) : ∀ (env1 : En), (∀ j, j ∉ own → env1[j]? = env[j]?) → env1.length = env.length → restore own env env1 = env := by
  intro env1 h1 hl
  have key : ∀ (os : List Nat) (e1 : En), (∀ j, j ∈ os → j ∈ own) → (∀ j, j ∉ os → e1[j]? = env[j]?) → e1.length = env.length → os.foldl (fun e i => e.set i (shared (env[i]?.join))) e1 = env := by
    intro os
    induction os with
    | nil => intro e1 _ h2 _; exact List.ext_getElem? fun j => h2 j (by simp)
    | cons i os ih =>
      intro e1 hs h2 hl2
      refine ih _ (fun j hj => hs j (List.mem_cons_of_mem _ hj)) (fun j hj => ?_) (by simpa using hl2)
      by_cases hij : i = j
      · subst hij
        have hio : i ∈ own := hs i List.mem_cons_self
        have hk : (match env[i]? with
          | some none => true
          | some (some (.sh _)) => true
          | none => true
          | _ => false) = true := List.all_eq_true.mp h i hio
        by_cases hlt : i < env.length
        · rw [List.getElem?_set_self (by omega)]
          rw [List.getElem?_eq_getElem hlt] at hk ⊢
          cases e : env[i] with
          | none => rfl
          | some r =>
            rw [e] at hk
            cases r with
            | sh d => rfl
            | ow d => cases hk
            | tp cs => cases hk
        · rw [List.getElem?_eq_none (by simp; omega), List.getElem?_eq_none (by omega)]
      · rw [List.getElem?_set_ne hij]
        by_cases hj2 : j ∈ i :: os
        · rcases List.mem_cons.mp hj2 with e | e
          · exact absurd e.symm hij
          · exact absurd e hj
        · exact h2 j hj2
  exact key own env1 (fun _ h => h) h1 hl
theorem wipeE_len : ∀ {own : List Nat} {env : En}, (wipeE env own).length = env.length
  | [], _ => rfl
  | i :: own, env => by
    show ((wipeE env own).set i none).length = _
    rw [List.length_set, wipeE_len]
theorem wipeE_ne : ∀ {own : List Nat} {env : En} {j : Nat}, j ∉ own → (wipeE env own)[j]? = env[j]?
  | [], _, _, _ => rfl
  | i :: own, env, j, h => by
    show ((wipeE env own).set i none)[j]? = _
    rw [List.getElem?_set_ne (fun e => h (by rw [e]; exact List.mem_cons_self)), wipeE_ne fun z => h (List.mem_cons_of_mem _ z)]
theorem wipeE_at : ∀ {own : List Nat} {env : En} {j : Nat}, j ∈ own → j < env.length → (wipeE env own)[j]? = some none
  | i :: own, env, j, h, hl => by
    show ((wipeE env own).set i none)[j]? = _
    by_cases hij : i = j
    · subst hij
      rw [List.getElem?_set_self (by rw [wipeE_len]; exact hl)]
    · rw [List.getElem?_set_ne hij]
      rcases List.mem_cons.mp h with e | e
      · exact absurd e.symm hij
      · exact wipeE_at e hl
/-- wiping forgets what was stored in the own names -/
theorem wipeE_of {own : List Nat} {env env1 : En} (hl : env1.length = env.length) (h : ∀ j, j ∉ own → env1[j]? = env[j]?) : wipeE env1 own = wipeE env own := by
  refine List.ext_getElem? fun j => ?_
  by_cases hj : j ∈ own
  · by_cases hlt : j < env.length
    · rw [wipeE_at hj (by omega), wipeE_at hj hlt]
    · rw [List.getElem?_eq_none (by rw [wipeE_len]; omega), List.getElem?_eq_none (by rw [wipeE_len]; omega)]
  · rw [wipeE_ne hj, wipeE_ne hj, h j hj]
/-- a turn's frame: own names stored, the rest as it was -/
structure Near (own : List Nat) (env env1 : En) : Prop where
  len : env1.length = env.length
  eq : ∀ j, j ∉ own → env1[j]? = env[j]?
theorem Near.refl {own : List Nat} {env : En} : Near own env env := ⟨rfl, fun _ _ => rfl⟩
theorem Near.set {own : List Nat} {env env1 : En} {i : Nat} {o : Option R} (h : Near own env env1) (hi : i ∈ own) : Near own env (env1.set i o) :=
  ⟨by rw [List.length_set]; exact h.len, fun j hj => by rw [List.getElem?_set_ne (fun e => hj (by rw [← e]; exact hi))]; exact h.eq j hj⟩
theorem Near.wipe {own : List Nat} {env : En} : Near own env (wipeE env own) := ⟨wipeE_len, fun _ h => wipeE_ne h⟩
theorem setIs_near {own : List Nat} {env : En} : ∀ {is : List Nat} {ds : List D} {e1 e2 : En}, setIs is ds e1 = .ok e2 → (∀ i, i ∈ is → i ∈ own) → Near own env e1 → Near own env e2
  | [], [], e1, e2, h, hi, n => by cases h; exact n
  | i :: is, d :: ds, e1, e2, h, hi, n => setIs_near (is := is) (ds := ds) h (fun j hj => hi j (List.mem_cons_of_mem _ hj)) (n.set (hi i List.mem_cons_self))
  | [], _ :: _, _, _, h, _, _ => by cases h
  | _ :: _, [], _, _, h, _, _ => by cases h
theorem setT_near {own : List Nat} {env : En} {tg : Tg} {d : D} {e1 e2 : En} (h : setT tg d e1 = .ok e2) (hi : (tgSlots tg).all (fun i => decide (i ∈ own)) = true) (n : Near own env e1) : Near own env e2 := by
  simp only [List.all_eq_true, decide_eq_true_eq] at hi
  cases tg with
  | nm i => cases h; exact n.set (hi i (by show i ∈ [i]; exact List.mem_singleton.mpr rfl))
  | tp is =>
    cases d with
    | tup ds => exact setIs_near h hi n
    | lst t ds => exact setIs_near h hi n
    | _ => cases h
theorem compL_eq {α : Type} {f : D → En → M (Option D × En)} {env : En} {enc : α → D} {g : α → Option D} : ∀ {l : List α}, (∀ a, a ∈ l → f (enc a) env = .ok (g a, env)) → compL f (l.map enc) env = .ok (l.filterMap g, env)
  | [], _ => rfl
  | a :: l, h => by
    show (f (enc a) env).bind _ = _
    rw [h a List.mem_cons_self]
    show (compL f (l.map enc) env).bind _ = _
    rw [compL_eq fun b hb => h b (List.mem_cons_of_mem _ hb)]
    show M.ok ((g a).toList ++ l.filterMap g, env) = _
    rw [List.filterMap_cons]
    cases g a <;> rfl
theorem Ev.comp0 {α : Type} {own : List (Str × Nat)} {elt src cond : T} {tg : Tg} {enc : α → D} {l : List α} {g : α → Option D} (hs : EvI Φ src env (l.map enc)) (hl : l.length ≤ LIM) (ho : okOwn env (own.map (·.2)) = true)
    (h : ∀ a, a ∈ l → (((setT tg (enc a) (wipeE env (own.map (·.2)))).bind fun env => (condM cond (ev Φ cond) env).bind fun (t, env) =>
        if t then (one1 (ev Φ elt env)).bind fun (y, env) => .ok (some y.d, wipeE env (own.map (·.2))) else .ok (none, wipeE env (own.map (·.2)))).noex : M (Option D × En)) = .ok (g a, wipeE env (own.map (·.2)))) :
    Ev Φ (.comp own elt tg src cond) env (.ow (.lst none (l.filterMap g))) := by
  unfold Ev
  show one1 ((one1 (ev Φ src env)).bind _) = _
  rw [hs]
  show one1 (if (l.map enc).length ≤ LIM then _ else _) = _
  rw [if_pos (by rw [List.length_map]; exact hl), compL_eq h]
  show M.ok (_, restore (own.map (·.2)) env (wipeE env (own.map (·.2)))) = _
  rw [restore_eq ho _ (fun j hj => wipeE_ne hj) wipeE_len]
/-- [elt for tg in src] -/
theorem Ev.comp {α : Type} {own : List (Str × Nat)} {elt src : T} {tg : Tg} {enc : α → D} {l : List α} (st : α → En) (r : α → R) (hs : EvI Φ src env (l.map enc)) (hl : l.length ≤ LIM) (ho : okOwn env (own.map (·.2)) = true) (ht : (tgSlots tg).all (fun i => decide (i ∈ own.map (·.2))) = true)
    (h1 : ∀ a, setT tg (enc a) (wipeE env (own.map (·.2))) = .ok (st a)) (h : ∀ a, a ∈ l → Ev Φ elt (st a) (r a)) : Ev Φ (.comp own elt tg src .nil) env (.ow (.lst none (l.map fun a => (r a).d))) := by
  have e : (l.map fun a => (r a).d) = l.filterMap fun a => some (r a).d := by rw [List.filterMap_eq_map']
  rw [e]
  refine Ev.comp0 hs hl ho fun a ha => ?_
  have n := setT_near (h1 a) ht Near.wipe
  rw [h1 a]
  show ((one1 (ev Φ elt (st a))).bind _ : M (Option D × En)).noex = _
  rw [h a ha]
  show M.ok (some (r a).d, wipeE (st a) _) = _
  rw [wipeE_of n.len n.eq]
/-- [elt for tg in src if cond] -/
theorem Ev.compIf {α : Type} {own : List (Str × Nat)} {elt src cond : T} {tg : Tg} {enc : α → D} {l : List α} (st : α → En) (p : α → Bool) (r : α → R) (hc : (match cond with | .nil => false | _ => true) = true) (hs : EvI Φ src env (l.map enc)) (hl : l.length ≤ LIM) (ho : okOwn env (own.map (·.2)) = true) (ht : (tgSlots tg).all (fun i => decide (i ∈ own.map (·.2))) = true)
    (h1 : ∀ a, setT tg (enc a) (wipeE env (own.map (·.2))) = .ok (st a)) (h2 : ∀ a, a ∈ l → Ev Φ cond (st a) (.sh (.bl (p a)))) (h : ∀ a, a ∈ l → p a = true → Ev Φ elt (st a) (r a)) : Ev Φ (.comp own elt tg src cond) env (.ow (.lst none ((l.filter p).map fun a => (r a).d))) := by
  have e : ((l.filter p).map fun a => (r a).d) = l.filterMap fun a => if p a then some (r a).d else none := by
    clear hs hl h h2
    induction l with
    | nil => rfl
    | cons a l ih =>
      rw [List.filter_cons, List.filterMap_cons]
      cases p a with
      | true => rw [if_pos rfl, List.map_cons, ih] <;> rfl
      | false => rw [if_neg (by decide), ih] <;> rfl
  rw [e]
  refine Ev.comp0 hs hl ho fun a ha => ?_
  have n := setT_near (h1 a) ht Near.wipe
  rw [h1 a]
  have ec : condM cond (ev Φ cond) (st a) = .ok (p a, st a) := by
    have : condM cond (ev Φ cond) (st a) = (one1 (ev Φ cond (st a))).bind fun (r, env1) => (asB r).bind fun t => .ok (t, env1) := by
      cases cond <;> first
        | rfl
        | (cases hc; done)
    rw [this, h2 a ha] <;> rfl
  show ((condM cond (ev Φ cond) (st a)).bind _ : M (Option D × En)).noex = _
  rw [ec]
  show (if p a = true then _ else _ : M (Option D × En)).noex = _
  cases hp : p a with
  | true =>
    rw [if_pos rfl, if_pos rfl, h a ha hp]
    show M.ok (some (r a).d, wipeE (st a) _) = _
    rw [wipeE_of n.len n.eq]
  | false =>
    rw [if_neg (by decide), if_neg (by decide)]
    show M.ok (none, wipeE (st a) _) = _
    rw [wipeE_of n.len n.eq]
theorem EvI.val {e : T} {r : R} {xs : List D} (h : Ev Φ e env r) (hi : itemsOf r.d = some xs) (hl : xs.length ≤ LIM) : EvI Φ (.sval e) env xs := by
  unfold EvI
  show one1 ((one1 (ev Φ e env)).bind _) = _
  rw [h]
  show one1 (match itemsOf r.d with | some xs => srcR xs env | none => .no) = _
  rw [hi]
  show one1 (if xs.length ≤ LIM then _ else _) = _
  rw [if_pos hl] <;> rfl
theorem EvI.enum {e : T} {r : R} {xs : List D} (h : Ev Φ e env r) (hi : enumOf r.d = some xs) (hl : xs.length ≤ LIM) : EvI Φ (.senum e) env (enumD xs) := by
  unfold EvI
  show one1 ((one1 (ev Φ e env)).bind _) = _
  rw [h]
  show one1 (match enumOf r.d with | some xs => srcR (enumD xs) env | none => .no) = _
  rw [hi]
  show one1 (if (enumD xs).length ≤ LIM then _ else _) = _
  rw [if_pos (by unfold enumD; simpa using hl)] <;> rfl
theorem rngD_length {a b : Int} : (rngD a b).length = (b - a).toNat := by unfold rngD; simp
theorem EvI.rng1 {es : T} {n : Int} (h : EvN Φ es env [.sh (.int n)]) (h1 : -LIM ≤ n) (h2 : n ≤ LIM) : EvI Φ (.srng es) env (rngD 0 n) := by
  unfold EvI
  show one1 ((ev Φ es env).bind _) = _
  rw [h.1]
  show one1 (if -LIM ≤ n ∧ n ≤ LIM then _ else _) = _
  rw [if_pos ⟨h1, h2⟩]
  show one1 (if (rngD 0 n).length ≤ LIM then _ else _) = _
  rw [if_pos (by rw [rngD_length]; omega)] <;> rfl
theorem EvI.rng2 {es : T} {a b : Int} (h : EvN Φ es env [.sh (.int a), .sh (.int b)]) (h1 : 0 ≤ a) (h2 : a ≤ LIM) (h3 : -LIM ≤ b) (h4 : b ≤ LIM) : EvI Φ (.srng es) env (rngD a b) := by
  unfold EvI
  show one1 ((ev Φ es env).bind _) = _
  rw [h.1]
  show one1 (if -LIM ≤ a ∧ a ≤ LIM ∧ -LIM ≤ b ∧ b ≤ LIM then _ else _) = _
  rw [if_pos ⟨by omega, h2, h3, h4⟩]
  show one1 (if (rngD a b).length ≤ LIM then _ else _) = _
  rw [if_pos (by rw [rngD_length]; omega)] <;> rfl
theorem EvI.zip {es : T} {ra rb : R} {xs ys : List D} (h : EvN Φ es env [ra, rb]) (ha : lstOf ra.d = some xs) (hb : lstOf rb.d = some ys) (hl : (zipD xs ys).length ≤ LIM) : EvI Φ (.szip es) env (zipD xs ys) := by
  unfold EvI
  show one1 ((ev Φ es env).bind _) = _
  rw [h.1]
  show one1 (match lstOf ra.d, lstOf rb.d with
      | some xs, some ys => srcR (zipD xs ys) env
      | _, _ => .no) = _
  rw [ha, hb]
  show one1 (if (zipD xs ys).length ≤ LIM then _ else _) = _
  rw [if_pos hl] <;> rfl
end
end FH
set_option Elab.async false
set_option linter.all false
set_option maxRecDepth 100000
set_option maxHeartbeats 2000000
namespace FH
open PySem PySem.Spec PyProof.Rows L2
def We (Φ : FT) (e : T) (X : Str → D → Prop) (env : En) (K : R → En → Prop) : Prop := OkM (one1 (ev Φ e env)) (fun a => K a.1 a.2) X
def Wa (Φ : FT) (es : T) (X : Str → D → Prop) (env : En) (K : List R → En → Prop) : Prop := OkM (ev Φ es env) (fun a => K a.1 a.2) X
def Wp (Φ : FT) (s : S) (X : Str → D → Prop) (env : En) (Q : Out → Prop) : Prop := OkM (ex Φ s env) Q X
/-- what follows a statement -/
def Nx (Φ : FT) (s : S) (X : Str → D → Prop) (Q : Out → Prop) : Out → Prop := fun o => match o with
  | .nx e => Wp Φ s X e Q
  | o => Q o
/-- what follows a turn -/
def Lp (K : En → Prop) (Q : Out → Prop) : Out → Prop := fun o => match o with
  | .nx e => K e
  | .ct e => K e
  | .bk e => Q (.nx e)
  | .rt r e => Q (.rt r e)
def NoX : Str → D → Prop := fun _ _ => False
section
variable {Φ : FT} {X : Str → D → Prop} {env : En} {Q : Out → Prop} {K : R → En → Prop} {KA : List R → En → Prop}
/-! ### expressions -/
theorem one1_ok {m : M (List R × En)} {Q : R × En → Prop} (h : OkM m (fun a => ∃ r, a.1 = [r] ∧ Q (r, a.2)) X) : OkM (one1 m) Q X := by
  cases m with
  | ok a =>
    obtain ⟨r, e, q⟩ := h
    obtain ⟨rs, env⟩ := a
    cases e
    exact q
  | ex c d => exact h
  | no => exact h
theorem We.of {e : T} {r : R} (h : Ev Φ e env r) (k : K r env) : We Φ e X env K := OkM.of h k
theorem We.imp {e : T} {K' : R → En → Prop} (h : We Φ e X env K) (i : ∀ r e, K r e → K' r e) : We Φ e X env K' := OkM.imp h fun a q => i a.1 a.2 q
theorem We.mv {i : Nat} {r : R} (h : env[i]? = some (some r)) (k : K r (env.set i none)) : We Φ (.mv i) X env K := by
  refine OkM.of (a := (r, env.set i none)) ?_ k
  show one1 ((getS env i).bind _) = _
  unfold getS
  rw [h] <;> rfl
theorem Wa.nil (k : KA [] env) : Wa Φ .nil X env KA := k
theorem Wa.of {es : T} {rs : List R} (h : EvN Φ es env rs) (k : KA rs env) : Wa Φ es X env KA := OkM.of h.1 k
theorem Wa.cons {e es : T} (h : We Φ e X env fun r e1 => Wa Φ es X e1 fun rs e2 => KA (r :: rs) e2) : Wa Φ (.cons e es) X env KA :=
  OkM.bind (m := one1 (ev Φ e env)) (OkM.imp h fun a q => OkM.bind (OkM.imp q fun b z => z))
theorem Wa.consV {e es : T} {r : R} (h : Ev Φ e env r) (k : Wa Φ es X env fun rs e2 => KA (r :: rs) e2) : Wa Φ (.cons e es) X env KA := Wa.cons (We.of h k)
theorem Wa.late {i : Nat} {es : T} {r0 : R} (h0 : env[i]? = some (some r0)) (h : Wa Φ es X env fun rs e2 => ∃ r, e2[i]? = some (some r) ∧ KA (r :: rs) (e2.set i none)) : Wa Φ (.late i es) X env KA := by
  show OkM ((getS env i).bind _) _ _
  rw [getS_ok h0]
  refine OkM.bind (m := ev Φ es env) (OkM.imp h fun a q => ?_)
  obtain ⟨r, h1, h2⟩ := q
  obtain ⟨rs1, e2⟩ := a
  refine OkM.of (a := (r :: rs1, e2.set i none)) ?_ h2
  show (getS e2 i).bind _ = _
  rw [getS_ok h1] <;> rfl
theorem We.prim {p : P} {es : T} (h : Wa Φ es X env fun rs e1 => ∃ r, p.sem (rs.map R.d) = .ok r ∧ okRes rs r = true ∧ K r (backs (rs.map some) (bkOf es) e1)) : We Φ (.prim p es) X env K := by
  refine one1_ok (m := (ev Φ es env).bind _) (OkM.bind (OkM.imp h fun a q => ?_))
  obtain ⟨r, e1, e2, q⟩ := q
  refine OkM.bind (OkM.of e1 ?_)
  show OkM (if okRes a.1 r = true then _ else _) _ _
  rw [if_pos e2]
  exact ⟨r, rfl, q⟩
theorem We.mth {m : Mt} {e es : T} (h : We Φ e X env fun r e1 => m.okD r.d = true ∧ Wa Φ es X e1 fun rs e2 => ∃ q, semMt m (r.d :: rs.map R.d) = .ok q ∧ okRes (r :: rs) q = true ∧ K q (backs (some r :: rs.map some) (bkOf (.cons e es)) e2)) : We Φ (.mth m e es) X env K := by
  refine one1_ok (m := (one1 (ev Φ e env)).bind _) (OkM.bind (OkM.imp h fun a q => ?_))
  show OkM (if m.okD a.1.d = true then _ else _) _ _
  rw [if_pos q.1]
  refine OkM.bind (OkM.imp q.2 fun b z => ?_)
  obtain ⟨r, e1, e2, z⟩ := z
  refine OkM.bind (OkM.of e1 ?_)
  show OkM (if okRes (a.1 :: b.1) r = true then _ else _) _ _
  rw [if_pos e2]
  exact ⟨r, rfl, z⟩
theorem We.call {f : Str} {es : T} {g : Sem1} (hf : Φ f = some g) (h : Wa Φ es X env fun rs e1 => OkM (g rs) (fun c => K c.1 (backs c.2 (bkOf es) e1)) X) : We Φ (.call f es) X env K := by
  have e0 : ev Φ (.call f es) env = (match Φ f with
    | some g => (ev Φ es env).bind fun a => (g a.1).bind fun b => .ok ([b.1], backs b.2 (bkOf es) a.2)
    | none => .no) := rfl
  unfold We
  rw [e0, hf]
  exact one1_ok (OkM.bind (OkM.imp h fun a q => OkM.bind (OkM.imp q fun b z => ⟨b.1, rfl, z⟩)))
theorem We.lst {es : T} (h : Wa Φ es X env fun rs e1 => K (.ow (.lst none (rs.map R.d))) e1) : We Φ (.lst es) X env K := one1_ok (m := (ev Φ es env).bind _) (OkM.bind (OkM.imp h fun a q => ⟨_, rfl, q⟩))
theorem We.tup {es : T} (h : Wa Φ es X env fun rs e1 => K (.tp (rs.map cmpOf)) e1) : We Φ (.tup es) X env K := one1_ok (m := (ev Φ es env).bind _) (OkM.bind (OkM.imp h fun a q => ⟨_, rfl, q⟩))
theorem We.frz {a : T} (h : We Φ a X env fun r e1 => K (.sh r.d) e1) : We Φ (.frz a) X env K := one1_ok (m := (one1 (ev Φ a env)).bind _) (OkM.bind (OkM.imp h fun c q => ⟨_, rfl, q⟩))
theorem We.one {a : T} (h : We Φ a X env K) : We Φ (.one a) X env K := h
/-- a truth value -/
def WB (r : R) (KB : Bool → Prop) : Prop := ∃ t, r = .sh (.bl t) ∧ KB t
theorem WB.ok {r : R} {KB : Bool → Prop} (h : WB r KB) : OkM (asB r) KB X := by obtain ⟨t, rfl, q⟩ := h; exact q
theorem We.and {a b : T} (h : We Φ a X env fun r e1 => WB r fun t => (t = true → We Φ b X e1 K) ∧ (t = false → K (.sh (.bl false)) e1)) : We Φ (.and a b) X env K := by
  unfold We
  show OkM (one1 ((one1 (ev Φ a env)).bind _)) _ _
  rw [one1_bind]
  refine OkM.bind (OkM.imp h fun c q => ?_)
  rw [one1_bind]
  refine OkM.bind (OkM.imp q.ok fun t z => ?_)
  cases t with
  | true => exact z.1 rfl
  | false => exact z.2 rfl
theorem We.or {a b : T} (h : We Φ a X env fun r e1 => WB r fun t => (t = true → K (.sh (.bl true)) e1) ∧ (t = false → We Φ b X e1 K)) : We Φ (.or a b) X env K := by
  unfold We
  show OkM (one1 ((one1 (ev Φ a env)).bind _)) _ _
  rw [one1_bind]
  refine OkM.bind (OkM.imp h fun c q => ?_)
  rw [one1_bind]
  refine OkM.bind (OkM.imp q.ok fun t z => ?_)
  cases t with
  | true => exact z.1 rfl
  | false => exact z.2 rfl
theorem We.not {a : T} (h : We Φ a X env fun r e1 => WB r fun t => K (.sh (.bl (!t))) e1) : We Φ (.not a) X env K := by
  unfold We
  show OkM (one1 ((one1 (ev Φ a env)).bind _)) _ _
  rw [one1_bind]
  refine OkM.bind (OkM.imp h fun c q => ?_)
  rw [one1_bind]
  exact OkM.bind (OkM.imp q.ok fun t z => z)
theorem We.ite {c a b : T} (h : We Φ c X env fun r e1 => WB r fun t => (t = true → We Φ a X e1 K) ∧ (t = false → We Φ b X e1 K)) : We Φ (.ite c a b) X env K := by
  unfold We
  show OkM (one1 ((one1 (ev Φ c env)).bind _)) _ _
  rw [one1_bind]
  refine OkM.bind (OkM.imp h fun c q => ?_)
  rw [one1_bind]
  refine OkM.bind (OkM.imp q.ok fun t z => ?_)
  cases t with
  | true => exact z.1 rfl
  | false => exact z.2 rfl
/-- a comprehension whose turns change the frame: I done made frame -/
theorem We.comp {α : Type} {own : List (Str × Nat)} {elt src : T} {tg : Tg} {enc : α → D} {l : List α} (I : List α → List D → En → Prop) (hs : We Φ src X env fun r e1 => r = .sh (.lst none (l.map enc)) ∧ l.length ≤ LIM ∧ I [] [] (wipeE e1 (own.map (·.2))) ∧
      ∀ ys e2, I l ys e2 → K (.ow (.lst none ys)) (restore (own.map (·.2)) e1 e2))
    (step : ∀ done a rest ys e, l = done ++ a :: rest → I done ys e → ∃ e1, setT tg (enc a) e = .ok e1 ∧ We Φ elt NoX e1 fun r e2 => I (done ++ [a]) (ys ++ [r.d]) (wipeE e2 (own.map (·.2)))) : We Φ (.comp own elt tg src .nil) X env K := by
  unfold We
  show OkM (one1 ((one1 (ev Φ src env)).bind _)) _ _
  rw [one1_bind]
  refine OkM.bind (OkM.imp hs fun c q => ?_)
  obtain ⟨r, e1⟩ := c
  obtain ⟨h1, h2, h3, h4⟩ := q
  have h1' : r = .sh (.lst none (l.map enc)) := h1
  subst h1'
  have key : ∀ (rest done : List α) (ys : List D) (e : En), l = done ++ rest → I done ys e → OkM (compL (fun x env => ((setT tg x env).bind fun env => (condM .nil (ev Φ .nil) env).bind fun (t, env) =>
        if t then (one1 (ev Φ elt env)).bind fun (y, env) => .ok (some y.d, wipeE env (own.map (·.2))) else .ok (none, wipeE env (own.map (·.2)))).noex) (rest.map enc) e) (fun a => I l (ys ++ a.1) a.2) X := by
    intro rest
    induction rest with
    | nil =>
      intro done ys e he hI
      rw [List.append_nil] at he
      subst he
      show I l (ys ++ []) e
      rw [List.append_nil]
      exact hI
    | cons a rest ih =>
      intro done ys e he hI
      obtain ⟨e2, s1, s2⟩ := step done a rest ys e he hI
      show OkM ((M.noex ((setT tg (enc a) e).bind _)).bind _) _ _
      rw [s1]
      show OkM ((M.noex ((one1 (ev Φ elt e2)).bind _)).bind _) _ _
      have s3 : OkM (one1 (ev Φ elt e2)) (fun a' => I (done ++ [a]) (ys ++ [a'.1.d]) (wipeE a'.2 (own.map (·.2)))) NoX := s2
      cases e3 : one1 (ev Φ elt e2) with
      | no => rw [e3] at s3; exact s3.elim
      | ex c d => rw [e3] at s3; exact s3.elim
      | ok b =>
        rw [e3] at s3
        show OkM ((compL _ (rest.map enc) (wipeE b.2 (own.map (·.2)))).bind _) _ _
        refine OkM.bind (OkM.imp (ih (done ++ [a]) (ys ++ [b.1.d]) _ (by rw [he]; simp) s3) fun z w => ?_)
        show I l (ys ++ ([b.1.d] ++ z.1)) z.2
        rw [← List.append_assoc]
        exact w
  show OkM (one1 (if (l.map enc).length ≤ LIM then _ else _)) _ _
  rw [if_pos (by rw [List.length_map]; exact h2)]
  rw [one1_bind]
  refine OkM.bind (OkM.imp (key l [] [] _ rfl h3) fun a q => ?_)
  exact h4 _ _ (by simpa using q)
/-! ### statements -/
theorem Wp.imp {s : S} {Q' : Out → Prop} (h : Wp Φ s X env Q) (i : ∀ o, Q o → Q' o) : Wp Φ s X env Q' := OkM.imp h i
theorem Wp.nil (h : Q (.nx env)) : Wp Φ .nil X env Q := h
theorem Wp.seq {s r : S} (h : Wp Φ s X env (Nx Φ r X Q)) : Wp Φ (.seq s r) X env Q := by
  refine OkM.bind (m := ex Φ s env) (OkM.imp h fun o q => ?_)
  cases o <;> exact q
theorem Wp.at_env {s : S} {e : En} (h : Wp Φ s X e Q) (q : env = e) : Wp Φ s X env Q := by rw [q]; exact h
theorem Wp.asg {i : Nat} {e : T} {r : S} (h : We Φ e X env fun v e1 => Wp Φ r X (e1.set i (some v)) Q) : Wp Φ (.seq (.asg i e) r) X env Q := Wp.seq (OkM.bind (m := one1 (ev Φ e env)) (OkM.imp h fun a q => q))
theorem Wp.asgV {i : Nat} {e : T} {r : S} {v : R} (h : Ev Φ e env v) (k : Wp Φ r X (env.set i (some v)) Q) : Wp Φ (.seq (.asg i e) r) X env Q := Wp.asg (We.of h k)
theorem Wp.expr {e : T} {r : S} (h : We Φ e X env fun _ e1 => Wp Φ r X e1 Q) : Wp Φ (.seq (.expr e) r) X env Q := Wp.seq (OkM.bind (m := one1 (ev Φ e env)) (OkM.imp h fun a q => q))
theorem Wp.ret {e : T} {r : S} (h : We Φ e X env fun v e1 => Q (.rt v e1)) : Wp Φ (.seq (.ret e) r) X env Q := Wp.seq (OkM.bind (m := one1 (ev Φ e env)) (OkM.imp h fun a q => q))
theorem Wp.retV {e : T} {r : S} {v : R} (h : Ev Φ e env v) (k : Q (.rt v env)) : Wp Φ (.seq (.ret e) r) X env Q := Wp.ret (We.of h k)
theorem Wp.ret0 {r : S} (k : Q (.rt (.sh .non) env)) : Wp Φ (.seq .ret0 r) X env Q := Wp.seq k
theorem Wp.cont {r : S} (k : Q (.ct env)) : Wp Φ (.seq .cont r) X env Q := Wp.seq k
theorem Wp.brk {r : S} (k : Q (.bk env)) : Wp Φ (.seq .brk r) X env Q := Wp.seq k
theorem Wp.ifs {c : T} {a b r : S} (h : We Φ c X env fun v e1 => WB v fun t => (t = true → Wp Φ a X e1 (Nx Φ r X Q)) ∧ (t = false → Wp Φ b X e1 (Nx Φ r X Q))) : Wp Φ (.seq (.ifs c a b) r) X env Q := by
  refine Wp.seq (OkM.bind (m := one1 (ev Φ c env)) (OkM.imp h fun v q => OkM.bind (OkM.imp q.ok fun t z => ?_)))
  cases t with
  | true => exact z.1 rfl
  | false => exact z.2 rfl
theorem Wp.ifV {c : T} {a b r : S} {t : Bool} (h : Ev Φ c env (.sh (.bl t))) (k1 : t = true → Wp Φ a X env (Nx Φ r X Q)) (k2 : t = false → Wp Φ b X env (Nx Φ r X Q)) : Wp Φ (.seq (.ifs c a b) r) X env Q := Wp.ifs (We.of h ⟨t, rfl, k1, k2⟩)
/-- if c: a, no else -/
theorem Wp.if1 {c : T} {a r : S} {t : Bool} (h : Ev Φ c env (.sh (.bl t))) (k1 : t = true → Wp Φ a X env (Nx Φ r X Q)) (k2 : t = false → Wp Φ r X env Q) : Wp Φ (.seq (.ifs c a .nil) r) X env Q := Wp.ifV h k1 k2
theorem Wp.unp {is : List Nat} {e : T} {r : S} (h : We Φ e X env fun v e1 => ∃ rs e2, unR v = some rs ∧ setRs is rs e1 = .ok e2 ∧ Wp Φ r X e2 Q) : Wp Φ (.seq (.unp is e) r) X env Q := by
  refine Wp.seq (OkM.bind (m := one1 (ev Φ e env)) (OkM.imp h fun v q => ?_))
  obtain ⟨rs, e2, h1, h2, h3⟩ := q
  simp only [h1]
  show OkM ((setRs is rs v.2).bind _) _ _
  rw [h2]
  exact h3
theorem Wp.par {i j : Nat} {es : T} {r : S} (h : Wa Φ es X env fun rs e1 => ∃ a b, rs = [a, b] ∧ Wp Φ r X ((e1.set i (some a)).set j (some b)) Q) : Wp Φ (.seq (.par i j es) r) X env Q := by
  refine Wp.seq (OkM.bind (m := ev Φ es env) (OkM.imp h fun v q => ?_))
  obtain ⟨a, b, h1, h2⟩ := q
  obtain ⟨rs, e1⟩ := v
  have h1' : rs = [a, b] := h1
  subst h1'
  exact h2
theorem Wp.setx {i : Nat} {ix e : T} {r : S} (h : We Φ e X env fun v e1 => ∃ o, e1[i]? = some (some o) ∧ We Φ ix X (e1.set i none) fun k e2 => ∃ o', setO o k.d v.d = some o' ∧ Wp Φ r X (e2.set i (some o')) Q) : Wp Φ (.seq (.setx i ix e) r) X env Q := by
  refine Wp.seq (OkM.bind (m := one1 (ev Φ e env)) (OkM.imp h fun v q => ?_))
  obtain ⟨o, h1, h2⟩ := q
  show OkM ((getS v.2 i).bind _) _ _
  rw [getS_ok h1]
  show OkM ((one1 (ev Φ ix (v.2.set i none))).bind _) _ _
  refine OkM.bind (OkM.imp h2 fun k z => ?_)
  obtain ⟨o', h3, h4⟩ := z
  simp only [h3]
  exact h4
theorem Wp.setf {i : Nat} {C f : Str} {e : T} {r : S} (h : We Φ e X env fun v e1 => ∃ fs, e1[i]? = some (some (.ow (.obj C fs))) ∧ fs.length < 1000 ∧ Wp Φ r X (e1.set i (some (.ow (.obj C (putD f v.d fs))))) Q) : Wp Φ (.seq (.setf i C f e) r) X env Q := by
  refine Wp.seq (OkM.bind (m := one1 (ev Φ e env)) (OkM.imp h fun v q => ?_))
  obtain ⟨fs, h1, h2, h3⟩ := q
  show OkM ((getS v.2 i).bind _) _ _
  rw [getS_ok h1]
  show OkM (if C = C ∧ fs.length < 1000 then _ else _) _ _
  rw [if_pos ⟨rfl, h2⟩]
  exact h3
theorem Wp.app {i : Nat} {e : T} {r : S} {t : Option Addr} {xs : List D} (h1 : env[i]? = some (some (.ow (.lst t xs)))) (h : We Φ e X (env.set i none) fun v e1 => xs.length ≤ LIM ∧ Wp Φ r X (e1.set i (some (.ow (.lst t (xs ++ [v.d]))))) Q) : Wp Φ (.seq (.app i e) r) X env Q := by
  refine Wp.seq ?_
  show OkM ((getS env i).bind _) _ _
  rw [getS_ok h1]
  show OkM ((one1 (ev Φ e (env.set i none))).bind _) _ _
  refine OkM.bind (OkM.imp h fun v q => ?_)
  show OkM (if xs.length ≤ LIM then _ else _) _ _
  rw [if_pos q.1]
  exact q.2
theorem set_app {i : Nat} {a : Option R} {o : R} (h : env[i]? = some (some o)) : ((env.set i none).set i a) = env.set i a := by rw [List.set_set]
theorem Wp.appV {i : Nat} {e : T} {r : S} {t : Option Addr} {xs : List D} {v : R} (h1 : env[i]? = some (some (.ow (.lst t xs)))) (h : Ev Φ e (env.set i none) v) (hl : xs.length ≤ LIM) (k : Wp Φ r X (env.set i (some (.ow (.lst t (xs ++ [v.d]))))) Q) : Wp Φ (.seq (.app i e) r) X env Q :=
  Wp.app h1 (We.of h ⟨hl, by rw [List.set_set]; exact k⟩)
theorem Wp.rem {i : Nat} {e : T} {r : S} {t : Option Addr} {xs : List D} (h1 : env[i]? = some (some (.ow (.lst t xs)))) (h : We Φ e X (env.set i none) fun v e1 => ∃ ys, remD xs v.d = some ys ∧ Wp Φ r X (e1.set i (some (.ow (.lst t ys)))) Q) : Wp Φ (.seq (.rem i e) r) X env Q := by
  refine Wp.seq ?_
  show OkM ((getS env i).bind _) _ _
  rw [getS_ok h1]
  show OkM ((one1 (ev Φ e (env.set i none))).bind _) _ _
  refine OkM.bind (OkM.imp h fun v q => ?_)
  obtain ⟨ys, h2, h3⟩ := q
  simp only [h2]
  exact h3
theorem Wp.ext {i : Nat} {e : T} {r : S} {t : Option Addr} {xs : List D} (h1 : env[i]? = some (some (.ow (.lst t xs)))) (h : We Φ e X (env.set i none) fun v e1 => ∃ t' ys, v.d = .lst t' ys ∧ xs.length + ys.length ≤ LIM ∧ Wp Φ r X (e1.set i (some (.ow (.lst t (xs ++ ys))))) Q) : Wp Φ (.seq (.ext i e) r) X env Q := by
  refine Wp.seq ?_
  show OkM ((getS env i).bind _) _ _
  rw [getS_ok h1]
  show OkM ((one1 (ev Φ e (env.set i none))).bind _) _ _
  refine OkM.bind (OkM.imp h fun v q => ?_)
  obtain ⟨t', ys, h2, h3, h4⟩ := q
  simp only [h2]
  show OkM (if xs.length + ys.length ≤ LIM then _ else _) _ _
  rw [if_pos h3]
  exact h4
/-- a for: I done frame -/
theorem Wp.for_ {α : Type} {tg : Tg} {src : T} {body r : S} {enc : α → D} {l : List α} (I : List α → En → Prop) (hs : We Φ src X env fun v e1 => v = .sh (.lst none (l.map enc)) ∧ I [] e1)
    (step : ∀ done a rest e, l = done ++ a :: rest → I done e → ∃ e1, setT tg (enc a) e = .ok e1 ∧ Wp Φ body X e1 (Lp (I (done ++ [a])) (Nx Φ r X Q))) (fin : ∀ e, I l e → Wp Φ r X e Q) : Wp Φ (.seq (.for tg src body) r) X env Q := by
  refine Wp.seq (OkM.bind (m := one1 (ev Φ src env)) (OkM.imp hs fun v q => ?_))
  obtain ⟨v, e0⟩ := v
  obtain ⟨h1, h2⟩ := q
  have h1' : v = .sh (.lst none (l.map enc)) := h1
  subst h1'
  have key : ∀ (rest done : List α) (e : En), l = done ++ rest → I done e → OkM (exL (fun x env => (setT tg x env).bind fun env => ex Φ body env) (rest.map enc) e) (Nx Φ r X Q) X := by
    intro rest
    induction rest with
    | nil =>
      intro done e he hI
      rw [List.append_nil] at he
      subst he
      exact fin e hI
    | cons a rest ih =>
      intro done e he hI
      obtain ⟨e1, s1, s2⟩ := step done a rest e he hI
      show OkM (((setT tg (enc a) e).bind _).bind _) _ _
      rw [s1]
      show OkM ((ex Φ body e1).bind _) _ _
      refine OkM.bind (OkM.imp s2 fun o w => ?_)
      cases o with
      | nx e2 => exact ih (done ++ [a]) e2 (by rw [he]; simp) w
      | ct e2 => exact ih (done ++ [a]) e2 (by rw [he]; simp) w
      | bk e2 => exact w
      | rt v e2 => exact w
  exact key l [] e0 rfl h2
/-- a for over a row made on the way -/
theorem Wp.forE {tg : Tg} {src : T} {body r : S} (hs : We Φ src X env fun v e1 => ∃ (xs : List D) (I : List D → En → Prop), v = .sh (.lst none xs) ∧ I [] e1 ∧
      (∀ done a rest e, xs = done ++ a :: rest → I done e → ∃ e1, setT tg a e = .ok e1 ∧ Wp Φ body X e1 (Lp (I (done ++ [a])) (Nx Φ r X Q))) ∧ ∀ e, I xs e → Wp Φ r X e Q) : Wp Φ (.seq (.for tg src body) r) X env Q := by
  refine Wp.seq (OkM.bind (m := one1 (ev Φ src env)) (OkM.imp hs fun v q => ?_))
  obtain ⟨v, e0⟩ := v
  obtain ⟨xs, I, h1, h2, step, fin⟩ := q
  have h1' : v = .sh (.lst none xs) := h1
  subst h1'
  have key : ∀ (rest done : List D) (e : En), xs = done ++ rest → I done e → OkM (exL (fun x env => (setT tg x env).bind fun env => ex Φ body env) rest e) (Nx Φ r X Q) X := by
    intro rest
    induction rest with
    | nil =>
      intro done e he hI
      rw [List.append_nil] at he
      subst he
      exact fin e hI
    | cons a rest ih =>
      intro done e he hI
      obtain ⟨e1, s1, s2⟩ := step done a rest e he hI
      show OkM (((setT tg a e).bind _).bind _) _ _
      rw [s1]
      show OkM ((ex Φ body e1).bind _) _ _
      refine OkM.bind (OkM.imp s2 fun o w => ?_)
      cases o with
      | nx e2 => exact ih (done ++ [a]) e2 (by rw [he]; simp) w
      | ct e2 => exact ih (done ++ [a]) e2 (by rw [he]; simp) w
      | bk e2 => exact w
      | rt v e2 => exact w
  exact key xs [] e0 rfl h2
theorem Wp.forV {α : Type} {tg : Tg} {src : T} {body r : S} {enc : α → D} {l : List α} (I : List α → En → Prop) (hs : EvI Φ src env (l.map enc)) (h0 : I [] env)
    (step : ∀ done a rest e, l = done ++ a :: rest → I done e → ∃ e1, setT tg (enc a) e = .ok e1 ∧ Wp Φ body X e1 (Lp (I (done ++ [a])) (Nx Φ r X Q))) (fin : ∀ e, I l e → Wp Φ r X e Q) : Wp Φ (.seq (.for tg src body) r) X env Q :=
  Wp.for_ I (We.of hs ⟨rfl, h0⟩) step fin
/-- a while: I turns-left frame -/
theorem Wp.while_ {n : Nat} {c : T} {body r : S} (I : Nat → En → Prop) (h0 : ∃ m, m < n ∧ I m env) (step : ∀ m e, I m e → We Φ c X e fun v e1 => WB v fun t => (t = true → Wp Φ body X e1 (Lp (fun e2 => ∃ m', m' < m ∧ I m' e2) (Nx Φ r X Q))) ∧ (t = false → Wp Φ r X e1 Q)) : Wp Φ (.seq (.while n c body) r) X env Q := by
  refine Wp.seq ?_
  show OkM (exW (fun env => (one1 (ev Φ c env)).bind fun (r, env1) => (asB r).bind fun t => .ok (t, env1)) (ex Φ body) n env) (Nx Φ r X Q) X
  induction n generalizing env with
  | zero => obtain ⟨m, hm, _⟩ := h0; omega
  | succ n ih =>
    obtain ⟨m, hm, hI⟩ := h0
    show OkM (((one1 (ev Φ c env)).bind _).bind _) _ _
    refine OkM.bind (OkM.bind (OkM.imp (step m env hI) fun v q => OkM.bind (OkM.imp q.ok fun t z => ?_)))
    cases t with
    | false => exact z.2 rfl
    | true =>
      show OkM ((ex Φ body v.2).bind _) _ _
      refine OkM.bind (OkM.imp (z.1 rfl) fun o w => ?_)
      cases o with
      | nx e2 => obtain ⟨m', h1, h2⟩ := w; exact ih ⟨m', by omega, h2⟩
      | ct e2 => obtain ⟨m', h1, h2⟩ := w; exact ih ⟨m', by omega, h2⟩
      | bk e2 => exact w
      | rt v e2 => exact w
end
/-! ### defs -/
/-- the arguments that are not lent are shared -/
def frz (io : List Nat) : Nat → List R → List R
  | _, [] => []
  | j, r :: rs => (if j ∈ io then r else sh1 r) :: frz io (j + 1) rs
theorem frz_len {io : List Nat} : ∀ {rs : List R} {j : Nat}, (frz io j rs).length = rs.length
  | [], _ => rfl
  | r :: rs, j => by
    show (frz io (j + 1) rs).length + 1 = _
    rw [frz_len] <;> rfl
theorem frz_nil : ∀ {rs : List R} {j : Nat}, frz [] j rs = (rs.map R.d).map R.sh
  | [], _ => rfl
  | r :: rs, j => by
    show (if j ∈ [] then r else sh1 r) :: frz [] (j + 1) rs = _
    rw [if_neg List.not_mem_nil, frz_nil] <;> rfl
/-- a def's meaning over the meanings Φ -/
def dG (Φ : FT) (n m : Nat) (io : List Nat) (B : S) : Sem1 := fun rs => if rs.length = m then runF Φ n io B (frz io 0 rs) else .no
/-- how a def's outcome is told -/
def Told (io : List Nat) (m : Nat) (K : R × List (Option R) → Prop) : Out → Prop := fun o => match o with
  | .rt r env => K (r, outsOf io m env)
  | .nx env => K (.sh .non, outsOf io m env)
  | _ => False
section
variable {Φ : FT} {X : Str → D → Prop}
theorem dG_ok {n m : Nat} {io : List Nat} {B : S} {rs : List R} {K : R × List (Option R) → Prop} (e : rs.length = m) (h : Wp Φ B X ((frz io 0 rs).map some ++ List.replicate (n - m) none) (Told io m K)) : OkM (dG Φ n m io B rs) K X := by
  unfold dG
  subst e
  refine okIf rfl ?_
  unfold runF
  rw [frz_len]
  refine OkM.bind (m := ex Φ B ((frz io 0 rs).map some ++ List.replicate (n - rs.length) none)) (OkM.imp h fun o q => ?_)
  cases o with
  | rt r env => exact q
  | nx env => exact q
  | bk env => exact q.elim
  | ct env => exact q.elim
theorem okM_eq {α : Type} {m : M α} {a : α} (h : OkM m (fun b => b = a) NoX) : m = .ok a := by
  cases m with
  | ok b => exact congrArg M.ok h
  | ex c d => exact h.elim
  | no => exact h.elim
theorem outs_nil {m : Nat} {env : En} : outsOf [] m env = List.replicate m none := by
  have : ∀ l : List Nat, (l.map fun j => if j ∈ ([] : List Nat) then env[j]?.join else none) = List.replicate l.length (none : Option R) := by
    intro l
    induction l with
    | nil => rfl
    | cons a l ih => rw [List.map_cons, ih, if_neg (List.not_mem_nil)] <;> rfl
  unfold outsOf
  rw [this, List.length_range]
/-- a pure def's answer -/
def Ans (r : R) : Out → Prop := fun o => match o with
  | .rt q _ => q = r
  | .nx _ => R.sh .non = r
  | _ => False
theorem dG_eq {n m : Nat} {B : S} {rs : List R} {ds : List D} {r : R} (hd : rs.map R.d = ds) (e : ds.length = m) (h : Wp Φ B NoX ((ds.map fun d => some (.sh d)) ++ List.replicate (n - m) none) (Ans r)) : dG Φ n m [] B rs = .ok (r, List.replicate m none) := by
  subst hd
  rw [List.length_map] at e
  refine okM_eq (dG_ok e ?_)
  rw [frz_nil, List.map_map]
  refine Wp.imp h fun o q => ?_
  cases o with
  | rt v env =>
    have q' : v = r := q
    subst q'
    show (v, outsOf [] m env) = _
    rw [outs_nil]
  | nx env =>
    have q' : R.sh .non = r := q
    subst q'
    show (R.sh .non, outsOf [] m env) = _
    rw [outs_nil]
  | bk env => exact q.elim
  | ct env => exact q.elim
end
end FH
set_option Elab.async false
set_option linter.all false
set_option maxRecDepth 100000
set_option maxHeartbeats 2000000
namespace FH
open PySem PySem.Spec PyProof.Rows L2
/-- a def: its name, its names by slot, its parameters, the slots lent back, its body -/
structure DT where
  name : Str
  N : List Str
  ps : List Str
  io : List Nat
  B : S
  df : List Int := []
def findT (tab : List DT) (x : Str) : Option DT := tab.find? fun d => decide (d.name = x)
/-- the defs' meanings, calls nested at most so deep -/
def PT (tab : List DT) : Nat → FT
  | 0 => fun _ => none
  | n + 1 => fun x => (findT tab x).map fun d => dG (PT tab n) d.N.length d.ps.length d.io d.B
theorem PT_eq {tab : List DT} {n : Nat} {x : Str} {d : DT} (h : findT tab x = some d) : PT tab (n + 1) x = some (dG (PT tab n) d.N.length d.ps.length d.io d.B) := by
  show (findT tab x).map _ = _
  rw [h] <;> rfl
/-- how a def binds -/
def lastN (x : Str) : Str := match cm x with
  | some (_, m) => m
  | none => x
def BindOk (df : List Int) (ps : List Str) (st : Stmt) (x : Str) : Prop := match df with
  | [] => ∀ (kV doc pm : Value) (an : Option Addr) (cdv ct : Value) (us : List Value), us.length = ps.length → bindArgs (PySem.W.fnOf (lastN x) x (defArgs st) (defBody st) (defScope st) .none kV doc pm an cdv ct) ⟨us, []⟩ = pure (ps.zip us)
  | _ :: _ => ∀ (T : Addr) (kV doc pm : Value) (an : Option Addr) (cdv ct : Value) (us its : List Value), us.length = ps.length → its.length = df.length →
      ∃ k, bindArgs (PySem.W.fnOf (lastN x) x (defArgs st) (defBody st) (defScope st) (.ref T) kV doc pm an cdv ct) ⟨us, []⟩ = seqItems? (.ref T) >>= k ∧ k (some its.toArray) = pure (ps.zip (us ++ its.drop df.length))
/-- a def fits the text st -/
structure FitD (gs : GX) (d : DT) (st : Stmt) : Prop where
  fit : mSs ⟨d.N, defScope st, fun _ => true, gs⟩ d.io d.B (defBody st) = true
  sc : scOk d.N d.ps (defScope st) = true
  bind : BindOk d.df d.ps st d.name
def atN (x : Str) : Str × Option Str := match cm x with
  | some (C, m) => (C, some m)
  | none => (x, none)
def datD (d : DT) (st : Stmt) : He.DefD := ⟨atN d.name, lastN d.name, d.name, defArgs st, defBody st, defScope st, d.df.map He.Dv.int, []⟩
def FitAll (gs : GX) : List (DT × Stmt) → Prop
  | [] => True
  | p :: r => FitD gs p.1 p.2 ∧ FitAll gs r
theorem FitAll.mem {gs : GX} : ∀ {l : List (DT × Stmt)} {p : DT × Stmt}, FitAll gs l → p ∈ l → FitD gs p.1 p.2
  | q :: r, p, h, m => by
    rcases List.mem_cons.mp m with e | e
    · rw [e]; exact h.1
    · exact FitAll.mem h.2 e
def gFa : Str × V → He.Fa
  | (x, .int i) => .int x i
  | (x, .str s) => .str x s
  | (x, _) => .free x
def gOk : Str × V → Bool
  | (_, .int _) => true
  | (_, .str _) => true
  | _ => false
def nFa (x : Str) : List He.Fa := match cm x with
  | some (C, m) => [.cls C, .meth C m, .glo C] ++ (if m = "__init__" then [.mkr C] else [])
  | none => [.glo x]
def faOf (l : List (DT × Stmt)) (gs : GX) : List He.Fa := (l.flatMap fun p => nFa p.1.name) ++ (bnames.map He.Fa.free ++ (gs.vs.map gFa ++ gs.cl.flatMap fun q => He.Fa.glo q.1 :: He.Fa.cls q.1 :: q.2.map (He.Fa.noat q.1)))
def xfOf (gs : GX) : List XF := gs.cl.flatMap fun q => .inst q.1 :: gs.cl.map fun p => .kit p.1 q.1 (decide (p.1 = q.1))
def fnOfT (l : List (DT × Stmt)) : List He.DefD := l.map fun p => datD p.1 p.2
section
variable {fa : List He.Fa} {fn : List He.DefD} {K : PySem.W.Frag}
theorem says_fact (c : He.SaysD fa fn K) {f : He.Fa} (h : f ∈ fa) : f.ok K = true := by
  obtain ⟨i, hi⟩ := List.mem_iff_getElem?.mp h
  exact c.fact i hi
theorem says_def (c : He.SaysD fa fn K) {d : He.DefD} (h : d ∈ fn) : ∃ fd, FunD K d.name d.qual d.params d.body d.scope (d.dvs K) (d.kws K) (He.fAd K d.at_) fd := by
  obtain ⟨i, hi⟩ := List.mem_iff_getElem?.mp h
  exact c.def_ i hi
theorem FunD.plain {x q : Str} {st : Stmt} {f : Addr} {fd : FuncData} {dvs : List V} {kws : List (Str × V)} (F : FunD K x q (defArgs st) (defBody st) (defScope st) dvs kws f fd) : FunX K x q st f fd := by
  obtain ⟨oc, od, dV, kV, doc, pm, an, cdv, ct, osl, e, lk, cd, _, _⟩ := F.ex
  exact ⟨⟨oc, od, dV, kV, doc, pm, an, cdv, ct, osl, e, lk, cd⟩⟩
theorem FunD.allB {x : Str} {st : Stmt} {f : Addr} {fd : FuncData} {df : List Int} {ps : List Str} (F : FunD K (lastN x) x (defArgs st) (defBody st) (defScope st) (df.map V.int) [] f fd) (h : BindOk df ps st x) : Binds K fd ps [] := by
  cases df with
  | nil => exact F.bindsN h
  | cons a r =>
    obtain ⟨ds, h1, h2⟩ := F.binds1 (ps := ps) ps.length ((a :: r).map V.int).length (by simp) (by simp) fun T kV doc pm an cdv ct us its l1 l2 => by
      have := h T kV doc pm an cdv ct us its l1 (by rw [l2, List.length_map])
      rw [List.length_map]
      exact this
    rw [List.drop_length] at h1
    cases h1
    exact h2
end
/-! ### shared arguments -/
def aIo (io : List Nat) : Act := fun l => match l with
  | .s j c => if j ∈ io then some (some (.s j c)) else none
  | .t j c => some (some (.t j c))
theorem aIo_low (io : List Nat) : Low 0 (aIo io) := fun _ _ h => absurd h (Nat.not_lt_zero _)
theorem reps_frz {ca : Cs} {F H : Hp} {O : Own} {io : List Nat} (b : Bs F O H) : ∀ {rs : List R} {k : Nat} {vs : List V}, RepRs ca F H O Lab.s k rs vs → RepRs ca (mF (aIo io) O F H) H (mO (aIo io) O) Lab.s k (frz io k rs) vs
  | [], k, vs, h => h
  | r :: rs, k, vs, h => by
    obtain ⟨v, w, h1, h2, h3⟩ := h
    refine ⟨v, w, h1, ?_, reps_frz b h3⟩
    by_cases hk : k ∈ io
    · rw [if_pos hk]
      exact h2.map b fun c => (show (if k ∈ io then some (some (Lab.s k c)) else none) = _ from if_pos hk)
    · rw [if_neg hk]
      exact h2.frz b fun c => (show (if k ∈ io then some (some (Lab.s k c)) else none) = _ from if_neg hk)
theorem spD_frz {ca : Cs} {g : Sem1} {io : List Nat} {vs : List V} {H : Hp} {Q : VK} {E : XK} (h : spD ca (fun rs => g (frz io 0 rs)) vs H Q E) : spD ca g vs H Q E := by
  obtain ⟨F, O, rs, b, lo, rr, q⟩ := h
  refine ⟨mF (aIo io) O F H, mO (aIo io) O, frz io 0 rs, b.map _, fun a l z => ?_, reps_frz b rr, ?_⟩
  · obtain ⟨l0, h1, h2⟩ := mO_inv z
    obtain ⟨i, c, rfl⟩ := lo a l0 h1
    have h2' : (if i ∈ io then some (some (Lab.s i c)) else none) = some (some l) := h2
    split at h2'
    · cases h2'; exact ⟨i, c, rfl⟩
    · cases h2'
  · have st := b.stp (aIo_low io)
    simp only at q
    cases e : g (frz io 0 rs) with
    | no => rw [e] at q; exact q
    | ok p =>
      obtain ⟨r, outs⟩ := p
      rw [e] at q
      exact fun v F' O' H' st' => q v F' O' H' (st.trans st')
    | ex c d =>
      rw [e] at q
      exact fun dx v n F' O' H' st' => q dx v n F' O' H' (st.trans st')
theorem FnG.weak {P : Program} {w : World} {K : PySem.W.Frag} {mg : Str → Option Value} {base : Heap} {k : Nat} {f : Addr} {fd : FuncData} {ps : List Str} {sp sp' : Sp} (F : FnG P w K mg base k f fd ps sp) (h : ∀ vs H Q E, sp' vs H Q E → sp vs H Q E) : FnG P w K mg base k f fd ps sp' :=
  ⟨fun vs H Q E z => F.len vs H Q E (h vs H Q E z), fun A outer s H args us vs Q E r e b v z => F.run A outer s H args us vs Q E r e b v (h vs H Q E z)⟩
theorem dG_sp {ca : Cs} {Φ : FT} {n m : Nat} {io : List Nat} {B : S} {vs : List V} {H : Hp} {Q : VK} {E : XK} (h : spD ca (dG Φ n m io B) vs H Q E) : spD ca (fun rs => if rs.length = m then runF Φ n io B rs else .no) vs H Q E := by
  refine spD_frz (io := io) ?_
  have e : (fun rs => (fun rs : List R => if rs.length = m then runF Φ n io B rs else .no) (frz io 0 rs)) = dG Φ n m io B := by
    funext rs
    show (if (frz io 0 rs).length = m then _ else _) = _
    rw [frz_len] <;> rfl
  rw [e]
  exact h
section
variable {P : Program} {w : World} {K : PySem.W.Frag} {mg : Str → Option Value} {h : Heap} {gs : GX} {l : List (DT × Stmt)}
theorem lookup_in {α β : Type} [BEq α] [LawfulBEq α] {x : α} {y : β} : ∀ {l : List (α × β)}, l.lookup x = some y → (x, y) ∈ l
  | [], h => by cases h
  | (a, b) :: l, h => by
    rw [List.lookup_cons] at h
    cases e : x == a with
    | true =>
      rw [e] at h
      cases h
      rw [eq_of_beq e]
      exact List.mem_cons_self
    | false =>
      rw [e] at h
      exact List.mem_cons_of_mem _ (lookup_in h)
theorem cls_fact {x : Str} (h : (He.Fa.cls x).ok K = true) : L2.Cls K (He.ga K x) := He.cls_ok h
theorem noat_fact {x f : Str} (h : (He.Fa.noat x f).ok K = true) : NoAttr K (He.ga K x) f := He.noat_ok h
theorem mdl_all (X : K.In h) (G : h.Ns mainGlobals mg) (c : He.SaysD (faOf l gs) (fnOfT l) K) (hg : gs.vs.all gOk = true) (fit : FitAll gs l) (ca : Cs) (hK : ca.K = K) (hA : ca.ad = He.ga K) (hx : ∀ x, x ∈ xfOf gs → x.ok K = true) (base : Heap) : ∀ n : Nat, Mdl P w K mg base ca (PT (l.map (·.1)) n) gs (2 * n + 1) := by
  intro n
  have un : ∀ x, x ∈ bnames → mg x = none := fun x hx => He.free_ok X G (says_fact c (List.mem_append_right _ (List.mem_append_left _ (List.mem_map.mpr ⟨x, hx, rfl⟩))))
  have gv : ∀ p, p ∈ gs.vs → ∃ u, mg p.1 = some u ∧ RelV p.2 u := by
    rintro ⟨x, v⟩ hp
    have m : gFa (x, v) ∈ faOf l gs := List.mem_append_right _ (List.mem_append_right _ (List.mem_append_left _ (List.mem_map.mpr ⟨_, hp, rfl⟩)))
    have ok := List.all_eq_true.mp hg _ hp
    cases v with
    | int i => obtain ⟨t, e⟩ := He.int_ok X G (says_fact c m); exact ⟨_, e, t, rfl⟩
    | str s => obtain ⟨t, e⟩ := He.str_ok X G (says_fact c m); exact ⟨_, e, t, rfl⟩
    | _ => cases ok
  have cl : ∀ C f, gs.has C f = true → L2.Cls K (ca.ad C) ∧ NoAttr K (ca.ad C) f := by
    intro C f hc
    unfold GX.has at hc
    cases e : gs.cl.lookup C with
    | none => rw [e] at hc; cases hc
    | some fs =>
      rw [e] at hc
      have hf := of_decide_eq_true hc
      have hm := lookup_in e
      have mem : ∀ z, z ∈ (He.Fa.glo C :: He.Fa.cls C :: fs.map (He.Fa.noat C)) → z ∈ faOf l gs := fun z hz => List.mem_append_right _ (List.mem_append_right _ (List.mem_append_right _ (List.mem_flatMap.mpr ⟨(C, fs), hm, hz⟩)))
      rw [hA]
      exact ⟨cls_fact (says_fact c (mem _ (List.mem_cons_of_mem _ List.mem_cons_self))), noat_fact (says_fact c (mem _ (List.mem_cons_of_mem _ (List.mem_cons_of_mem _ (List.mem_map.mpr ⟨f, hf, rfl⟩)))))⟩
  have ic : ∀ C, gs.isC C = true → L2.Cls K (ca.ad C) ∧ OwnI K (ca.ad C) ∧ ownKit K (ca.ad C) = true ∧ mg C = some (.ref (ca.ad C)) ∧ ∀ A, gs.isC A = true → PySem.W.kitOne K (.ref (ca.ad A)) (.ref (ca.ad C)) = some (decide (A = C)) := by
    intro C hc
    obtain ⟨fs, e⟩ := Option.isSome_iff_exists.mp hc
    have hm := lookup_in e
    have mem : ∀ z, z ∈ (He.Fa.glo C :: He.Fa.cls C :: fs.map (He.Fa.noat C)) → z ∈ faOf l gs := fun z hz => List.mem_append_right _ (List.mem_append_right _ (List.mem_append_right _ (List.mem_flatMap.mpr ⟨(C, fs), hm, hz⟩)))
    have x1 : ownB K (He.ga K C) = true ∧ ownKit K (He.ga K C) = true := Bool.and_eq_true_iff.mp (hx _ (List.mem_flatMap.mpr ⟨(C, fs), hm, List.mem_cons_self⟩) : (XF.inst C).ok K = true)
    rw [hA]
    refine ⟨cls_fact (says_fact c (mem _ (List.mem_cons_of_mem _ List.mem_cons_self))), ownB_ok x1.1, x1.2, He.glo_ok X G (says_fact c (mem _ List.mem_cons_self)), fun A hA' => ?_⟩
    obtain ⟨fs', e'⟩ := Option.isSome_iff_exists.mp hA'
    exact of_decide_eq_true (hx _ (List.mem_flatMap.mpr ⟨(C, fs), hm, List.mem_cons_of_mem _ (List.mem_map.mpr ⟨(A, fs'), lookup_in e', rfl⟩)⟩) : (XF.kit A C (decide (A = C))).ok K = true)
  induction n with
  | zero => exact ⟨un, gv, ic, cl, fun x g _ hx => (by cases hx), fun x g C _ hx => (by cases hx), fun x g C m _ hx => by cases hx⟩
  | succ n ih =>
    have key : ∀ x g, PT (l.map (·.1)) (n + 1) x = some g → (cm x = none ∧ ∃ f fd ps, FnG P w K mg base (2 * (n + 1) + 1) f fd ps (spD ca g) ∧ mg x = some (.ref f) ∧ PySem.W.keepIn K (.ref f) = true ∧ Binds K fd ps []) ∨
        ∃ C m, cm x = some (C, m) ∧ ∃ f fd ps, FnG P w K mg base (2 * (n + 1) + 1) f fd ps (spD ca g) ∧ (m = "__init__" → L2.Mk K (ca.ad C) f ∧ mg C = some (.ref (ca.ad C))) ∧ Meth K (ca.ad C) m f ∧ L2.Cls K (ca.ad C) ∧ Binds K fd ps [] := ?_
    · refine ⟨un, gv, ic, cl, fun x g hc hx => ?_, fun x g C hc hx => ?_, fun x g C m hc hx => ?_⟩
      · rcases key x g hx with ⟨_, q⟩ | ⟨C, m, q, _⟩
        · exact q
        · rw [hc] at q; cases q
      · rcases key x g hx with ⟨q, _⟩ | ⟨C', m', q, z⟩
        · rw [hc] at q; cases q
        · rw [hc] at q
          cases q
          obtain ⟨f, fd, ps, z1, z2, z3, z4, z5⟩ := z
          exact ⟨f, fd, ps, z1, (z2 rfl).1, (z2 rfl).2, z5⟩
      · rcases key x g hx with ⟨q, _⟩ | ⟨C', m', q, z⟩
        · rw [hc] at q; cases q
        · rw [hc] at q
          cases q
          obtain ⟨f, fd, ps, z1, z2, z3, z4, z5⟩ := z
          exact ⟨f, fd, ps, z1, z3, z4, z5⟩
    intro x g hx
    cases e : findT (l.map (·.1)) x with
    | none =>
      have : PT (l.map (·.1)) (n + 1) x = none := by
        show (findT (l.map (·.1)) x).map _ = none
        rw [e] <;> rfl
      rw [this] at hx
      cases hx
    | some d =>
      rw [PT_eq e] at hx
      have hx' := Option.some.inj hx
      subst hx'
      have hm := List.mem_of_find?_eq_some e
      have hn : d.name = x := of_decide_eq_true (List.find?_some (p := fun d : DT => decide (d.name = x)) e)
      subst hn
      obtain ⟨p, hp, rfl⟩ := List.mem_map.mp hm
      have f := FitAll.mem fit hp
      obtain ⟨fd, F⟩ := says_def c (List.mem_map.mpr ⟨p, hp, rfl⟩ : datD p.1 p.2 ∈ fnOfT l)
      have F' : FunD K (lastN p.1.name) p.1.name (defArgs p.2) (defBody p.2) (defScope p.2) (p.1.df.map V.int) [] (He.fAd K (atN p.1.name)) fd := by
        have e : (datD p.1 p.2).dvs K = p.1.df.map V.int := by
          show (p.1.df.map He.Dv.int).map (He.Dv.v K) = _
          rw [List.map_map] <;> rfl
        rw [← e]
        exact F
      have G0 := (fnG_run (P := P) (w := w) (FunD.plain F') (scope_ok f.sc) hK ih f.fit).weak fun _ _ _ _ z => dG_sp z
      have B0 := FunD.allB F' f.bind
      cases hc : cm p.1.name with
      | none =>
        have ea : He.fAd K (atN p.1.name) = He.ga K p.1.name := by unfold atN; rw [hc] <;> rfl
        rw [ea] at G0 F'
        refine .inl ⟨rfl, He.ga K p.1.name, fd, p.1.ps, G0, He.glo_ok X G (says_fact c (List.mem_append_left _ (List.mem_flatMap.mpr ⟨p, hp, ?_⟩))), F'.kp, B0⟩
        unfold nFa
        rw [hc]
        exact List.mem_singleton.mpr rfl
      | some q =>
        obtain ⟨C, m⟩ := q
        have ea : He.fAd K (atN p.1.name) = He.ma K (He.ga K C) m := by unfold atN; rw [hc] <;> rfl
        rw [ea] at G0
        have mem : ∀ z, z ∈ [He.Fa.cls C, He.Fa.meth C m, He.Fa.glo C] ++ (if m = "__init__" then [He.Fa.mkr C] else []) → z ∈ faOf l gs := fun z hz => List.mem_append_left _ (List.mem_flatMap.mpr ⟨p, hp, by unfold nFa; rw [hc]; exact hz⟩)
        refine .inr ⟨C, m, rfl, He.ma K (He.ga K C) m, fd, p.1.ps, G0, fun hm => ?_, ?_, ?_, B0⟩
        · subst hm; rw [hA]; exact ⟨He.mkr_ok (says_fact c (mem _ (by simp))), He.glo_ok X G (says_fact c (mem _ (by simp)))⟩
        · rw [hA]; exact He.meth_ok (says_fact c (mem _ (by simp)))
        · rw [hA]; exact cls_fact (says_fact c (mem _ (by simp)))
theorem law_facts (X : K.In h) (G : h.Ns mainGlobals mg) (cE : SaysE (faOf l gs) (fnOfT l) (xfOf gs) K) (hg : gs.vs.all gOk = true) (fit : FitAll gs l) {f : Addr} (hfa : mg ("law" : Str) = some (.ref f)) {d : DT} {st : Stmt} {x : Str} (hd : (d, st) ∈ l) (hx : d.name = "law") (hcm : cm d.name = none) (hp : d.ps = [x]) (hdf : d.df = []) (n : Nat) :
    ∃ fd : FuncData, (∀ (s : Shared) (u : Value), BindsTo s fd ⟨[u], []⟩ [(x, u)]) ∧ ∀ base : Heap, FnG P w K mg base (2 * n + 3) f fd [x] (spD ⟨He.ga K, K⟩ (dG (PT (l.map (·.1)) n) d.N.length 1 d.io d.B)) := by
  have c := cE.d
  have fi := FitAll.mem fit hd
  obtain ⟨fd, F⟩ := says_def c (List.mem_map.mpr ⟨(d, st), hd, rfl⟩ : datD d st ∈ fnOfT l)
  have ea : He.fAd K (atN d.name) = He.ga K d.name := by unfold atN; rw [hcm] <;> rfl
  have F0 : FunD K (lastN d.name) d.name (defArgs st) (defBody st) (defScope st) [] [] (He.fAd K (atN d.name)) fd := by
    have e : (datD d st).dvs K = [] := by
      show (d.df.map He.Dv.int).map (He.Dv.v K) = _
      rw [hdf] <;> rfl
    rw [← e]
    exact F
  rw [ea] at F0
  have F' := F0
  have e0 : mg d.name = some (.ref (He.ga K d.name)) := He.glo_ok X G (says_fact c (List.mem_append_left _ (List.mem_flatMap.mpr ⟨(d, st), hd, by unfold nFa; rw [hcm]; exact List.mem_singleton.mpr rfl⟩)))
  have e : some (Value.ref f) = some (Value.ref (He.ga K d.name)) := by rw [← hfa, ← e0, hx]
  cases e
  have fb := fi.bind
  rw [hdf] at fb
  have b := FunD.bindsA (ps := d.ps) F' fb
  refine ⟨fd, fun s u => ?_, fun base => ?_⟩
  · have := b s [u] (by rw [hp] <;> rfl)
    rw [hp] at this
    exact this
  · have k := fnG_run (P := P) (w := w) (FunD.plain F') (scope_ok fi.sc) rfl (mdl_all (P := P) (w := w) X G c hg fit ⟨He.ga K, K⟩ rfl rfl cE.x base n) fi.fit
    have k2 := k.weak (sp' := spD ⟨He.ga K, K⟩ (dG (PT (l.map (·.1)) n) d.N.length d.ps.length d.io d.B)) fun _ _ _ _ z => dG_sp z
    rw [hp] at k2
    exact k2
end
end FH
set_option Elab.async false
set_option linter.all false
set_option maxRecDepth 100000
set_option maxHeartbeats 2000000
namespace FH
open PySem PySem.Spec PyProof.Rows L2
abbrev cS (l : List Nat) : Str := ⟨l.toArray⟩
abbrev dS (l : List Nat) : D := .str (cS l)
abbrev dC (c : Nat) : D := .str (cS [c])
abbrev rS (l : List Nat) : R := .sh (.str (cS l))
abbrev rZ (i : Int) : R := .sh (.int i)
abbrev rB (b : Bool) : R := .sh (.bl b)
theorem cS_len {l : List Nat} : (cS l).length = l.length := by simp [Str.length]
theorem cS_app {a b : List Nat} : cS a ++ cS b = cS (a ++ b) := TL.ext_tl (by rw [TL.tl_append])
theorem cS_inj {a b : List Nat} : cS a = cS b ↔ a = b := ⟨fun h => by have := congrArg TL.tl h; exact this, fun h => by rw [h]⟩
theorem cS_dec {a b : List Nat} : decide (cS a = cS b) = decide (a = b) := by rw [decide_eq_decide]; exact cS_inj
theorem cS_tl (s : Str) : s = cS s.cps.toList := (TL.mk_tl s).symm
theorem cS_lit (s : String) : Str.ofString s = cS (s.toList.map Char.toNat) := Str.ofString_eq_toList s
abbrev ABC : List Nat := [97, 98, 99, 100, 101, 102, 103, 104, 105, 106, 107, 108, 109, 110, 111, 112, 113, 114, 115, 116, 117, 118, 119, 120, 121, 122]
abbrev FIG : List Nat := [49, 50, 51, 52, 53, 54, 55, 56, 57]
theorem abc_eq : Str.ofString "abcdefghijklmnopqrstuvwxyz" = cS ABC := by decide +kernel
theorem fig_eq : Str.ofString "123456789" = cS FIG := by decide +kernel
theorem emp_eq : Str.ofString "" = cS [] := by decide +kernel
section
variable {Φ : FT} {env : En}
theorem Ev.litS {s : Str} {l : List Nat} (h : s = cS l) : Ev Φ (.lit (.str s)) env (rS l) := by rw [h]; exact Ev.lit
theorem Ev.glbS {x s : Str} {l : List Nat} (h : s = cS l) : Ev Φ (.glb x (.str s)) env (rS l) := by rw [h]; exact Ev.glb
end
/-! ### operations -/
theorem sem_addS {a b : List Nat} (h : a.length + b.length ≤ LIM) : P.sem (.bin .Add) [dS a, dS b] = .ok (rS (a ++ b)) := by
  show (if (cS a).length + (cS b).length ≤ LIM then ms (cS a ++ cS b) else .no) = _
  rw [cS_len, cS_len, if_pos h, cS_app] <;> rfl
theorem sem_addL {a b : List D} {s t : Option Addr} (h : a.length + b.length ≤ LIM) : P.sem (.bin .Add) [.lst s a, .lst t b] = .ok (.ow (.lst none (a ++ b))) := if_pos h
theorem sem_mul {i j : Int} (h : (small i || small j) = true) : P.sem (.bin .Mult) [.int i, .int j] = .ok (rZ (i * j)) := if_pos h
theorem sem_mulC {i j : Int} (h : (-1000000 ≤ i ∧ i ≤ 1000000) ∨ (-1000000 ≤ j ∧ j ≤ 1000000)) : P.sem (.bin .Mult) [.int i, .int j] = .ok (rZ (i * j)) := if_pos (by simp [small]; omega)
theorem sem_fdiv {i j : Int} (h : 0 < j) (k : j < 1073741824) : P.sem (.bin .FloorDiv) [.int i, .int j] = .ok (rZ (i / j)) := if_pos ⟨h, k⟩
theorem sem_mod {i j : Int} (h : 0 < j) : P.sem (.bin .Mod) [.int i, .int j] = .ok (rZ (i % j)) := if_pos h
theorem sem_pow {i j : Int} (h : 0 ≤ j) (h2 : j ≤ 1000000) (h3 : i.natAbs < 2 ^ 64) : P.sem (.bin .Pow) [.int i, .int j] = .ok (rZ (i ^ j.toNat)) := if_pos ⟨h, h2, h3⟩
theorem sem_mulL {t : Option Addr} {xs : List D} {j : Int} (h : -1000000 ≤ j) (h2 : j ≤ 1000000) (h3 : xs.length * j.toNat ≤ LIM) : P.sem (.bin .Mult) [.lst t xs, .int j] = .ok (.ow (.lst none (List.replicate j.toNat xs).flatten)) := if_pos ⟨h, h2, h3⟩
theorem sem_mulS {a : List Nat} {j : Int} (h : -1000000 ≤ j) (h2 : j ≤ 1000000) (h3 : a.length * j.toNat ≤ LIM) : P.sem (.bin .Mult) [dS a, .int j] = .ok (rS (List.replicate j.toNat a).flatten) := by
  show (if -1000000 ≤ j ∧ j ≤ 1000000 ∧ (cS a).length * j.toNat ≤ LIM then ms (strRep (cS a) j.toNat) else .no) = _
  rw [cS_len, if_pos ⟨h, h2, h3⟩] <;> rfl
theorem sem_lenS {a : List Nat} (h : a.length ≤ LIM) : P.sem (.fn .len) [dS a] = .ok (rZ a.length) := by
  show (if (cS a).length ≤ LIM then mi (cS a).length else .no) = _
  rw [cS_len, if_pos h] <;> rfl
theorem sem_inS {c : Nat} {z : List Nat} : P.sem (.cmp .In) [dC c, dS z] = .ok (rB (decide (c ∈ z))) := rfl
theorem sem_ninS {c : Nat} {z : List Nat} : P.sem (.cmp .NotIn) [dC c, dS z] = .ok (rB (!decide (c ∈ z))) := rfl
theorem sem_eqS {a b : List Nat} : P.sem (.cmp .Eq) [dS a, dS b] = .ok (rB (decide (a = b))) := by
  show M.ok (R.sh (.bl (decide (cS a = cS b)))) = _
  rw [cS_dec]
theorem sem_neS {a b : List Nat} : P.sem (.cmp .NotEq) [dS a, dS b] = .ok (rB (!decide (a = b))) := by
  show M.ok (R.sh (.bl (!decide (cS a = cS b)))) = _
  rw [cS_dec]
theorem atI_nat' {α : Type} {l : List α} {i : Nat} (h : i < l.length) : atI l (i : Int) = some l[i] := by
  unfold atI ixN
  rw [if_pos (by omega), if_pos (by omega)]
  show l[(i : Int).toNat]? = _
  rw [Int.toNat_natCast]
  exact List.getElem?_eq_getElem h
theorem atI_int {α : Type} {l : List α} {i : Int} (h0 : 0 ≤ i) (h : i < l.length) : atI l i = some (l[i.toNat]'(by omega)) := by
  unfold atI ixN
  rw [if_pos h0, if_pos h]
  exact List.getElem?_eq_getElem _
theorem sem_idxS {a : List Nat} {i : Int} {c : Nat} (hl : a.length ≤ LIM) (h : atI a i = some c) : P.sem .idx [dS a, .int i] = .ok (.sh (dC c)) := by
  show (if (cS a).length ≤ LIM then mopt (oneStr (cS a) i) else .no) = _
  rw [cS_len, if_pos hl]
  unfold oneStr
  show mopt ((atI a i).map _) = _
  rw [h] <;> rfl
theorem sem_idxL {t : Option Addr} {xs : List D} {i : Int} {d : D} (h : atI xs i = some d) : P.sem .idx [.lst t xs, .int i] = .ok (.sh d) := by
  show mopt (atI xs i) = _
  rw [h] <;> rfl
theorem sem_idxT {xs : List D} {i : Int} {d : D} (h : atI xs i = some d) : P.sem .idx [.tup xs, .int i] = .ok (.sh d) := by
  show mopt (atI xs i) = _
  rw [h] <;> rfl
theorem atI_map {α β : Type} {f : α → β} {l : List α} {i : Int} {a : α} (h : atI l i = some a) : atI (l.map f) i = some (f a) := by
  unfold atI at h ⊢
  rw [List.length_map]
  obtain ⟨j, e, h⟩ := Option.bind_eq_some_iff.mp h
  rw [e]
  show (l.map f)[j]? = _
  rw [List.getElem?_map, h] <;> rfl
/-! slices -/
theorem cut_to {α : Type} {l : List α} {n : Int} (h : 0 ≤ n) : (l.drop (HT.sIx l.length 0 none)).take (HT.sIx l.length l.length (some n) - HT.sIx l.length 0 none) = l.take n.toNat := by
  obtain ⟨k, rfl⟩ := Int.eq_ofNat_of_zero_le h
  rw [HT.sIx_none]
  show (l.drop 0).take (HT.sIx l.length l.length (some (k : Int)) - 0) = _
  rw [HT.sIx_nat, List.drop_zero, Nat.sub_zero, Int.toNat_natCast]
  by_cases hk : k ≤ l.length
  · rw [Nat.min_eq_left hk]
  · rw [Nat.min_eq_right (by omega), List.take_of_length_le (Nat.le_refl _), List.take_of_length_le (by omega)]
theorem cut_from {α : Type} {l : List α} {n : Int} (h : 0 ≤ n) : (l.drop (HT.sIx l.length 0 (some n))).take (HT.sIx l.length l.length none - HT.sIx l.length 0 (some n)) = l.drop n.toNat := by
  obtain ⟨k, rfl⟩ := Int.eq_ofNat_of_zero_le h
  show (l.drop (HT.sIx l.length 0 (some (k : Int)))).take (l.length - HT.sIx l.length 0 (some (k : Int))) = _
  rw [HT.sIx_nat, Int.toNat_natCast]
  by_cases hk : k ≤ l.length
  · rw [Nat.min_eq_left hk, List.take_of_length_le (by rw [List.length_drop]; exact Nat.le_refl _)]
  · rw [Nat.min_eq_right (by omega), List.drop_eq_nil_of_le (Nat.le_refl _), List.drop_eq_nil_of_le (by omega), List.take_nil]
theorem cut_both {α : Type} {l : List α} {m n : Int} (hm : 0 ≤ m) (hn : 0 ≤ n) : (l.drop (HT.sIx l.length 0 (some m))).take (HT.sIx l.length l.length (some n) - HT.sIx l.length 0 (some m)) = (l.drop m.toNat).take (n.toNat - m.toNat) := by
  obtain ⟨j, rfl⟩ := Int.eq_ofNat_of_zero_le hm
  obtain ⟨k, rfl⟩ := Int.eq_ofNat_of_zero_le hn
  show (l.drop (HT.sIx l.length 0 (some (j : Int)))).take (HT.sIx l.length l.length (some (k : Int)) - HT.sIx l.length 0 (some (j : Int))) = _
  rw [HT.sIx_nat, HT.sIx_nat, Int.toNat_natCast, Int.toNat_natCast]
  by_cases hj : j ≤ l.length
  · rw [Nat.min_eq_left hj]
    by_cases hk : k ≤ l.length
    · rw [Nat.min_eq_left hk]
    · rw [Nat.min_eq_right (by omega), List.take_of_length_le (by rw [List.length_drop]; exact Nat.le_refl _), List.take_of_length_le (by rw [List.length_drop]; omega)]
  · rw [show min j l.length = l.length by omega, List.drop_eq_nil_of_le (Nat.le_refl _), List.drop_eq_nil_of_le (by omega), List.take_nil, List.take_nil]
theorem cutS_eq {l : List Nat} {lo hi : Option Int} : cutS (cS l) lo hi = cS ((l.drop (HT.sIx l.length 0 lo)).take (HT.sIx l.length l.length hi - HT.sIx l.length 0 lo)) := by
  unfold cutS
  rw [cS_len]
theorem sem_slS {a : List Nat} {n : Int} (hl : a.length ≤ LIM) (h : 0 ≤ n) : P.sem (.sl false true) [dS a, .int n] = .ok (rS (a.take n.toNat)) := by
  show (if (cS a).length ≤ LIM then ms (cutS (cS a) none (some n)) else .no) = _
  rw [cS_len, if_pos hl, cutS_eq, cut_to h] <;> rfl
theorem sem_slS2 {a : List Nat} {n : Int} (hl : a.length ≤ LIM) (h : 0 ≤ n) : P.sem (.sl true false) [dS a, .int n] = .ok (rS (a.drop n.toNat)) := by
  show (if (cS a).length ≤ LIM then ms (cutS (cS a) (some n) none) else .no) = _
  rw [cS_len, if_pos hl, cutS_eq, cut_from h] <;> rfl
theorem sem_slS3 {a : List Nat} {m n : Int} (hl : a.length ≤ LIM) (hm : 0 ≤ m) (h : 0 ≤ n) : P.sem (.sl true true) [dS a, .int m, .int n] = .ok (rS ((a.drop m.toNat).take (n.toNat - m.toNat))) := by
  show (if (cS a).length ≤ LIM then ms (cutS (cS a) (some m) (some n)) else .no) = _
  rw [cS_len, if_pos hl, cutS_eq, cut_both hm h] <;> rfl
theorem sem_slL {t : Option Addr} {a : List D} {n : Int} (h : 0 ≤ n) : P.sem (.sl false true) [.lst t a, .int n] = .ok (.ow (.lst none (a.take n.toNat))) := by
  show M.ok (R.ow (.lst none (cutD a none (some n)))) = _
  unfold cutD
  rw [cut_to h]
theorem sem_slL2 {t : Option Addr} {a : List D} {n : Int} (h : 0 ≤ n) : P.sem (.sl true false) [.lst t a, .int n] = .ok (.ow (.lst none (a.drop n.toNat))) := by
  show M.ok (R.ow (.lst none (cutD a (some n) none))) = _
  unfold cutD
  rw [cut_from h]
theorem sem_slL3 {t : Option Addr} {a : List D} {m n : Int} (hm : 0 ≤ m) (h : 0 ≤ n) : P.sem (.sl true true) [.lst t a, .int m, .int n] = .ok (.ow (.lst none ((a.drop m.toNat).take (n.toNat - m.toNat)))) := by
  show M.ok (R.ow (.lst none (cutD a (some m) (some n)))) = _
  unfold cutD
  rw [cut_both hm h]
/-! rows of data -/
theorem strsOf_map {α : Type} {f : α → Str} {l : List α} : strsOf (l.map fun a => .str (f a)) = some (l.map f) := by
  induction l with
  | nil => rfl
  | cons a l ih =>
    show (strsOf (l.map fun a => .str (f a))).map (f a :: ·) = _
    rw [ih] <;> rfl
theorem blsOf_map {α : Type} {f : α → Bool} {l : List α} : blsOf (l.map fun a => .bl (f a)) = some (l.map f) := by
  induction l with
  | nil => rfl
  | cons a l ih =>
    show (blsOf (l.map fun a => .bl (f a))).map (f a :: ·) = _
    rw [ih] <;> rfl
theorem intsOf_map {α : Type} {f : α → Int} {l : List α} : intsOf (l.map fun a => .int (f a)) = some (l.map f) := by
  induction l with
  | nil => rfl
  | cons a l ih =>
    show (intsOf (l.map fun a => .int (f a))).map (f a :: ·) = _
    rw [ih] <;> rfl
theorem all_map_id {α : Type} {f : α → Bool} {l : List α} : (l.map f).all id = l.all f := by
  induction l with
  | nil => rfl
  | cons a l ih => rw [List.map_cons, List.all_cons, List.all_cons, ih] <;> rfl
theorem any_map_id {α : Type} {f : α → Bool} {l : List α} : (l.map f).any id = l.any f := by
  induction l with
  | nil => rfl
  | cons a l ih => rw [List.map_cons, List.any_cons, List.any_cons, ih] <;> rfl
theorem sem_all {α : Type} {t : Option Addr} {f : α → Bool} {l : List α} : P.sem (.fn .all) [.lst t (l.map fun a => .bl (f a))] = .ok (rB (l.all f)) := by
  show (match blsOf (l.map fun a => .bl (f a)) with
    | some bs => mb (bs.all id)
    | none => .no) = _
  rw [blsOf_map]
  show mb ((l.map f).all id) = _
  rw [all_map_id] <;> rfl
theorem sem_any {α : Type} {t : Option Addr} {f : α → Bool} {l : List α} : P.sem (.fn .any) [.lst t (l.map fun a => .bl (f a))] = .ok (rB (l.any f)) := by
  show (match blsOf (l.map fun a => .bl (f a)) with
    | some bs => mb (bs.any id)
    | none => .no) = _
  rw [blsOf_map]
  show mb ((l.map f).any id) = _
  rw [any_map_id] <;> rfl
theorem sem_sum {α : Type} {t : Option Addr} {f : α → Int} {l : List α} : P.sem (.fn .sum) [.lst t (l.map fun a => .int (f a))] = .ok (rZ (l.map f).sum) := by
  show (match intsOf (l.map fun a => .int (f a)) with
    | some is => mi is.sum
    | none => .no) = _
  rw [intsOf_map] <;> rfl
/-! join, count, find of one sign -/
theorem join_cS {ws : List (List Nat)} : Txt.join (cS []) (ws.map cS) = cS ws.flatten := by
  rw [TL.join_eq]
  refine TL.ext_tl ?_
  rw [TL.tl_join]
  show TL.joinL [] ((ws.map cS).map TL.tl) = ws.flatten
  rw [List.map_map]
  have e : (TL.tl ∘ cS) = fun l : List Nat => l := rfl
  rw [e, List.map_id']
  induction ws with
  | nil => rfl
  | cons w ws ih =>
    cases ws with
    | nil => show w = w ++ []; rw [List.append_nil]
    | cons v ws =>
      have e2 : TL.joinL [] (w :: v :: ws) = w ++ ([] ++ TL.joinL [] (v :: ws)) := rfl
      rw [e2, ih] <;> rfl
theorem mt_joinS {α : Type} {t : Option Addr} {f : α → List Nat} {l : List α} (h : (l.map f).flatten.length ≤ LIM) : semMt .join [dS [], .lst t (l.map fun a => dS (f a))] = .ok (rS (l.map f).flatten) := by
  show (match strsOf (l.map fun a => .str (cS (f a))) with
    | some ss => if (ss.map Str.length).sum + ss.length * (cS []).length ≤ LIM then ms (Txt.join (cS []) ss) else .no
    | none => .no) = _
  rw [strsOf_map]
  show (if ((l.map fun a => cS (f a)).map Str.length).sum + (l.map fun a => cS (f a)).length * 0 ≤ LIM then ms (Txt.join (cS []) (l.map fun a => cS (f a))) else .no) = _
  have e1 : (l.map fun a => cS (f a)) = (l.map f).map cS := by rw [List.map_map]; rfl
  have e2 : ((l.map fun a => cS (f a)).map Str.length).sum = (l.map f).flatten.length := by
    rw [List.length_flatten, List.map_map, List.map_map]
    congr 1
  rw [e2, if_pos (by omega), e1, join_cS] <;> rfl
theorem count_cS {l : List Nat} {c : Nat} : Txt.count (cS l) (cS [c]) = (l.count c : Int) := by
  rw [show cS [c] = ⟨#[c]⟩ from rfl, count_is]
  show cnt c l = _
  induction l with
  | nil => rfl
  | cons a l ih =>
    rw [cnt_cons, ih, List.count_cons]
    by_cases h : a = c
    · subst h; simp; omega
    · have : (a == c) = false := by simpa using h
      rw [if_neg h, this]; simp
theorem mt_countS {l : List Nat} {c : Nat} : semMt .count [dS l, dC c] = .ok (rZ (l.count c)) := by
  show mi (Txt.count (cS l) (cS [c])) = _
  rw [count_cS] <;> rfl
end FH
set_option Elab.async false
set_option linter.all false
set_option maxRecDepth 100000
set_option maxHeartbeats 2000000
namespace FH
open PySem PySem.Spec PyProof.Rows L2
/-- f's answer at this data -/
def Fv (Φ : FT) (f : Str) (ds : List D) (r : R) : Prop := ∃ g, Φ f = some g ∧ ∀ rs : List R, rs.map R.d = ds → ∃ outs, g rs = .ok (r, outs)
/-- f's answer, its first argument lent -/
def Fo (Φ : FT) (f : Str) (r : R) (ds : List D) (q r' : R) : Prop := ∃ g, Φ f = some g ∧ ∀ rs : List R, rs.map R.d = ds → ∃ outs, g (r :: rs) = .ok (q, some r' :: outs)
/-- f raises -/
def Fe (Φ : FT) (f : Str) (ds : List D) (c : Str) (d : D) : Prop := ∃ g, Φ f = some g ∧ ∀ rs : List R, rs.map R.d = ds → g rs = .ex c d
theorem okM_ex {α : Type} {m : M α} {P : α → Prop} (h : OkM m P NoX) : ∃ a, m = .ok a ∧ P a := by
  cases m with
  | ok b => exact ⟨b, rfl, h⟩
  | ex c d => exact h.elim
  | no => exact h.elim
section
variable {tab : List DT} {n : Nat} {f : Str} {d : DT} {ds : List D} {r : R}
theorem fv_of (h : findT tab f = some d) (hi : d.io = []) (hl : ds.length = d.ps.length) (e : Wp (PT tab n) d.B NoX ((ds.map fun x => some (.sh x)) ++ List.replicate (d.N.length - d.ps.length) none) (Ans r)) : Fv (PT tab (n + 1)) f ds r :=
  ⟨_, PT_eq h, fun rs hr => ⟨_, by rw [hi]; exact dG_eq hr hl e⟩⟩
/-- one answer of many -/
theorem fv_ex {P : R → Prop} (h : findT tab f = some d) (hi : d.io = []) (hl : ds.length = d.ps.length) (e : Wp (PT tab n) d.B NoX ((ds.map fun x => some (.sh x)) ++ List.replicate (d.N.length - d.ps.length) none) (fun o => ∃ q env, o = .rt q env ∧ P q)) : ∃ r, Fv (PT tab (n + 1)) f ds r ∧ P r := by
  obtain ⟨o, e1, q, env, rfl, hp⟩ := okM_ex e
  refine ⟨q, fv_of h hi hl ?_, hp⟩
  show OkM _ _ _
  rw [e1]
  exact rfl
/-- a def whose first argument is lent -/
def AnsO (q r' : R) : Out → Prop := fun o => ∃ env, o = .rt q env ∧ env[0]? = some (some r')
theorem outs_0 {m : Nat} {env : En} {r' : R} (h : env[0]? = some (some r')) : ∃ outs, outsOf [0] (m + 1) env = some r' :: outs := by
  unfold outsOf
  rw [List.range_succ_eq_map]
  exact ⟨_, by rw [List.map_cons, if_pos (by decide), h] <;> rfl⟩
theorem frz_0 {r : R} {rs : List R} : frz [0] 0 (r :: rs) = r :: (rs.map R.d).map R.sh := by
  have key : ∀ {rs : List R} {j : Nat}, 0 < j → frz [0] j rs = (rs.map R.d).map R.sh := by
    intro rs
    induction rs with
    | nil => intro j _; rfl
    | cons a rs ih =>
      intro j hj
      show (if j ∈ [0] then a else sh1 a) :: frz [0] (j + 1) rs = _
      rw [if_neg (by simp; omega), ih (by omega)] <;> rfl
  show (if 0 ∈ [0] then r else sh1 r) :: frz [0] 1 rs = _
  rw [if_pos (by decide), key (by decide)]
theorem fo_of {q r' : R} (h : findT tab f = some d) (hi : d.io = [0]) (hl : ds.length + 1 = d.ps.length) (e : Wp (PT tab n) d.B NoX (some r :: (ds.map fun x => some (.sh x)) ++ List.replicate (d.N.length - d.ps.length) none) (AnsO q r')) : Fo (PT tab (n + 1)) f r ds q r' := by
  refine ⟨_, PT_eq h, fun rs hr => ?_⟩
  subst hr
  rw [List.length_map] at hl
  have key : OkM (dG (PT tab n) d.N.length d.ps.length d.io d.B (r :: rs)) (fun c => ∃ outs, c = (q, some r' :: outs)) NoX := by
    refine dG_ok hl ?_
    rw [hi, frz_0]
    have e2 : ((r :: (rs.map R.d).map R.sh).map some) = some r :: ((rs.map R.d).map fun x => some (.sh x)) := by rw [List.map_cons, List.map_map] <;> rfl
    rw [e2]
    refine Wp.imp e fun o z => ?_
    obtain ⟨env, rfl, h0⟩ := z
    obtain ⟨outs, ho⟩ := outs_0 (m := rs.length) h0
    refine ⟨outs, ?_⟩
    rw [← hl, ← ho] <;> rfl
  obtain ⟨c, e1, outs, rfl⟩ := okM_ex key
  exact ⟨outs, e1⟩
theorem fo_ex {P : R → R → Prop} (h : findT tab f = some d) (hi : d.io = [0]) (hl : ds.length + 1 = d.ps.length) (e : Wp (PT tab n) d.B NoX (some r :: (ds.map fun x => some (.sh x)) ++ List.replicate (d.N.length - d.ps.length) none) (fun o => ∃ q r' env, o = .rt q env ∧ env[0]? = some (some r') ∧ P q r')) : ∃ q r', Fo (PT tab (n + 1)) f r ds q r' ∧ P q r' := by
  obtain ⟨o, e1, q, r', env, rfl, h0, hp⟩ := okM_ex e
  refine ⟨q, r', fo_of h hi hl ?_, hp⟩
  show OkM _ _ _
  rw [e1]
  exact ⟨env, rfl, h0⟩
end
section
variable {Φ : FT} {env : En} {X : Str → D → Prop} {K : R → En → Prop} {Q : Out → Prop}
/-- arguments by their data -/
def EvD (Φ : FT) (es : T) (env : En) (ds : List D) : Prop := ∃ rs, EvN Φ es env rs ∧ rs.map R.d = ds
theorem EvD.nil : EvD Φ .nil env [] := ⟨[], EvN.nil, rfl⟩
theorem EvD.cons {e es : T} {r : R} {d : D} {ds : List D} (hm : notMv e = true) (h : Ev Φ e env r) (hd : r.d = d) (k : EvD Φ es env ds) : EvD Φ (.cons e es) env (d :: ds) := by
  obtain ⟨rs, k1, k2⟩ := k
  exact ⟨r :: rs, EvN.cons hm h k1, by rw [List.map_cons, hd, k2]⟩
theorem Ev.fv {f : Str} {es : T} {ds : List D} {r : R} (h : Fv Φ f ds r) (k : EvD Φ es env ds) : Ev Φ (.call f es) env r := by
  obtain ⟨g, h1, h2⟩ := h
  obtain ⟨rs, k, hd⟩ := k
  obtain ⟨outs, h3⟩ := h2 rs hd
  exact Ev.call h1 k h3
/-- a method's pure answer -/
theorem Ev.fm {x C m : Str} {e es : T} {fs : List (Str × D)} {r0 r : R} {ds : List D} (hx : cm x = some (C, m)) (h : Fv Φ x (.obj C fs :: ds) r) (hm : notMv e = true) (h0 : Ev Φ e env r0) (hd : r0.d = .obj C fs) (hl : fs.lookup m = none) (k : EvD Φ es env ds) : Ev Φ (.om x e es) env r := by
  obtain ⟨g, h1, h2⟩ := h
  obtain ⟨rs, k, he⟩ := k
  obtain ⟨outs, h3⟩ := h2 (r0 :: rs) (by rw [List.map_cons, hd, he])
  refine Ev.om hx h1 hm h0 ?_ k h3
  rw [hd]
  show (decide (C = C) && (fs.lookup m).isNone) = true
  rw [hl, decide_eq_true rfl] <;> rfl
theorem We.lent {f : Str} {es : T} {i : Nat} {r q r' : R} {ds : List D} (h : Fo Φ f r ds q r') (hr : env[i]? = some (some r)) (ha : EvD Φ es (env.set i none) ds) (k : K q (env.set i (some r'))) : We Φ (.call f (.cons (.mv i) es)) X env K := by
  obtain ⟨g, h1, h2⟩ := h
  obtain ⟨rs, ha, hd⟩ := ha
  obtain ⟨outs, h3⟩ := h2 rs hd
  refine We.call h1 (Wa.cons (We.mv hr (Wa.of ha ?_)))
  rw [h3]
  show K q (backs (some r' :: outs) (some i :: bkOf es) (env.set i none))
  show K q (backs outs (bkOf es) ((env.set i none).set i (some r')))
  rw [backs_none ha.2, List.set_set]
  exact k
/-- a lent first argument, lent last -/
theorem We.lentL {f : Str} {es : T} {i : Nat} {r0 : R} {g : Sem1} (hfo : Φ f = some g) (hb : (bkOf es).all (·.isNone) = true) (h0 : env[i]? = some (some r0)) (h : Wa Φ es X env fun rs e2 => ∃ r q r', e2[i]? = some (some r) ∧ Fo Φ f r (rs.map R.d) q r' ∧ K q (e2.set i (some r'))) : We Φ (.call f (.late i es)) X env K := by
  refine We.call hfo (Wa.late h0 (OkM.imp h fun a z => ?_))
  obtain ⟨r, q, r', h1, ⟨g', h2, h3⟩, h4⟩ := z
  rw [hfo] at h2
  cases h2
  refine ⟨r, h1, ?_⟩
  obtain ⟨outs, h5⟩ := h3 a.1 rfl
  rw [h5]
  show K q (backs outs (bkOf es) ((a.2.set i none).set i (some r')))
  rw [backs_none hb, List.set_set]
  exact h4
theorem We.primN {p : P} {es : T} (hb : (bkOf es).all (·.isNone) = true) (h : Wa Φ es X env fun rs e1 => ∃ r, p.sem (rs.map R.d) = .ok r ∧ okRes rs r = true ∧ K r e1) : We Φ (.prim p es) X env K := by
  refine We.prim (OkM.imp h fun a q => ?_)
  obtain ⟨r, h1, h2, h3⟩ := q
  exact ⟨r, h1, h2, by rw [backs_none hb]; exact h3⟩
theorem We.sval {e : T} (h : We Φ e X env fun r e1 => ∃ xs, itemsOf r.d = some xs ∧ xs.length ≤ LIM ∧ K (.sh (.lst none xs)) e1) : We Φ (.sval e) X env K := by
  unfold We
  show OkM (one1 ((one1 (ev Φ e env)).bind _)) _ _
  rw [one1_bind]
  refine OkM.bind (OkM.imp h fun a q => ?_)
  obtain ⟨xs, h1, h2, h3⟩ := q
  simp only [h1]
  show OkM (one1 (if xs.length ≤ LIM then _ else _)) _ _
  rw [if_pos h2]
  exact h3
/-- a def's call, its data known -/
theorem We.callD {f : Str} {es : T} {g : Sem1} {ds : List D} (hf : Φ f = some g) (h : EvD Φ es env ds) (k : ∀ rs : List R, rs.map R.d = ds → OkM (g rs) (fun c => K c.1 env) X) : We Φ (.call f es) X env K := by
  obtain ⟨rs, h1, h2⟩ := h
  refine We.call hf (OkM.of h1.1 (OkM.imp (k rs h2) fun c q => ?_))
  show K c.1 (backs c.2 (bkOf es) env)
  rw [backs_none h1.2]
  exact q
theorem Wa.lit {v : V} {es : T} {KA : List R → En → Prop} (k : Wa Φ es X env fun rs e2 => KA (.sh (dV v) :: rs) e2) : Wa Φ (.cons (.lit v) es) X env KA := Wa.consV Ev.lit k
end
/-! ### cells -/
/-- a cell's box with takes left -/
def Bx (n : Nat) (r : R) : Prop := ∃ a b c : Int, r = .ow (.lst none [.int a, .int b, .int c]) ∧ 0 ≤ b ∧ b < 2147483648 ∧ 0 ≤ c ∧ c + n ≤ 1000000
theorem Bx.le {m n : Nat} {r : R} (h : Bx n r) (e : m ≤ n) : Bx m r := by obtain ⟨a, b, c, h1, h2, h3, h4, h5⟩ := h; exact ⟨a, b, c, h1, h2, h3, h4, by omega⟩
def STake (Φ : FT) : Prop := ∀ n r many, Bx (n + 1) r → 0 < many → many < 1073741824 → ∃ v r', Fo Φ "_law_take" r [.int many] (rZ v) r' ∧ 0 ≤ v ∧ v < many ∧ Bx n r'
def SBox (Φ : FT) : Prop := ∀ c : Int, ∃ r, Fv Φ "_law_box" [.int c] r ∧ Bx 1000000 r
def SCell (Φ : FT) : Prop := ∀ (ns : List Int) (k : Nat), k < 100 → ∃ v : Int, Fv Φ "_law_cell" [.scr ns, .int k] (rZ v)
section
variable {Φ : FT} {env : En} {X : Str → D → Prop} {K : R → En → Prop} {Q : Out → Prop}
theorem We.take {i n : Nat} {e : T} {many : Int} {r : R} (S : STake Φ) (hr : env[i]? = some (some r)) (b : Bx (n + 1) r) (hm : notMv e = true) (ha : Ev Φ e (env.set i none) (rZ many)) (h0 : 0 < many) (h1 : many < 1073741824) (k : ∀ v r', 0 ≤ v → v < many → Bx n r' → K (rZ v) (env.set i (some r'))) :
    We Φ (.call "_law_take" (.cons (.mv i) (.cons e .nil))) X env K := by
  obtain ⟨v, r', h, g0, g1, b'⟩ := S n r many b h0 h1
  exact We.lent h hr (EvD.cons hm ha rfl EvD.nil) (k v r' g0 g1 b')
end
end FH
namespace FH
open PySem PySem.Spec PyProof.Rows L2
/-! ### a slot read first -/
/-- the slot that a term reads first -/
def hdV : T → Option Nat
  | .var i => some i
  | .cons e _ => hdV e
  | .prim _ es => hdV es
  | .mth _ e _ => hdV e
  | .lst es => hdV es
  | .tup es => hdV es
  | .dic es => hdV es
  | .one a => hdV a
  | .frz a => hdV a
  | .and a _ => hdV a
  | .or a _ => hdV a
  | .not a => hdV a
  | .ite c _ _ => hdV c
  | .chain _ _ a _ _ => hdV a
  | .comp _ _ _ src _ => hdV src
  | .sval e => hdV e
  | .srng es => hdV es
  | .senum e => hdV e
  | .szip es => hdV es
  | .call _ es => hdV es
  | _ => none
theorem ev_hd {Φ : FT} {i : Nat} {r : R} : ∀ (e : T) {env : En}, hdV e = some i → env[i]? = some (some r) → ev Φ e env = ev Φ e (env.set i (some (sh1 r)))
  | .var j, env, h, hr => by
    cases h
    have hl := (List.getElem?_eq_some_iff.mp hr).1
    show (getS env i).bind _ = (getS (env.set i (some (sh1 r))) i).bind _
    rw [getS_ok hr, getS_ok (r := sh1 r) (by rw [List.getElem?_set_self hl])]
    show M.ok ([sh1 r], env.set i (some (sh1 r))) = M.ok ([sh1 (sh1 r)], (env.set i (some (sh1 r))).set i (some (sh1 (sh1 r))))
    rw [List.set_set] <;> rfl
  | .cons e es, env, h, hr => by
    show (one1 (ev Φ e env)).bind _ = (one1 (ev Φ e _)).bind _
    rw [ev_hd e h hr]
  | .prim p es, env, h, hr => by
    show (ev Φ es env).bind _ = (ev Φ es _).bind _
    rw [ev_hd es h hr]
  | .mth m e es, env, h, hr => by
    show (one1 (ev Φ e env)).bind _ = (one1 (ev Φ e _)).bind _
    rw [ev_hd e h hr]
  | .lst es, env, h, hr => by
    show (ev Φ es env).bind _ = (ev Φ es _).bind _
    rw [ev_hd es h hr]
  | .tup es, env, h, hr => by
    show (ev Φ es env).bind _ = (ev Φ es _).bind _
    rw [ev_hd es h hr]
  | .dic es, env, h, hr => by
    show (ev Φ es env).bind _ = (ev Φ es _).bind _
    rw [ev_hd es h hr]
  | .one a, env, h, hr => ev_hd a h hr
  | .frz a, env, h, hr => by
    show (one1 (ev Φ a env)).bind _ = (one1 (ev Φ a _)).bind _
    rw [ev_hd a h hr]
  | .and a b, env, h, hr => by
    show (one1 (ev Φ a env)).bind _ = (one1 (ev Φ a _)).bind _
    rw [ev_hd a h hr]
  | .or a b, env, h, hr => by
    show (one1 (ev Φ a env)).bind _ = (one1 (ev Φ a _)).bind _
    rw [ev_hd a h hr]
  | .not a, env, h, hr => by
    show (one1 (ev Φ a env)).bind _ = (one1 (ev Φ a _)).bind _
    rw [ev_hd a h hr]
  | .ite c a b, env, h, hr => by
    show (one1 (ev Φ c env)).bind _ = (one1 (ev Φ c _)).bind _
    rw [ev_hd c h hr]
  | .chain p q a b c, env, h, hr => by
    show (one1 (ev Φ a env)).bind _ = (one1 (ev Φ a _)).bind _
    rw [ev_hd a h hr]
  | .comp own elt tg src cond, env, h, hr => by
    show (one1 (ev Φ src env)).bind _ = (one1 (ev Φ src _)).bind _
    rw [ev_hd src h hr]
  | .sval e, env, h, hr => by
    show (one1 (ev Φ e env)).bind _ = (one1 (ev Φ e _)).bind _
    rw [ev_hd e h hr]
  | .srng es, env, h, hr => by
    show (ev Φ es env).bind _ = (ev Φ es _).bind _
    rw [ev_hd es h hr]
  | .senum e, env, h, hr => by
    show (one1 (ev Φ e env)).bind _ = (one1 (ev Φ e _)).bind _
    rw [ev_hd e h hr]
  | .szip es, env, h, hr => by
    show (ev Φ es env).bind _ = (ev Φ es _).bind _
    rw [ev_hd es h hr]
  | .call f es, env, h, hr => by
    have e0 : ∀ z : En, ev Φ (.call f es) z = (match Φ f with
      | some g => (ev Φ es z).bind fun a => (g a.1).bind fun b => .ok ([b.1], backs b.2 (bkOf es) a.2)
      | none => .no) := fun _ => rfl
    rw [e0, e0, ev_hd es h hr]
  | .mv _, _, h, _ => by cases h
  | .lit _, _, h, _ => by cases h
  | .glb _ _, _, h, _ => by cases h
  | .nil, _, h, _ => by cases h
/-- the expression that a statement evaluates first -/
def hdS1 : S → Option Nat
  | .asg _ e => hdV e
  | .expr e => hdV e
  | .ret e => hdV e
  | .ifs c _ _ => hdV c
  | .for _ src _ => hdV src
  | .unp _ e => hdV e
  | .par _ _ es => hdV es
  | _ => none
/-- the slot that is read first is shared from here on -/
theorem Wp.frz {Φ : FT} {X : Str → D → Prop} {env : En} {Q : Out → Prop} {s r : S} {i : Nat} {v : R} (h : hdS1 s = some i) (hr : env[i]? = some (some v)) (k : Wp Φ (.seq s r) X (env.set i (some (sh1 v))) Q) : Wp Φ (.seq s r) X env Q := by
  have e : ex Φ (.seq s r) env = ex Φ (.seq s r) (env.set i (some (sh1 v))) := by
    show (ex Φ s env).bind _ = (ex Φ s _).bind _
    congr 1
    cases s <;> first
      | (cases h; done)
      | skip
    all_goals
      first
        | (show (one1 (ev Φ _ env)).bind _ = (one1 (ev Φ _ _)).bind _
           rw [ev_hd _ h hr])
        | (show (ev Φ _ env).bind _ = (ev Φ _ _).bind _
           rw [ev_hd _ h hr])
  unfold Wp at k ⊢
  rw [e]
  exact k
end FH
set_option Elab.async false
set_option linter.all false
set_option maxRecDepth 100000
set_option maxHeartbeats 2000000
namespace FH
open PySem PySem.Spec PyProof.Rows L2
mutual
/-- fit to be shown and compared -/
def shw : D → Bool
  | .non => true
  | .bl _ => true
  | .int i => decide (i.natAbs.log2 < 1920)
  | .str s => PyData.strOk s
  | .lst _ xs => shws xs
  | .tup xs => shws xs
  | .scr _ => false
  | .dic _ _ => false
  | .obj _ _ => false
def shws : List D → Bool
  | [] => true
  | d :: ds => shw d && shws ds
end
mutual
/-- a bound of the shown text's length -/
def wD : D → Nat
  | .non => 4
  | .bl _ => 5
  | .int _ => 640
  | .str s => 10 * s.length + 2
  | .lst _ xs => wDs xs + 4
  | .tup xs => wDs xs + 4
  | _ => 0
def wDs : List D → Nat
  | [] => 0
  | d :: ds => wD d + 2 + wDs ds
end
mutual
def dpt : D → Nat
  | .lst _ xs => dpts xs + 1
  | .tup xs => dpts xs + 1
  | _ => 0
def dpts : List D → Nat
  | [] => 0
  | d :: ds => max (dpt d) (dpts ds)
end
mutual
theorem shw_py : ∀ d : D, shw d = true → ∃ x, toPy d = some x ∧ x.canLay0 = true ∧ x.showable = true ∧ x.depth = dpt d
  | .non, _ => ⟨_, rfl, rfl, rfl, rfl⟩
  | .bl b, _ => ⟨_, rfl, rfl, rfl, rfl⟩
  | .int i, h => ⟨_, rfl, rfl, by unfold PyData.showable; unfold shw at h; exact h, rfl⟩
  | .str s, h => ⟨_, rfl, by unfold PyData.canLay0; unfold shw at h; exact h, rfl, rfl⟩
  | .lst t xs, h => by
    unfold shw at h
    obtain ⟨ys, h1, h2, h3, h4⟩ := shws_py xs h
    exact ⟨.list ys, by unfold toPy; rw [h1] <;> rfl, by unfold PyData.canLay0; exact h2, by unfold PyData.showable; exact h3, by unfold PyData.depth dpt; rw [h4]⟩
  | .tup xs, h => by
    unfold shw at h
    obtain ⟨ys, h1, h2, h3, h4⟩ := shws_py xs h
    exact ⟨.tuple ys, by unfold toPy; rw [h1] <;> rfl, by unfold PyData.canLay0; exact h2, by unfold PyData.showable; exact h3, by unfold PyData.depth dpt; rw [h4]⟩
  | .scr _, h => by unfold shw at h; cases h
  | .dic _ _, h => by unfold shw at h; cases h
  | .obj _ _, h => by unfold shw at h; cases h
theorem shws_py : ∀ ds : List D, shws ds = true → ∃ xs, toPys ds = some xs ∧ PyData.canLayAll0 xs = true ∧ PyData.showableAll xs = true ∧ PyData.depthAll xs = dpts ds
  | [], _ => ⟨[], rfl, rfl, rfl, rfl⟩
  | d :: ds, h => by
    unfold shws at h
    obtain ⟨a, b⟩ := Bool.and_eq_true_iff.mp h
    obtain ⟨x, h1, h2, h3, h4⟩ := shw_py d a
    obtain ⟨xs, k1, k2, k3, k4⟩ := shws_py ds b
    exact ⟨x :: xs, by unfold toPys; rw [h1, k1], by unfold PyData.canLayAll0; rw [h2, k2] <;> rfl, by unfold PyData.showableAll; rw [h3, k3] <;> rfl, by unfold PyData.depthAll dpts; rw [h4, k4]⟩
end
theorem eqD_self {d : D} (h : shw d = true) (hd : dpt d ≤ 40) : eqD d d = some true := by
  have deep : eqDeep d d = some true := by
    obtain ⟨x, h1, h2, h3, h4⟩ := shw_py d h
    unfold eqDeep
    rw [h1]
    have s : SeqAt.shaped x = true := by
      unfold SeqAt.shaped
      rw [h2, h4]
      simp
      omega
    simp only [s, Bool.and_self, if_true]
    rw [SeqAt.eqv_refl x h2]
  cases d <;> first
    | exact deep
    | (show some _ = _; simp)
    | rfl
theorem int_len {i : Int} (h : i.natAbs.log2 < 1920) : (Str.ofString (toString i)).length ≤ 640 := by
  have big : i.natAbs < 10 ^ 600 := by
    by_cases h0 : i.natAbs = 0
    · rw [h0]; decide +kernel
    · exact Nat.lt_trans ((Nat.log2_lt h0).mp h) (show 2 ^ 1920 < 10 ^ 600 by decide +kernel)
  have nat : ∀ n : Nat, n < 10 ^ 600 → (Str.ofString (toString ((n : Nat) : Int))).length ≤ 600 := fun n hn => by
    rw [TL.len_tl, TL.tl_num]
    exact TL.numL_len (by decide) hn
  cases i with
  | ofNat n => exact Nat.le_trans (nat n big) (by decide)
  | negSucc n =>
    have e : toString (Int.negSucc n) = "-" ++ toString (n + 1) := rfl
    have e2 : (Str.ofString (toString (Int.negSucc n))).length = 1 + (Str.ofString (toString (((n + 1 : Nat)) : Int))).length := by
      rw [TL.len_tl, TL.len_tl, TL.tl_ofString, TL.tl_ofString, e]
      rw [String.toList_append, List.map_append, List.length_append]
      rfl
    have := nat (n + 1) big
    omega
theorem shown_str {s : Str} (h : PyData.strOk s = true) : (reprText s).length ≤ 10 * s.length + 2 := StrLaws.reprText_len s fun c hc => by
  have h2 : c < 0x110000 := by
    unfold PyData.strOk at h
    rw [Array.all_eq_true'] at h
    exact of_decide_eq_true (h c (Array.mem_toList_iff.mp hc))
  omega
mutual
theorem shown_le : ∀ (d : D) (x : PyData), toPy d = some x → shw d = true → x.shown.length ≤ wD d
  | .non, x, e, _ => by cases e; decide +kernel
  | .bl b, x, e, _ => by cases e; cases b <;> decide +kernel
  | .int i, x, e, h => by cases e; unfold shw at h; exact int_len (of_decide_eq_true h)
  | .str s, x, e, h => by cases e; unfold shw at h; exact shown_str h
  | .lst t xs, x, e, h => by
    unfold shw at h
    unfold toPy at e
    cases q : toPys xs with
    | none => rw [q] at e; cases e
    | some ys =>
      rw [q] at e
      cases e
      have := shown_les xs ys q h
      have e2 : (PyData.shown (.list ys)).length = (textFrom 0 "[" (PyData.shownAll ys)).length + 1 := by
        unfold PyData.shown listText
        rw [strLen_append] <;> rfl
      rw [e2]
      unfold wD
      cases hz : PyData.shownAll ys with
      | nil => exact Nat.le_trans (show _ ≤ 2 by decide) (by omega)
      | cons t ts =>
        rw [hz, piled_cons] at this
        show (textFrom (0 + 1) _ ts).length + 1 ≤ _
        rw [textFrom_length_pos _ _ _ (by decide), strLen_append, strLen_append]
        have a1 : ((("[" : String) : Str)).length = 1 := rfl
        have a2 : ((if 0 > 0 then ", " else "" : String) : Str).length = 0 := rfl
        rw [a1, a2]
        omega
  | .tup xs, x, e, h => by
    unfold shw at h
    unfold toPy at e
    cases q : toPys xs with
    | none => rw [q] at e; cases e
    | some ys =>
      rw [q] at e
      cases e
      have := shown_les xs ys q h
      have e2 : (PyData.shown (.tuple ys)).length ≤ 1 + (Str.join ", " (PyData.shownAll ys)).length + 2 := by
        unfold PyData.shown tupleText
        rw [strLen_append, strLen_append]
        have : ((if (PyData.shownAll ys).length == 1 then ",)" else ")" : String) : Str).length ≤ 2 := by split <;> decide
        have a1 : ((("(" : String) : Str)).length = 1 := rfl
        omega
      unfold wD
      by_cases hz : PyData.shownAll ys = []
      · rw [hz] at e2
        have : (Str.join ", " []).length = 0 := rfl
        omega
      · have := join_length_add _ hz
        omega
  | .scr _, x, e, h => by unfold shw at h; cases h
  | .dic _ _, x, e, h => by unfold shw at h; cases h
  | .obj _ _, x, e, h => by unfold shw at h; cases h
theorem shown_les : ∀ (ds : List D) (xs : List PyData), toPys ds = some xs → shws ds = true → piled (PyData.shownAll xs) ≤ wDs ds
  | [], xs, e, _ => by cases e; exact Nat.zero_le _
  | d :: ds, xs, e, h => by
    unfold shws at h
    obtain ⟨a, b⟩ := Bool.and_eq_true_iff.mp h
    unfold toPys at e
    cases q : toPy d with
    | none => rw [q] at e; cases e
    | some x =>
      cases q2 : toPys ds with
      | none => rw [q, q2] at e; cases e
      | some ys =>
        rw [q, q2] at e
        cases e
        have h1 := shown_le d x q a
        have h2 := shown_les ds ys q2 b
        show piled (x.shown :: PyData.shownAll ys) ≤ _
        rw [piled_cons]
        unfold wDs
        omega
end
/-- a datum can be shown -/
theorem sem_repr {d : D} (h : shw d = true) (hd : dpt d ≤ 40) (hw : wD d ≤ LIM) : ∃ s : Str, s.length ≤ LIM ∧ P.sem (.fn .repr) [d] = .ok (.sh (.str s)) := by
  obtain ⟨x, h1, h2, h3, h4⟩ := shw_py d h
  have h5 := shown_le d x h1 h
  refine ⟨x.shown, by omega, ?_⟩
  show (match toPy d with
    | some x => if x.canLay0 && (x.showable && (decide (x.depth ≤ 40) && decide (x.shown.length ≤ LIM))) then ms x.shown else .no
    | none => .no) = _
  rw [h1]
  show (if _ then _ else _) = _
  rw [if_pos]
  · rfl
  · rw [h2, h3, decide_eq_true (show x.depth ≤ 40 by omega), decide_eq_true (show x.shown.length ≤ LIM by omega)] <;> rfl
theorem shws_map {α : Type} {f : α → D} {l : List α} (h : ∀ a, a ∈ l → shw (f a) = true) : shws (l.map f) = true := by
  induction l with
  | nil => rfl
  | cons a l ih =>
    show shws (f a :: l.map f) = true
    unfold shws
    rw [h a List.mem_cons_self, ih fun b hb => h b (List.mem_cons_of_mem _ hb)] <;> rfl
theorem wDs_map {α : Type} {f : α → D} {l : List α} {k : Nat} (h : ∀ a, a ∈ l → wD (f a) + 2 ≤ k) : wDs (l.map f) ≤ l.length * k := by
  induction l with
  | nil => exact Nat.zero_le _
  | cons a l ih =>
    show wDs (f a :: l.map f) ≤ _
    unfold wDs
    have h1 := h a List.mem_cons_self
    have h2 := ih fun b hb => h b (List.mem_cons_of_mem _ hb)
    rw [List.length_cons, Nat.succ_mul]
    omega
theorem dpts_map {α : Type} {f : α → D} {l : List α} {k : Nat} (h : ∀ a, a ∈ l → dpt (f a) ≤ k) : dpts (l.map f) ≤ k := by
  induction l with
  | nil => exact Nat.zero_le _
  | cons a l ih =>
    show dpts (f a :: l.map f) ≤ _
    unfold dpts
    have h1 := h a List.mem_cons_self
    have h2 := ih fun b hb => h b (List.mem_cons_of_mem _ hb)
    omega
end FH
set_option Elab.async false
set_option linter.all false
set_option maxRecDepth 100000
set_option maxHeartbeats 2000000
namespace FH
open PySem PySem.Spec PyProof.Rows L2
section
variable {Φ : FT} {env : En} {X : Str → D → Prop} {K : R → En → Prop} {Q : Out → Prop}
theorem Ev.litI {i : Int} : Ev Φ (.lit (.int i)) env (rZ i) := rfl
theorem Ev.litT {s : Str} : Ev Φ (.lit (.str s)) env (.sh (.str s)) := rfl
theorem Ev.litB {b : Bool} : Ev Φ (.lit (.bl b)) env (rB b) := rfl
theorem Ev.litN : Ev Φ (.lit .non) env (.sh .non) := rfl
theorem Ev.glbI {x : Str} {i : Int} : Ev Φ (.glb x (.int i)) env (rZ i) := rfl
theorem Ev.glbT {x s : Str} : Ev Φ (.glb x (.str s)) env (.sh (.str s)) := rfl
theorem Ev.frzX {a : T} {r : R} {d : D} (h : Ev Φ a env r) (q : r.d = d) : Ev Φ (.frz a) env (.sh d) := q ▸ Ev.frz h
theorem Ev.fvX {f : Str} {es : T} {ds : List D} {r : R} (k : EvD Φ es env ds) (h : Fv Φ f ds r) : Ev Φ (.call f es) env r := Ev.fv h k
theorem Ev.mk {x C m : Str} {es : T} {ds : List D} {r : R} (hx : cm x = some (C, m)) (k : EvD Φ es env ds) (h : Fo Φ x (.ow (.obj C [])) ds (.sh .non) r) : Ev Φ (.mk x es) env r := by
  obtain ⟨g, h1, h2⟩ := h
  obtain ⟨rs, k, hd⟩ := k
  obtain ⟨outs, h3⟩ := h2 rs hd
  have e1 : ev Φ (.mk x es) env = (ev Φ es env).bind fun a => (g (.ow (.obj C []) :: a.1)).bind fun b => match b.1, b.2 with
      | .sh .non, some r :: outs => .ok ([r], backs outs (bkOf es) a.2)
      | _, _ => .no := by
    rw [ev, hx, h1] <;> rfl
  unfold Ev
  rw [e1, k.1]
  show one1 ((g (.ow (.obj C []) :: rs)).bind _) = _
  rw [h3]
  show M.ok (r, backs outs (bkOf es) env) = _
  rw [backs_none k.2]
theorem Ev.prX {p : P} {es : T} {rs : List R} {r : R} (h : EvA Φ es env rs) (hs : p.sem (rs.map R.d) = .ok r) (ho : okRes rs r = true) : Ev Φ (.prim p es) env r := Ev.prim h hs ho
theorem Ev.mtX {m : Mt} {e es : T} {r q : R} {rs : List R} (h : Ev Φ e env r) (k : EvA Φ es env rs) (hm : notMv e = true) (hk : m.okD r.d = true) (hs : semMt m (r.d :: rs.map R.d) = .ok q) (ho : okRes (r :: rs) q = true) : Ev Φ (.mth m e es) env q := Ev.mth hm h hk k hs ho
theorem EvD.consX {e es : T} {r : R} {d : D} {ds : List D} (h : Ev Φ e env r) (k : EvD Φ es env ds) (hm : notMv e = true) (hd : r.d = d) : EvD Φ (.cons e es) env (d :: ds) := EvD.cons hm h hd k
theorem EvA.consX {e es : T} {r : R} {rs : List R} (h : Ev Φ e env r) (k : EvA Φ es env rs) (hm : notMv e = true) : EvA Φ (.cons e es) env (r :: rs) := EvA.cons hm h k
theorem EvN.consX {e es : T} {r : R} {rs : List R} (h : Ev Φ e env r) (k : EvN Φ es env rs) (hm : notMv e = true) : EvN Φ (.cons e es) env (r :: rs) := EvN.cons hm h k
/-! chains of two over ints -/
theorem Ev.chLL {a b c : T} {x y z : Int} (ha : Ev Φ a env (rZ x)) (hb : Ev Φ b env (rZ y)) (hc : Ev Φ c env (rZ z)) : Ev Φ (.chain .LtE .LtE a b c) env (rB (decide (x ≤ y) && decide (y ≤ z))) := Ev.chain ha hb rfl fun _ => ⟨_, hc, rfl⟩
theorem Ev.chlL {a b c : T} {x y z : Int} (ha : Ev Φ a env (rZ x)) (hb : Ev Φ b env (rZ y)) (hc : Ev Φ c env (rZ z)) : Ev Φ (.chain .Lt .LtE a b c) env (rB (decide (x < y) && decide (y ≤ z))) := Ev.chain ha hb rfl fun _ => ⟨_, hc, rfl⟩
theorem Ev.chLl {a b c : T} {x y z : Int} (ha : Ev Φ a env (rZ x)) (hb : Ev Φ b env (rZ y)) (hc : Ev Φ c env (rZ z)) : Ev Φ (.chain .LtE .Lt a b c) env (rB (decide (x ≤ y) && decide (y < z))) := Ev.chain ha hb rfl fun _ => ⟨_, hc, rfl⟩
theorem Ev.chll {a b c : T} {x y z : Int} (ha : Ev Φ a env (rZ x)) (hb : Ev Φ b env (rZ y)) (hc : Ev Φ c env (rZ z)) : Ev Φ (.chain .Lt .Lt a b c) env (rB (decide (x < y) && decide (y < z))) := Ev.chain ha hb rfl fun _ => ⟨_, hc, rfl⟩
/-! choices -/
theorem Ev.iteB {c a b : T} {s x y : Bool} (h : Ev Φ c env (.sh (.bl s))) (k1 : s = true → Ev Φ a env (.sh (.bl x))) (k2 : s = false → Ev Φ b env (.sh (.bl y))) : Ev Φ (.ite c a b) env (.sh (.bl (if s then x else y))) := by
  cases s with
  | true => exact Ev.ite h k1 fun z => nomatch z
  | false => exact Ev.ite h (fun z => nomatch z) k2
theorem Ev.iteT {c a b : T} {s : Bool} {x y : List Nat} (h : Ev Φ c env (.sh (.bl s))) (k1 : s = true → Ev Φ a env (rS x)) (k2 : s = false → Ev Φ b env (rS y)) : Ev Φ (.ite c a b) env (rS (if s then x else y)) := by
  cases s with
  | true => exact Ev.ite h k1 fun z => nomatch z
  | false => exact Ev.ite h (fun z => nomatch z) k2
theorem Ev.iteC {c a b : T} {s : Bool} {x y : Nat} (h : Ev Φ c env (.sh (.bl s))) (k1 : s = true → Ev Φ a env (.sh (dC x))) (k2 : s = false → Ev Φ b env (.sh (dC y))) : Ev Φ (.ite c a b) env (.sh (dC (if s then x else y))) := by
  cases s with
  | true => exact Ev.ite h k1 fun z => nomatch z
  | false => exact Ev.ite h (fun z => nomatch z) k2
/-! sources -/
/-- a text's signs -/
theorem EvI.tx {e : T} {w : List Nat} (h : Ev Φ e env (rS w)) (hl : w.length ≤ LIM) : EvI Φ (.sval e) env (w.map dC) := EvI.val h rfl (by rw [List.length_map]; exact hl)
theorem EvI.ls {e : T} {t : Option Addr} {xs : List D} (h : Ev Φ e env (.sh (.lst t xs))) (hl : xs.length ≤ LIM) : EvI Φ (.sval e) env xs := EvI.val h rfl hl
theorem EvI.lo {e : T} {t : Option Addr} {xs : List D} (h : Ev Φ e env (.ow (.lst t xs))) (hl : xs.length ≤ LIM) : EvI Φ (.sval e) env xs := EvI.val h rfl hl
theorem EvI.tu {e : T} {xs : List D} (h : Ev Φ e env (.sh (.tup xs))) (hl : xs.length ≤ LIM) : EvI Φ (.sval e) env xs := EvI.val h rfl hl
theorem enumD_map {α : Type} {f : α → D} {l : List α} : enumD (l.map f) = l.zipIdx.map fun p => D.tup [.int (p.2 : Nat), f p.1] := by
  unfold enumD
  rw [List.zipIdx_map, List.map_map]
  rfl
theorem EvI.etx {e : T} {w : List Nat} (h : Ev Φ e env (rS w)) (hl : w.length ≤ LIM) : EvI Φ (.senum e) env (w.zipIdx.map fun p => D.tup [.int (p.2 : Nat), dC p.1]) := by
  rw [← enumD_map]
  exact EvI.enum h rfl (by rw [List.length_map]; exact hl)
theorem EvI.els {e : T} {α : Type} {f : α → D} {l : List α} {t : Option Addr} (h : Ev Φ e env (.sh (.lst t (l.map f)))) (hl : l.length ≤ LIM) : EvI Φ (.senum e) env (l.zipIdx.map fun p => D.tup [.int (p.2 : Nat), f p.1]) := by
  rw [← enumD_map]
  exact EvI.enum h rfl (by rw [List.length_map]; exact hl)
theorem rngD0 {n : Nat} : rngD 0 (n : Int) = (List.range n).map fun k : Nat => D.int k := by
  unfold rngD
  rw [show ((n : Int) - 0).toNat = n by omega]
  exact List.map_congr_left fun k _ => by rw [Int.zero_add]
theorem EvI.rn1 {e : T} {n : Nat} (h : Ev Φ e env (rZ n)) (hm : notMv e = true) (hl : n ≤ LIM) : EvI Φ (.srng (.cons e .nil)) env ((List.range n).map fun k : Nat => D.int k) := by
  rw [← rngD0]
  exact EvI.rng1 (EvN.cons hm h EvN.nil) (by omega) (by omega)
/-- range over an int that is not negative, or empty -/
theorem EvI.rz1 {e : T} {n : Int} (h : Ev Φ e env (rZ n)) (hm : notMv e = true) (h1 : -LIM ≤ n) (h2 : n ≤ LIM) : EvI Φ (.srng (.cons e .nil)) env ((List.range n.toNat).map fun k : Nat => D.int k) := by
  have : rngD 0 n = (List.range n.toNat).map fun k : Nat => D.int k := by
    unfold rngD
    rw [Int.sub_zero]
    exact List.map_congr_left fun k _ => by rw [Int.zero_add]
  rw [← this]
  exact EvI.rng1 (EvN.cons hm h EvN.nil) h1 h2
theorem EvI.rz2 {a b : T} {m n : Int} (ha : Ev Φ a env (rZ m)) (hb : Ev Φ b env (rZ n)) (hm : notMv a = true) (hn : notMv b = true) (h1 : 0 ≤ m) (h2 : m ≤ LIM) (h3 : -LIM ≤ n) (h4 : n ≤ LIM) : EvI Φ (.srng (.cons a (.cons b .nil))) env ((List.range (n - m).toNat).map fun k : Nat => D.int (m + k)) :=
  EvI.rng2 (EvN.cons hm ha (EvN.cons hn hb EvN.nil)) h1 h2 h3 h4
end
/-! operations, by the forms of their operands -/
theorem sem_eqCC {a b : Nat} : P.sem (.cmp .Eq) [dC a, dC b] = .ok (rB (decide (a = b))) := by rw [sem_eqS, show decide ([a] = [b]) = decide (a = b) by rw [decide_eq_decide]; simp]
theorem sem_neCC {a b : Nat} : P.sem (.cmp .NotEq) [dC a, dC b] = .ok (rB (!decide (a = b))) := by rw [sem_neS, show decide ([a] = [b]) = decide (a = b) by rw [decide_eq_decide]; simp]
theorem sem_gt {i j : Int} : P.sem (.cmp .Gt) [.int i, .int j] = .ok (rB (decide (j < i))) := rfl
theorem sem_ge {i j : Int} : P.sem (.cmp .GtE) [.int i, .int j] = .ok (rB (decide (j ≤ i))) := rfl
theorem sem_lt {i j : Int} : P.sem (.cmp .Lt) [.int i, .int j] = .ok (rB (decide (i < j))) := rfl
theorem sem_le {i j : Int} : P.sem (.cmp .LtE) [.int i, .int j] = .ok (rB (decide (i ≤ j))) := rfl
theorem sem_eqI {i j : Int} : P.sem (.cmp .Eq) [.int i, .int j] = .ok (rB (decide (i = j))) := rfl
theorem sem_neI {i j : Int} : P.sem (.cmp .NotEq) [.int i, .int j] = .ok (rB (!decide (i = j))) := rfl
theorem sem_eqB {i j : Bool} : P.sem (.cmp .Eq) [.bl i, .bl j] = .ok (rB (decide (i = j))) := rfl
theorem sem_neB {i j : Bool} : P.sem (.cmp .NotEq) [.bl i, .bl j] = .ok (rB (!decide (i = j))) := rfl
theorem sem_nisB {i j : Bool} : P.sem (.cmp .IsNot) [.bl i, .bl j] = .ok (rB (!decide (i = j))) := rfl
theorem sem_isB {i j : Bool} : P.sem (.cmp .Is) [.bl i, .bl j] = .ok (rB (decide (i = j))) := rfl
theorem sem_addI {i j : Int} : P.sem (.bin .Add) [.int i, .int j] = .ok (rZ (i + j)) := rfl
theorem sem_subI {i j : Int} : P.sem (.bin .Sub) [.int i, .int j] = .ok (rZ (i - j)) := rfl
theorem sem_lenL {t : Option Addr} {xs : List D} : P.sem (.fn .len) [.lst t xs] = .ok (rZ xs.length) := rfl
theorem sem_lenT {xs : List D} : P.sem (.fn .len) [.tup xs] = .ok (rZ xs.length) := rfl
theorem sem_intB {b : Bool} : P.sem (.fn .int) [.bl b] = .ok (rZ (if b then 1 else 0)) := rfl
theorem sem_intF {d : Nat} (h : d ∈ FIG) : P.sem (.fn .int) [dC d] = .ok (rZ ((d : Int) - 48)) := by
  have : PySem.intText? (cS [d]) = some ((d : Int) - 48) := by
    simp only [List.mem_cons, List.not_mem_nil, or_false] at h
    rcases h with rfl | rfl | rfl | rfl | rfl | rfl | rfl | rfl | rfl <;> decide +kernel
  show (match PySem.intText? (cS [d]) with
    | some n => if (cS [d]).length ≤ 640 then mi n else .no
    | none => .no) = _
  rw [this]
  show (if (cS [d]).length ≤ 640 then mi ((d : Int) - 48) else .no) = _
  rw [if_pos (by rw [cS_len]; exact Nat.le_of_ble_eq_true rfl)] <;> rfl
theorem sem_isI {ts : List Str} {d : D} (h : isObj d = false) : P.sem (.isi ts) [d] = .ok (rB (isOf ts d)) := by
  show (if isObj d then M.no else mb (isOf ts d)) = _
  rw [h] <;> rfl
theorem is_strS {s : Str} : P.sem (.isi ["str"]) [.str s] = .ok (rB true) := by rw [sem_isI rfl, show isOf ["str"] (.str s) = true from rfl]
theorem is_intI {i : Int} : P.sem (.isi ["int"]) [.int i] = .ok (rB true) := by rw [sem_isI rfl, show isOf ["int"] (.int i) = true from rfl]
theorem is_boolI {i : Int} : P.sem (.isi ["bool"]) [.int i] = .ok (rB false) := by rw [sem_isI rfl, show isOf ["bool"] (.int i) = false from rfl]
theorem is_lstL {t : Option Addr} {xs : List D} : P.sem (.isi ["list"]) [.lst t xs] = .ok (rB true) := by rw [sem_isI rfl, show isOf ["list"] (.lst t xs) = true from rfl]
theorem is_tupT {xs : List D} : P.sem (.isi ["tuple"]) [.tup xs] = .ok (rB true) := by rw [sem_isI rfl, show isOf ["tuple"] (.tup xs) = true from rfl]
theorem is_ltL {t : Option Addr} {xs : List D} : P.sem (.isi ["list", "tuple"]) [.lst t xs] = .ok (rB true) := by rw [sem_isI rfl, show isOf ["list", "tuple"] (.lst t xs) = true from rfl]
theorem is_ltT {xs : List D} : P.sem (.isi ["list", "tuple"]) [.tup xs] = .ok (rB true) := by rw [sem_isI rfl, show isOf ["list", "tuple"] (.tup xs) = true from rfl]
theorem is_dicD {t : Option Addr} {xs : List (Key × D)} : P.sem (.isi ["dict"]) [.dic t xs] = .ok (rB true) := by rw [sem_isI rfl, show isOf ["dict"] (.dic t xs) = true from rfl]
theorem mt_cnt {l : List Nat} {c : Nat} : semMt .count (R.d (rS l) :: List.map R.d [.sh (dC c)]) = .ok (rZ (l.count c)) := mt_countS
/-- .count asked of a text by a text of one sign -/
theorem sem_max2 {i j : Int} : P.sem (.fn .max2) [.int i, .int j] = .ok (rZ (max i j)) := by
  show mi (if j > i then j else i) = _
  have : (if j > i then j else i) = max i j := by split <;> omega
  rw [this] <;> rfl
theorem sem_min2 {i j : Int} : P.sem (.fn .min2) [.int i, .int j] = .ok (rZ (min i j)) := by
  show mi (if j < i then j else i) = _
  have : (if j < i then j else i) = min i j := by split <;> omega
  rw [this] <;> rfl
end FH
set_option Elab.async false
set_option linter.all false
set_option maxRecDepth 100000
set_option maxHeartbeats 2000000
namespace FH
open PySem PySem.Spec PyProof.Rows L2
/-- a locker's data -/
abbrev lkD (s r m : Int) : D := .obj "Locker" [("locker_sets", .int s), ("locker_repeaters", .int r), ("locker_most", .int m)]
theorem fld_s {s r m : Int} : P.sem (.fld "Locker" "locker_sets") [lkD s r m] = .ok (rZ s) := by kernel_rfl
theorem fld_r {s r m : Int} : P.sem (.fld "Locker" "locker_repeaters") [lkD s r m] = .ok (rZ r) := by kernel_rfl
theorem fld_m {s r m : Int} : P.sem (.fld "Locker" "locker_most") [lkD s r m] = .ok (rZ m) := by kernel_rfl
theorem isc_lk {s r m : Int} : P.sem (.isc "Locker" ["Locker"]) [lkD s r m] = .ok (rB true) := by kernel_rfl
theorem cm_s : cm "Locker.sets" = some (("Locker" : Str), ("sets" : Str)) := by decide +kernel
theorem cm_r : cm "Locker.repeaters" = some (("Locker" : Str), ("repeaters" : Str)) := by decide +kernel
theorem cm_m : cm "Locker.most" = some (("Locker" : Str), ("most" : Str)) := by decide +kernel
theorem cm_i : cm "Locker.__init__" = some (("Locker" : Str), ("__init__" : Str)) := by decide +kernel
section
variable {Φ : FT} {env : En} {X : Str → D → Prop} {Q : Out → Prop}
@[reducible] def PLs (Φ : FT) : Prop := ∀ s r m, Fv Φ "Locker.sets" [lkD s r m] (rZ s)
@[reducible] def PLr (Φ : FT) : Prop := ∀ s r m, Fv Φ "Locker.repeaters" [lkD s r m] (rZ r)
@[reducible] def PLm (Φ : FT) : Prop := ∀ s r m, Fv Φ "Locker.most" [lkD s r m] (rZ m)
@[reducible] def PLi (Φ : FT) : Prop := ∀ s r m : Int, 1 ≤ s → s ≤ 3 → 0 ≤ r → r ≤ 9 → 1 ≤ m → m ≤ 40 → Fo Φ "Locker.__init__" (.ow (.obj "Locker" [])) [.int s, .int r, .int m] (.sh .non) (.ow (lkD s r m))
theorem lk_no {s r m : Int} {x : Str} (h : (x == ("locker_sets" : Str)) = false) (h2 : (x == ("locker_repeaters" : Str)) = false) (h3 : (x == ("locker_most" : Str)) = false) : ([("locker_sets", .int s), ("locker_repeaters", .int r), ("locker_most", .int m)] : List (Str × D)).lookup x = none := by
  rw [List.lookup_cons, h, List.lookup_cons, h2, List.lookup_cons, h3] <;> rfl
theorem Ev.lkS {e : T} {s r m : Int} (hm : notMv e = true) (h0 : Ev Φ e env (.sh (lkD s r m))) (S : PLs Φ) : Ev Φ (.om "Locker.sets" e .nil) env (rZ s) := Ev.fm cm_s (S s r m) hm h0 rfl (by kernel_rfl) EvD.nil
theorem Ev.lkR {e : T} {s r m : Int} (hm : notMv e = true) (h0 : Ev Φ e env (.sh (lkD s r m))) (S : PLr Φ) : Ev Φ (.om "Locker.repeaters" e .nil) env (rZ r) := Ev.fm cm_r (S s r m) hm h0 rfl (by kernel_rfl) EvD.nil
theorem Ev.lkM {e : T} {s r m : Int} (hm : notMv e = true) (h0 : Ev Φ e env (.sh (lkD s r m))) (S : PLm Φ) : Ev Φ (.om "Locker.most" e .nil) env (rZ m) := Ev.fm cm_m (S s r m) hm h0 rfl (by kernel_rfl) EvD.nil
/-- Locker(..) -/
theorem Ev.lkI {a b c : T} {s r m : Int} (ha : Ev Φ a env (rZ s)) (hb : Ev Φ b env (rZ r)) (hc : Ev Φ c env (rZ m)) (na : notMv a = true) (nb : notMv b = true) (nc : notMv c = true) (S : PLi Φ) (h1 : 1 ≤ s) (h2 : s ≤ 3) (h3 : 0 ≤ r) (h4 : r ≤ 9) (h5 : 1 ≤ m) (h6 : m ≤ 40) :
    Ev Φ (.mk "Locker.__init__" (.cons a (.cons b (.cons c .nil)))) env (.ow (lkD s r m)) :=
  Ev.mk cm_i (EvD.consX ha (EvD.consX hb (EvD.consX hc EvD.nil nc rfl) nb rfl) na rfl) (S s r m h1 h2 h3 h4 h5 h6)
/-- a def whose first argument is lent, that falls through its end -/
def AnsN (r' : R) : Out → Prop := fun o => ∃ env, o = .nx env ∧ env[0]? = some (some r')
theorem fo_nx {tab : List DT} {n : Nat} {f : Str} {d : DT} {ds : List D} {r r' : R} (h : findT tab f = some d) (hi : d.io = [0]) (hl : ds.length + 1 = d.ps.length) (e : Wp (PT tab n) d.B NoX (some r :: (ds.map fun x => some (.sh x)) ++ List.replicate (d.N.length - d.ps.length) none) (AnsN r')) : Fo (PT tab (n + 1)) f r ds (.sh .non) r' := by
  refine ⟨_, PT_eq h, fun rs hr => ?_⟩
  subst hr
  rw [List.length_map] at hl
  have key : OkM (dG (PT tab n) d.N.length d.ps.length d.io d.B (r :: rs)) (fun c => ∃ outs, c = (.sh .non, some r' :: outs)) NoX := by
    refine dG_ok hl ?_
    rw [hi, frz_0]
    have e2 : ((r :: (rs.map R.d).map R.sh).map some) = some r :: ((rs.map R.d).map fun x => some (.sh x)) := by rw [List.map_cons, List.map_map] <;> rfl
    rw [e2]
    refine Wp.imp e fun o z => ?_
    obtain ⟨env, rfl, h0⟩ := z
    obtain ⟨outs, ho⟩ := outs_0 (m := rs.length) h0
    refine ⟨outs, ?_⟩
    rw [← hl, ← ho] <;> rfl
  obtain ⟨c, e1, outs, rfl⟩ := okM_ex key
  exact ⟨outs, e1⟩
/-! statements -/
theorem Wp.retE {e : T} {s : S} {r r' : R} (h : Ev Φ e env r') (q : r' = r) : Wp Φ (.seq (.ret e) s) X env (Ans r) := Wp.retV h q
end
end FH
set_option Elab.async false
set_option linter.all false
set_option maxRecDepth 100000
set_option maxHeartbeats 2000000
namespace FH
open PySem PySem.Spec PyProof.Rows L2
mutual
def eqQ : D → D → Bool
  | .lst _ xs, .lst _ ys => eqQs xs ys
  | .tup xs, .tup ys => eqQs xs ys
  | a, b => eqF a b
def eqQs : List D → List D → Bool
  | [], [] => true
  | x :: xs, y :: ys => eqQ x y && eqQs xs ys
  | _, _ => false
end
theorem toPy_lst {t : Option Addr} {xs : List D} {x : PyData} (h : toPy (.lst t xs) = some x) : ∃ ys, toPys xs = some ys ∧ x = .list ys := by
  unfold toPy at h
  cases e : toPys xs with
  | none => rw [e] at h; cases h
  | some ys => rw [e] at h; cases h; exact ⟨ys, rfl, rfl⟩
theorem toPy_tup {xs : List D} {x : PyData} (h : toPy (.tup xs) = some x) : ∃ ys, toPys xs = some ys ∧ x = .tuple ys := by
  unfold toPy at h
  cases e : toPys xs with
  | none => rw [e] at h; cases h
  | some ys => rw [e] at h; cases h; exact ⟨ys, rfl, rfl⟩
theorem toPys_cons {d : D} {ds : List D} {zs : List PyData} (h : toPys (d :: ds) = some zs) : ∃ x xs, toPy d = some x ∧ toPys ds = some xs ∧ zs = x :: xs := by
  unfold toPys at h
  cases e : toPy d with
  | none => rw [e] at h; cases h
  | some x =>
    cases e2 : toPys ds with
    | none => rw [e, e2] at h; cases h
    | some xs => rw [e, e2] at h; cases h; exact ⟨x, xs, rfl, rfl, rfl⟩
mutual
theorem eqv_py : ∀ (a b : D) (x y : PyData), shw a = true → shw b = true → toPy a = some x → toPy b = some y → PyData.eqv x y = eqQ a b
  | .lst _ xs, .lst _ ys, x, y, ha, hb, h1, h2 => by
    obtain ⟨us, u1, rfl⟩ := toPy_lst h1
    obtain ⟨vs, v1, rfl⟩ := toPy_lst h2
    unfold shw at ha hb
    unfold eqQ PyData.eqv
    exact eqvs_py xs ys us vs ha hb u1 v1
  | .tup xs, .tup ys, x, y, ha, hb, h1, h2 => by
    obtain ⟨us, u1, rfl⟩ := toPy_tup h1
    obtain ⟨vs, v1, rfl⟩ := toPy_tup h2
    unfold shw at ha hb
    unfold eqQ PyData.eqv
    exact eqvs_py xs ys us vs ha hb u1 v1
  | .lst _ xs, .tup ys, x, y, ha, hb, h1, h2 => by
    obtain ⟨us, u1, rfl⟩ := toPy_lst h1
    obtain ⟨vs, v1, rfl⟩ := toPy_tup h2
    rfl
  | .tup xs, .lst _ ys, x, y, ha, hb, h1, h2 => by
    obtain ⟨us, u1, rfl⟩ := toPy_tup h1
    obtain ⟨vs, v1, rfl⟩ := toPy_lst h2
    rfl
  | .lst _ xs, .non, x, y, ha, hb, h1, h2 => by obtain ⟨us, u1, rfl⟩ := toPy_lst h1; cases h2; rfl
  | .lst _ xs, .bl _, x, y, ha, hb, h1, h2 => by obtain ⟨us, u1, rfl⟩ := toPy_lst h1; cases h2; rfl
  | .lst _ xs, .int _, x, y, ha, hb, h1, h2 => by obtain ⟨us, u1, rfl⟩ := toPy_lst h1; cases h2; rfl
  | .lst _ xs, .str _, x, y, ha, hb, h1, h2 => by obtain ⟨us, u1, rfl⟩ := toPy_lst h1; cases h2; rfl
  | .tup xs, .non, x, y, ha, hb, h1, h2 => by obtain ⟨us, u1, rfl⟩ := toPy_tup h1; cases h2; rfl
  | .tup xs, .bl _, x, y, ha, hb, h1, h2 => by obtain ⟨us, u1, rfl⟩ := toPy_tup h1; cases h2; rfl
  | .tup xs, .int _, x, y, ha, hb, h1, h2 => by obtain ⟨us, u1, rfl⟩ := toPy_tup h1; cases h2; rfl
  | .tup xs, .str _, x, y, ha, hb, h1, h2 => by obtain ⟨us, u1, rfl⟩ := toPy_tup h1; cases h2; rfl
  | .non, .lst _ ys, x, y, ha, hb, h1, h2 => by obtain ⟨us, u1, rfl⟩ := toPy_lst h2; cases h1; rfl
  | .bl _, .lst _ ys, x, y, ha, hb, h1, h2 => by obtain ⟨us, u1, rfl⟩ := toPy_lst h2; cases h1; rfl
  | .int _, .lst _ ys, x, y, ha, hb, h1, h2 => by obtain ⟨us, u1, rfl⟩ := toPy_lst h2; cases h1; rfl
  | .str _, .lst _ ys, x, y, ha, hb, h1, h2 => by obtain ⟨us, u1, rfl⟩ := toPy_lst h2; cases h1; rfl
  | .non, .tup ys, x, y, ha, hb, h1, h2 => by obtain ⟨us, u1, rfl⟩ := toPy_tup h2; cases h1; rfl
  | .bl _, .tup ys, x, y, ha, hb, h1, h2 => by obtain ⟨us, u1, rfl⟩ := toPy_tup h2; cases h1; rfl
  | .int _, .tup ys, x, y, ha, hb, h1, h2 => by obtain ⟨us, u1, rfl⟩ := toPy_tup h2; cases h1; rfl
  | .str _, .tup ys, x, y, ha, hb, h1, h2 => by obtain ⟨us, u1, rfl⟩ := toPy_tup h2; cases h1; rfl
  | .non, .non, x, y, ha, hb, h1, h2 => by cases h1; cases h2; rfl
  | .non, .bl _, x, y, ha, hb, h1, h2 => by cases h1; cases h2; rfl
  | .non, .int _, x, y, ha, hb, h1, h2 => by cases h1; cases h2; rfl
  | .non, .str _, x, y, ha, hb, h1, h2 => by cases h1; cases h2; rfl
  | .bl _, .non, x, y, ha, hb, h1, h2 => by cases h1; cases h2; rfl
  | .bl _, .bl _, x, y, ha, hb, h1, h2 => by cases h1; cases h2; rfl
  | .bl _, .int _, x, y, ha, hb, h1, h2 => by cases h1; cases h2; rfl
  | .bl _, .str _, x, y, ha, hb, h1, h2 => by cases h1; cases h2; rfl
  | .int _, .non, x, y, ha, hb, h1, h2 => by cases h1; cases h2; rfl
  | .int _, .bl _, x, y, ha, hb, h1, h2 => by cases h1; cases h2; rfl
  | .int _, .int _, x, y, ha, hb, h1, h2 => by cases h1; cases h2; rfl
  | .int _, .str _, x, y, ha, hb, h1, h2 => by cases h1; cases h2; rfl
  | .str _, .non, x, y, ha, hb, h1, h2 => by cases h1; cases h2; rfl
  | .str _, .bl _, x, y, ha, hb, h1, h2 => by cases h1; cases h2; rfl
  | .str _, .int _, x, y, ha, hb, h1, h2 => by cases h1; cases h2; rfl
  | .str u, .str v, x, y, ha, hb, h1, h2 => by
    cases h1; cases h2
    show (u == v) = decide (u = v)
    by_cases h : u = v
    · subst h; simp
    · rw [decide_eq_false h]; simpa using h
  | .scr _, _, _, _, ha, _, _, _ => by unfold shw at ha; cases ha
  | .dic _ _, _, _, _, ha, _, _, _ => by unfold shw at ha; cases ha
  | .obj _ _, _, _, _, ha, _, _, _ => by unfold shw at ha; cases ha
  | _, .scr _, _, _, _, hb, _, _ => by unfold shw at hb; cases hb
  | _, .dic _ _, _, _, _, hb, _, _ => by unfold shw at hb; cases hb
  | _, .obj _ _, _, _, _, hb, _, _ => by unfold shw at hb; cases hb
theorem eqvs_py : ∀ (as bs : List D) (xs ys : List PyData), shws as = true → shws bs = true → toPys as = some xs → toPys bs = some ys → PyData.eqvAll xs ys = eqQs as bs
  | [], [], xs, ys, _, _, h1, h2 => by cases h1; cases h2; rfl
  | [], b :: bs, xs, ys, _, _, h1, h2 => by
    obtain ⟨y, yr, _, _, rfl⟩ := toPys_cons h2
    cases h1
    rfl
  | a :: as, [], xs, ys, _, _, h1, h2 => by
    obtain ⟨y, yr, _, _, rfl⟩ := toPys_cons h1
    cases h2
    rfl
  | a :: as, b :: bs, xs, ys, ha, hb, h1, h2 => by
    obtain ⟨x, xr, x1, x2, rfl⟩ := toPys_cons h1
    obtain ⟨y, yr, y1, y2, rfl⟩ := toPys_cons h2
    unfold shws at ha hb
    simp only [Bool.and_eq_true] at ha hb
    unfold eqQs PyData.eqvAll
    rw [eqv_py a b x y ha.1 hb.1 x1 y1, eqvs_py as bs xr yr ha.2 hb.2 x2 y2]
end
theorem eqDeep_q {a b : D} (h : shw a = true) (k : shw b = true) (hd : dpt a ≤ 40) (kd : dpt b ≤ 40) : eqDeep a b = some (eqQ a b) := by
  obtain ⟨x, h1, h2, h3, h4⟩ := shw_py a h
  obtain ⟨y, k1, k2, k3, k4⟩ := shw_py b k
  unfold eqDeep
  rw [h1, k1]
  have s : SeqAt.shaped x = true := by
    unfold SeqAt.shaped
    rw [h2, h4]
    simp
    omega
  have t : SeqAt.shaped y = true := by
    unfold SeqAt.shaped
    rw [k2, k4]
    simp
    omega
  simp only [s, t, Bool.and_self, if_true]
  rw [eqv_py a b x y h k h1 k1]
theorem beq_dec {α : Type} [DecidableEq α] {a b : α} : (a == b) = decide (a = b) := by
  by_cases h : a = b
  · subst h; simp
  · rw [decide_eq_false h]; simpa using h
theorem eqD_q {a b : D} (h : shw a = true) (k : shw b = true) (hd : dpt a ≤ 40) (kd : dpt b ≤ 40) : eqD a b = some (eqQ a b) := by
  have deep := eqDeep_q h k hd kd
  cases a <;> cases b <;> first
    | exact deep
    | rfl
    | (show some _ = some (_ == _); rw [beq_dec]; done)
    | (cases h; done)
    | (cases k; done)
theorem sem_eqQ {a b : D} (h : shw a = true) (k : shw b = true) (hd : dpt a ≤ 40) (kd : dpt b ≤ 40) : P.sem (.cmp .Eq) [a, b] = .ok (rB (eqQ a b)) := by
  show mbo (eqD a b) = _
  rw [eqD_q h k hd kd] <;> rfl
theorem sem_neQ {a b : D} (h : shw a = true) (k : shw b = true) (hd : dpt a ≤ 40) (kd : dpt b ≤ 40) : P.sem (.cmp .NotEq) [a, b] = .ok (rB (!eqQ a b)) := by
  show mbo ((eqD a b).map (!·)) = _
  rw [eqD_q h k hd kd] <;> rfl
/-! rows of encoded things -/
theorem eqQs_map {α : Type} [DecidableEq α] {f : α → D} (hf : ∀ x y, eqQ (f x) (f y) = decide (x = y)) : ∀ as bs : List α, eqQs (as.map f) (bs.map f) = decide (as = bs)
  | [], [] => by simp [eqQs]
  | [], b :: bs => by
    show false = _
    rw [decide_eq_false (by simp)]
  | a :: as, [] => by
    show false = _
    rw [decide_eq_false (by simp)]
  | a :: as, b :: bs => by
    show (eqQ (f a) (f b) && eqQs (as.map f) (bs.map f)) = _
    rw [hf, eqQs_map hf as bs]
    by_cases h1 : a = b
    · by_cases h2 : as = bs
      · subst h1 h2; simp
      · rw [decide_eq_false h2, Bool.and_false, decide_eq_false (by simp [h1, h2])]
    · rw [decide_eq_false h1, Bool.false_and, decide_eq_false (by simp [h1])]
theorem eqQ_S {a b : List Nat} : eqQ (dS a) (dS b) = decide (a = b) := by
  show decide (cS a = cS b) = _
  exact cS_dec
theorem eqQ_I {a b : Int} : eqQ (.int a) (.int b) = decide (a = b) := beq_dec
theorem eqQ_C {a b : Nat} : eqQ (dC a) (dC b) = decide (a = b) := by
  show decide (cS [a] = cS [b]) = _
  rw [cS_dec, decide_eq_decide]
  simp
theorem eqQ_ws {s t : Option Addr} {a b : List (List Nat)} : eqQ (.lst s (a.map dS)) (.lst t (b.map dS)) = decide (a = b) := eqQs_map (fun _ _ => eqQ_S) a b
theorem eqQ_cs {s t : Option Addr} {a b : List Nat} : eqQ (.lst s (a.map dC)) (.lst t (b.map dC)) = decide (a = b) := eqQs_map (fun _ _ => eqQ_C) a b
/-- texts of which nothing is odd -/
def okC (c : Nat) : Prop := c < 0x110000
theorem shw_S {w : List Nat} (h : ∀ c, c ∈ w → c < 1114112) : shw (dS w) = true := by
  show PyData.strOk (cS w) = true
  unfold PyData.strOk
  rw [Array.all_eq_true']
  intro c hc
  have := h c (Array.mem_toList_iff.mpr hc)
  simp
  omega
theorem shw_C {c : Nat} (h : c < 1114112) : shw (dC c) = true := shw_S fun x hx => by rw [List.mem_singleton.mp hx]; exact h
theorem shw_cs {t : Option Addr} {w : List Nat} (h : ∀ c, c ∈ w → c < 1114112) : shw (.lst t (w.map dC)) = true := by
  show shws _ = true
  exact shws_map fun c hc => shw_C (h c hc)
theorem shw_ws {t : Option Addr} {ws : List (List Nat)} (h : ∀ w, w ∈ ws → ∀ c, c ∈ w → c < 1114112) : shw (.lst t (ws.map dS)) = true := by
  show shws _ = true
  exact shws_map fun w hw => shw_S (h w hw)
theorem dpt_row {α : Type} {t : Option Addr} {f : α → D} {l : List α} {k : Nat} (h : ∀ a, a ∈ l → dpt (f a) ≤ k) : dpt (.lst t (l.map f)) ≤ k + 1 := by
  show dpts (l.map f) + 1 ≤ k + 1
  exact Nat.succ_le_succ (dpts_map h)
end FH
set_option Elab.async false
set_option linter.all false
set_option maxRecDepth 100000
set_option maxHeartbeats 2000000
namespace FH
open PySem PySem.Spec PyProof.Rows L2
theorem sem_idxSg {a : List Nat} {i : Int} (hl : a.length ≤ LIM) (h0 : 0 ≤ i) (h1 : i < a.length) : P.sem .idx [dS a, .int i] = .ok (.sh (dC (a.getD i.toNat 0))) := by
  refine sem_idxS hl ?_
  rw [atI_int h0 h1, List.getD_eq_getElem?_getD, List.getElem?_eq_getElem (by omega)] <;> rfl
theorem sem_idxWs {t : Option Addr} {ws : List (List Nat)} {i : Int} (h0 : 0 ≤ i) (h1 : i < ws.length) : P.sem .idx [.lst t (ws.map dS), .int i] = .ok (rS (ws.getD i.toNat [])) := by
  refine sem_idxL ?_
  have := atI_map (f := dS) (atI_int h0 h1)
  rw [this, List.getD_eq_getElem?_getD, List.getElem?_eq_getElem (by omega)] <;> rfl
theorem sem_idxCs {t : Option Addr} {ws : List Nat} {i : Int} (h0 : 0 ≤ i) (h1 : i < ws.length) : P.sem .idx [.lst t (ws.map dC), .int i] = .ok (.sh (dC (ws.getD i.toNat 0))) := by
  refine sem_idxL ?_
  have := atI_map (f := dC) (atI_int h0 h1)
  rw [this, List.getD_eq_getElem?_getD, List.getElem?_eq_getElem (by omega)] <;> rfl
theorem sem_strD {i : Int} (h0 : 0 ≤ i) (h1 : i ≤ 9) : P.sem (.fn .str) [.int i] = .ok (.sh (dC (i.toNat + 48))) := by
  obtain ⟨k, rfl⟩ := Int.eq_ofNat_of_zero_le h0
  have hk : k ≤ 9 := by omega
  have : k = 0 ∨ k = 1 ∨ k = 2 ∨ k = 3 ∨ k = 4 ∨ k = 5 ∨ k = 6 ∨ k = 7 ∨ k = 8 ∨ k = 9 := by omega
  rcases this with rfl | rfl | rfl | rfl | rfl | rfl | rfl | rfl | rfl | rfl <;> kernel_rfl
/-- the text of a truth value -/
abbrev tB (b : Bool) : Str := if b then "True" else "False"
theorem sem_reprB {b : Bool} : P.sem (.fn .repr) [.bl b] = .ok (.sh (.str (tB b))) := by cases b <;> kernel_rfl
theorem sem_eqX {s t : Str} : P.sem (.cmp .Eq) [.str s, .str t] = .ok (rB (decide (s = t))) := rfl
theorem sem_neX {s t : Str} : P.sem (.cmp .NotEq) [.str s, .str t] = .ok (rB (!decide (s = t))) := rfl
theorem sem_eqNL {t : Option Addr} : P.sem (.cmp .Eq) [.lst t [], .lst t []] = .ok (rB true) := by kernel_rfl
end FH
set_option Elab.async false
set_option linter.all false
set_option maxRecDepth 100000
set_option maxHeartbeats 4000000
namespace FH
open PySem PySem.Spec PyProof.Rows L2
theorem signs_cS (a : List Nat) : (signs (cS a)).map D.str = a.map dC := by
  unfold signs
  rw [List.map_map] <;> rfl
theorem sem_listS {a : List Nat} (hl : a.length ≤ LIM) : P.sem (.fn .list) [dS a] = .ok (.ow (.lst none (a.map dC))) := by
  show (if (cS a).length ≤ LIM then ml ((signs (cS a)).map .str) else .no) = _
  rw [cS_len, if_pos hl, signs_cS] <;> rfl
theorem sem_rvS {a : List Nat} (hl : a.length ≤ LIM) : P.sem .rv [dS a] = .ok (rS a.reverse) := by
  show (if (cS a).length ≤ LIM then ms ⟨(cS a).cps.toList.reverse.toArray⟩ else .no) = _
  rw [cS_len, if_pos hl] <;> rfl
theorem strsOf_dC : ∀ l : List Nat, strsOf (l.map dC) = some (l.map fun c => cS [c])
  | [] => rfl
  | c :: l => by
    show (strsOf (l.map dC)).map _ = _
    rw [strsOf_dC l] <;> rfl
theorem remD_dC {l : List Nat} {a : Nat} (h : a ∈ l) : remD (l.map dC) (dC a) = some ((l.erase a).map dC) := by
  show (match D.str (cS [a]), strsOf (l.map dC) with
    | .str y, some ss => (ss.findIdx? (fun s => decide (s = y))).map (l.map dC).eraseIdx
    | _, _ => none) = _
  rw [strsOf_dC]
  show ((l.map fun c => cS [c]).findIdx? (fun s => decide (s = cS [a]))).map (l.map dC).eraseIdx = _
  rw [List.findIdx?_map]
  have e1 : (l.findIdx? ((fun s => decide (s = cS [a])) ∘ fun c => cS [c])) = l.findIdx? (fun c => c == a) := by
    congr 1
    funext c
    show decide (cS [c] = cS [a]) = _
    rw [cS_dec, Bool.eq_iff_iff]
    simp
  rw [e1]
  have key : ∀ l : List Nat, a ∈ l → (l.findIdx? (fun c => c == a)).map (l.map dC).eraseIdx = some ((l.erase a).map dC) := by
    intro l
    induction l with
    | nil => intro h; cases h
    | cons c l ih =>
      intro h
      rw [List.findIdx?_cons, List.erase_cons]
      by_cases e : c = a
      · subst e
        simp
      · have e2 : (c == a) = false := by simpa using e
        rw [e2]
        simp only [Bool.false_eq_true, if_false]
        have := ih (by
          rcases List.mem_cons.mp h with z | z
          · exact absurd z.symm e
          · exact z)
        cases hq : l.findIdx? (fun c => c == a) with
        | none => rw [hq] at this; cases this
        | some i =>
          rw [hq] at this
          have t2 : (l.map dC).eraseIdx i = (l.erase a).map dC := Option.some.inj this
          show some ((dC c :: l.map dC).eraseIdx (i + 1)) = _
          rw [List.eraseIdx_cons_succ, t2] <;> rfl
  exact key l h
theorem starts_eq (a b : List Nat) : Txt.startswith (cS a) (cS b) = decide (a.take b.length = b) := by
  unfold Txt.startswith Builtin.Str.subAt
  have h1 : (cS b).length = b.length := cS_len
  have h2 : (cS a).length = a.length := cS_len
  rw [h1, h2]
  have h3 : ((cS a).cps.extract 0 (0 + b.length) == (cS b).cps) = decide (a.take b.length = b) := by
    rw [Bool.eq_iff_iff, beq_iff_eq, decide_eq_true_iff]
    show a.toArray.extract 0 (0 + b.length) = b.toArray ↔ _
    rw [List.extract_toArray]
    simp
  rw [h3]
  by_cases h : a.take b.length = b
  · rw [decide_eq_true h, Bool.and_true]
    have := congrArg List.length h
    rw [List.length_take] at this
    exact decide_eq_true (by omega)
  · rw [decide_eq_false h, Bool.and_false]
theorem mt_startsS {a b : List Nat} : semMt .startswith [dS a, dS b] = .ok (rB (decide (a.take b.length = b))) := by
  show mb (Txt.startswith (cS a) (cS b)) = _
  rw [starts_eq] <;> rfl
theorem all_flat (l : List Nat) : (l.map dC).all flatD = true := by
  rw [List.all_eq_true]
  intro x hx
  obtain ⟨c, _, rfl⟩ := List.mem_map.mp hx
  rfl
end FH
set_option Elab.async false
set_option linter.all false
set_option maxRecDepth 100000
set_option maxHeartbeats 4000000
namespace Gl
open PySem PySem.Spec PyProof.Rows L2 FH
def Locker_x__init__B : FH.S := (.seq (.ifs (.not (.call "is_integer" (.cons (.var 1) (.cons (.lit (.int 1)) (.cons (.glb "MOST_SETS" (.int 3)) .nil))))) (.seq .dead
  .nil) .nil)
  (.seq (.ifs (.not (.call "is_integer" (.cons (.var 2) (.cons (.lit (.int 0)) (.cons (.glb "MOST_REPEATERS" (.int 9)) .nil))))) (.seq .dead
  .nil) .nil)
  (.seq (.ifs (.not (.call "is_integer" (.cons (.var 3) (.cons (.lit (.int 1)) (.cons (.glb "LONGEST_WORD" (.int 40)) .nil))))) (.seq .dead
  .nil) .nil)
  (.seq (.setf 0 "Locker" "locker_sets" (.var 1))
  (.seq (.setf 0 "Locker" "locker_repeaters" (.var 2))
  (.seq (.setf 0 "Locker" "locker_most" (.var 3))
  .nil))))))
def Locker_x__init__T : DT := ⟨"Locker.__init__", ["self", "sets", "repeaters", "most"], ["self", "sets", "repeaters", "most"], [0], Locker_x__init__B, [1, 3, 7]⟩
def Locker_x__eq__B : FH.S := (.seq (.ret (.and (.prim (.isc "Locker" ["Locker"]) (.cons (.var 1) .nil)) (.one (.prim (.cmp .Eq) (.cons (.om "Locker.numbers" (.var 0) .nil) (.cons (.om "Locker.numbers" (.var 1) .nil) .nil))))))
  .nil)
def Locker_x__eq__T : DT := ⟨"Locker.__eq__", ["self", "other"], ["self", "other"], [], Locker_x__eq__B, []⟩
def Locker_x__str__B : FH.S := (.seq (.ret (.mth .join (.lit (.str (cS [32]))) (.cons (.prim (.bin .Add) (.cons (.lst (.cons (.glb "WORD" (.str (cS [108, 111, 99, 107, 101, 114]))) .nil)) (.cons (.comp [("number", 1)] (.prim (.fn .str) (.cons (.var 1) .nil)) (.nm 1) (.sval (.om "Locker.numbers" (.var 0) .nil)) .nil) .nil))) .nil)))
  .nil)
def Locker_x__str__T : DT := ⟨"Locker.__str__", ["self", "number"], ["self"], [], Locker_x__str__B, []⟩
def Locker_numbersB : FH.S := (.seq (.ret (.lst (.cons (.prim (.fld "Locker" "locker_sets") (.cons (.var 0) .nil)) (.cons (.prim (.fld "Locker" "locker_repeaters") (.cons (.var 0) .nil)) (.cons (.prim (.fld "Locker" "locker_most") (.cons (.var 0) .nil)) .nil)))))
  .nil)
def Locker_numbersT : DT := ⟨"Locker.numbers", ["self"], ["self"], [], Locker_numbersB, []⟩
def Locker_setsB : FH.S := (.seq (.ret (.prim (.fld "Locker" "locker_sets") (.cons (.var 0) .nil)))
  .nil)
def Locker_setsT : DT := ⟨"Locker.sets", ["self"], ["self"], [], Locker_setsB, []⟩
def Locker_repeatersB : FH.S := (.seq (.ret (.prim (.fld "Locker" "locker_repeaters") (.cons (.var 0) .nil)))
  .nil)
def Locker_repeatersT : DT := ⟨"Locker.repeaters", ["self"], ["self"], [], Locker_repeatersB, []⟩
def Locker_mostB : FH.S := (.seq (.ret (.prim (.fld "Locker" "locker_most") (.cons (.var 0) .nil)))
  .nil)
def Locker_mostT : DT := ⟨"Locker.most", ["self"], ["self"], [], Locker_mostB, []⟩
def is_integerB : FH.S := (.seq (.ret (.and (.prim (.isi ["int"]) (.cons (.var 0) .nil)) (.and (.not (.prim (.isi ["bool"]) (.cons (.var 0) .nil))) (.one (.chain .LtE .LtE (.var 1) (.var 0) (.var 2))))))
  .nil)
def is_integerT : DT := ⟨"is_integer", ["value", "low", "high"], ["value", "low", "high"], [], is_integerB, []⟩
def is_made_ofB : FH.S := (.seq (.ret (.and (.prim (.isi ["str"]) (.cons (.var 0) .nil)) (.and (.chain .LtE .LtE (.lit (.int 1)) (.prim (.fn .len) (.cons (.var 0) .nil)) (.var 2)) (.one (.prim (.fn .all) (.cons (.comp [("sign", 3)] (.prim (.cmp .In) (.cons (.var 3) (.cons (.var 1) .nil))) (.nm 3) (.sval (.var 0)) .nil) .nil))))))
  .nil)
def is_made_ofT : DT := ⟨"is_made_of", ["value", "signs", "most", "sign"], ["value", "signs", "most"], [], is_made_ofB, []⟩
def need_lockerB : FH.S := (.seq (.ifs (.not (.prim (.isc "Locker" ["Locker"]) (.cons (.var 0) .nil))) (.seq .dead
  .nil) .nil)
  .nil)
def need_lockerT : DT := ⟨"need_locker", ["locker"], ["locker"], [], need_lockerB, []⟩
def repeaters_ofB : FH.S := (.seq (.ret (.prim (.sl false true) (.cons (.glb "FIGURES" (.str (cS FIG))) (.cons (.om "Locker.repeaters" (.var 0) .nil) .nil))))
  .nil)
def repeaters_ofT : DT := ⟨"repeaters_of", ["locker"], ["locker"], [], repeaters_ofB, []⟩
def flags_fitB : FH.S := (.seq (.for (.nm 2) (.sval (.var 1)) (.seq (.ifs (.prim (.cmp .Gt) (.cons (.mth .count (.var 1) (.cons (.var 2) .nil)) (.cons (.ite (.prim (.cmp .In) (.cons (.var 2) (.cons (.glb "LETTERS" (.str (cS ABC))) .nil))) (.om "Locker.sets" (.var 0) .nil) (.lit (.int 1))) .nil))) (.seq (.ret (.lit (.bl false)))
  .nil) .nil)
  .nil))
  (.seq (.ret (.prim (.fn .all) (.cons (.comp [("at", 3), ("flag", 2)] (.prim (.cmp .GtE) (.cons (.var 3) (.cons (.prim (.fn .int) (.cons (.var 2) .nil)) .nil))) (.tp [3, 2]) (.senum (.var 1)) (.prim (.cmp .In) (.cons (.var 2) (.cons (.glb "FIGURES" (.str (cS FIG))) .nil)))) .nil)))
  .nil))
def flags_fitT : DT := ⟨"flags_fit", ["locker", "hoist", "flag", "at"], ["locker", "hoist"], [], flags_fitB, []⟩
def is_flownB : FH.S := (.seq (.ret (.and (.call "is_made_of" (.cons (.var 1) (.cons (.prim (.bin .Add) (.cons (.glb "LETTERS" (.str (cS ABC))) (.cons (.call "repeaters_of" (.cons (.var 0) .nil)) .nil))) (.cons (.om "Locker.most" (.var 0) .nil) .nil)))) (.one (.call "flags_fit" (.cons (.var 0) (.cons (.var 1) .nil))))))
  .nil)
def is_flownT : DT := ⟨"is_flown", ["locker", "value"], ["locker", "value"], [], is_flownB, []⟩
def is_hoistB : FH.S := (.seq (.expr (.call "need_locker" (.cons (.var 0) .nil)))
  (.seq (.ret (.call "is_flown" (.cons (.var 0) (.cons (.var 1) .nil))))
  .nil))
def is_hoistT : DT := ⟨"is_hoist", ["locker", "value"], ["locker", "value"], [], is_hoistB, []⟩
def word_ofB : FH.S := (.seq (.asg 1 (.lit (.str (cS []))))
  (.seq (.for (.nm 2) (.sval (.var 0)) (.seq (.asg 1 (.frz (.prim (.bin .Add) (.cons (.var 1) (.cons (.ite (.prim (.cmp .In) (.cons (.var 2) (.cons (.glb "LETTERS" (.str (cS ABC))) .nil))) (.var 2) (.prim .idx (.cons (.var 1) (.cons (.prim (.bin .Sub) (.cons (.prim (.fn .int) (.cons (.var 2) .nil)) (.cons (.lit (.int 1)) .nil))) .nil)))) .nil)))))
  .nil))
  (.seq (.ret (.var 1))
  .nil)))
def word_ofT : DT := ⟨"word_of", ["hoist", "found", "flag"], ["hoist"], [], word_ofB, []⟩
def shownB : FH.S := (.seq (.expr (.call "need_locker" (.cons (.var 0) .nil)))
  (.seq (.ifs (.not (.call "is_flown" (.cons (.var 0) (.cons (.var 1) .nil)))) (.seq .dead
  .nil) .nil)
  (.seq (.ret (.call "word_of" (.cons (.var 1) .nil)))
  .nil)))
def shownT : DT := ⟨"shown", ["locker", "hoist"], ["locker", "hoist"], [], shownB, []⟩
def x_law_cellB (a b : Int) : FH.S := (.seq (.ifs (.prim (.cmp .Lt) (.cons (.var 1) (.cons (.prim (.fn .len) (.cons (.var 0) .nil)) .nil))) (.seq (.ret (.prim .idx (.cons (.var 0) (.cons (.var 1) .nil))))
  .nil) .nil)
  (.seq (.ret (.prim (.bin .Add) (.cons (.prim (.bin .Mult) (.cons (.lit (.int b)) (.cons (.var 1) .nil))) (.cons (.lit (.int a)) .nil))))
  .nil))
def x_law_cellT (a b : Int) : DT := ⟨"_law_cell", ["script", "k"], ["script", "k"], [], x_law_cellB a b, []⟩
def x_law_boxB : FH.S := (.seq (.ret (.lst (.cons (.prim (.fn .max2) (.cons (.lit (.int 0)) (.cons (.prim (.bin .Sub) (.cons (.var 0) (.cons (.prim (.bin .Pow) (.cons (.lit (.int 10)) (.cons (.lit (.int 18)) .nil))) .nil))) .nil))) (.cons (.prim (.bin .Mod) (.cons (.var 0) (.cons (.lit (.int 2147483629)) .nil))) (.cons (.lit (.int 0)) .nil)))))
  .nil)
def x_law_boxT : DT := ⟨"_law_box", ["cell"], ["cell"], [], x_law_boxB, []⟩
def x_law_takeB (a : Int) : FH.S := (.seq (.ifs (.prim (.cmp .Gt) (.cons (.prim .idx (.cons (.mv 0) (.cons (.lit (.int 0)) .nil))) (.cons (.lit (.int 0)) .nil))) (.seq (.asg 4 (.prim (.bin .Mod) (.cons (.prim .idx (.cons (.mv 0) (.cons (.lit (.int 0)) .nil))) (.cons (.var 1) .nil))))
  (.seq (.setx 0 (.lit (.int 0)) (.prim (.bin .FloorDiv) (.cons (.prim .idx (.cons (.mv 0) (.cons (.lit (.int 0)) .nil))) (.cons (.var 1) .nil))))
  (.seq (.ret (.var 4))
  .nil))) .nil)
  (.seq (.setx 0 (.lit (.int 2)) (.prim (.bin .Add) (.cons (.prim .idx (.cons (.mv 0) (.cons (.lit (.int 2)) .nil))) (.cons (.lit (.int 1)) .nil))))
  (.seq (.asg 2 (.prim (.bin .Mod) (.cons (.prim (.bin .Pow) (.cons (.prim (.bin .Add) (.cons (.prim (.bin .Add) (.cons (.prim .idx (.cons (.mv 0) (.cons (.lit (.int 1)) .nil))) (.cons (.prim (.bin .Mult) (.cons (.lit (.int 7919)) (.cons (.prim .idx (.cons (.mv 0) (.cons (.lit (.int 2)) .nil))) .nil))) .nil))) (.cons (.lit (.int a)) .nil))) (.cons (.lit (.int 5)) .nil))) (.cons (.lit (.int 2147483647)) .nil))))
  (.seq (.asg 3 (.prim (.bin .Mod) (.cons (.prim (.bin .Pow) (.cons (.prim (.bin .Add) (.cons (.prim (.bin .Add) (.cons (.prim (.bin .FloorDiv) (.cons (.var 2) (.cons (.lit (.int 8)) .nil))) (.cons (.prim (.bin .Mult) (.cons (.prim (.bin .Mult) (.cons (.lit (.int 104729)) (.cons (.prim .idx (.cons (.mv 0) (.cons (.lit (.int 2)) .nil))) .nil))) (.cons (.prim .idx (.cons (.mv 0) (.cons (.lit (.int 2)) .nil))) .nil))) .nil))) (.cons (.lit (.int 11)) .nil))) (.cons (.lit (.int 3)) .nil))) (.cons (.lit (.int 2147483587)) .nil))))
  (.seq (.ret (.prim (.bin .Mod) (.cons (.prim (.bin .Add) (.cons (.prim (.bin .FloorDiv) (.cons (.var 2) (.cons (.lit (.int 4)) .nil))) (.cons (.prim (.bin .Mult) (.cons (.lit (.int 536870909)) (.cons (.prim (.bin .FloorDiv) (.cons (.var 3) (.cons (.lit (.int 4)) .nil))) .nil))) .nil))) (.cons (.var 1) .nil))))
  .nil)))))
def x_law_takeT (a : Int) : DT := ⟨"_law_take", ["box", "many", "one", "two", "digit"], ["box", "many"], [0], x_law_takeB a, []⟩
def x_law_wordB : FH.S := (.seq (.unp [3, 4] (.frz (.tup (.cons (.call "_law_take" (.cons (.mv 0) (.cons (.lit (.int 26)) .nil))) (.cons (.prim .idx (.cons (.lst (.cons (.lit (.int 1)) (.cons (.lit (.int 2)) (.cons (.lit (.int 3)) (.cons (.lit (.int 4)) (.cons (.lit (.int 7)) (.cons (.lit (.int 26)) .nil))))))) (.cons (.call "_law_take" (.cons (.mv 0) (.cons (.lit (.int 6)) .nil))) .nil))) .nil)))))
  (.seq (.asg 2 (.prim .idx (.cons (.lst (.cons (.prim (.bin .Add) (.cons (.lit (.int 1)) (.cons (.call "_law_take" (.cons (.mv 0) (.cons (.var 1) .nil))) .nil))) (.cons (.prim (.bin .Add) (.cons (.lit (.int 1)) (.cons (.call "_law_take" (.cons (.mv 0) (.cons (.prim (.fn .min2) (.cons (.var 1) (.cons (.lit (.int 5)) .nil))) .nil))) .nil))) (.cons (.var 1) .nil)))) (.cons (.call "_law_take" (.cons (.mv 0) (.cons (.lit (.int 3)) .nil))) .nil))))
  (.seq (.ret (.mth .join (.lit (.str (cS []))) (.cons (.comp [("k", 5)] (.prim .idx (.cons (.lit (.str (cS ABC))) (.cons (.prim (.bin .Mod) (.cons (.prim (.bin .Add) (.cons (.var 3) (.cons (.prim (.bin .Mult) (.cons (.lit (.int 5)) (.cons (.call "_law_take" (.cons (.mv 0) (.cons (.var 4) .nil))) .nil))) .nil))) (.cons (.lit (.int 26)) .nil))) .nil))) (.nm 5) (.srng (.cons (.var 2) .nil)) .nil) .nil)))
  .nil)))
def x_law_wordT : DT := ⟨"_law_word", ["box", "most", "many", "base", "span", "k"], ["box", "most"], [0], x_law_wordB, []⟩
def x_law_is_hoistB : FH.S := (.seq (.unp [2, 3, 4] (.var 0))
  (.seq (.ifs (.or (.not (.prim (.isi ["str"]) (.cons (.var 1) .nil))) (.one (.not (.chain .Lt .LtE (.lit (.int 0)) (.prim (.fn .len) (.cons (.var 1) .nil)) (.var 4))))) (.seq (.ret (.lit (.bl false)))
  .nil) .nil)
  (.seq (.for (.tp [5, 6]) (.senum (.var 1)) (.seq (.ifs (.prim (.cmp .NotIn) (.cons (.var 6) (.cons (.prim (.bin .Add) (.cons (.lit (.str (cS ABC))) (.cons (.prim (.sl false true) (.cons (.lit (.str (cS FIG))) (.cons (.var 3) .nil))) .nil))) .nil))) (.seq (.ret (.lit (.bl false)))
  .nil) .nil)
  (.seq (.ifs (.or (.and (.prim (.cmp .In) (.cons (.var 6) (.cons (.lit (.str (cS FIG))) .nil))) (.one (.or (.prim (.cmp .Gt) (.cons (.prim (.fn .int) (.cons (.var 6) .nil)) (.cons (.var 5) .nil))) (.one (.prim (.cmp .Gt) (.cons (.mth .count (.var 1) (.cons (.var 6) .nil)) (.cons (.lit (.int 1)) .nil))))))) (.one (.prim (.cmp .Gt) (.cons (.mth .count (.var 1) (.cons (.var 6) .nil)) (.cons (.prim (.fn .max2) (.cons (.var 2) (.cons (.lit (.int 1)) .nil))) .nil))))) (.seq (.ret (.lit (.bl false)))
  .nil) .nil)
  .nil)))
  (.seq (.ret (.lit (.bl true)))
  .nil))))
def x_law_is_hoistT : DT := ⟨"_law_is_hoist", ["numbers", "value", "sets", "repeaters", "most", "at", "flag"], ["numbers", "value"], [], x_law_is_hoistB, []⟩
def x_law_shownB : FH.S := (.seq (.asg 1 (.lit (.str (cS []))))
  (.seq (.for (.nm 2) (.sval (.var 0)) (.seq (.asg 1 (.frz (.prim (.bin .Add) (.cons (.var 1) (.cons (.ite (.prim (.cmp .In) (.cons (.var 2) (.cons (.lit (.str (cS FIG))) .nil))) (.prim .idx (.cons (.var 1) (.cons (.mth .find (.lit (.str (cS FIG))) (.cons (.var 2) .nil)) .nil))) (.var 2)) .nil)))))
  .nil))
  (.seq (.ret (.var 1))
  .nil)))
def x_law_shownT : DT := ⟨"_law_shown", ["hoist", "found", "flag"], ["hoist"], [], x_law_shownB, []⟩
def x_law_laidB : FH.S := (.seq (.asg 2 (.lit (.str (cS []))))
  (.seq (.for (.tp [3, 4]) (.senum (.var 1)) (.seq (.asg 5 (.frz (.comp [("k", 6)] (.prim (.fn .str) (.cons (.var 6) .nil)) (.nm 6) (.srng (.cons (.lit (.int 1)) (.cons (.prim (.bin .Add) (.cons (.prim (.fn .min2) (.cons (.var 3) (.cons (.lit (.int 9)) .nil))) (.cons (.lit (.int 1)) .nil))) .nil))) (.and (.prim (.cmp .Eq) (.cons (.prim .idx (.cons (.var 1) (.cons (.prim (.bin .Sub) (.cons (.var 6) (.cons (.lit (.int 1)) .nil))) .nil))) (.cons (.var 4) .nil))) (.one (.prim (.cmp .NotIn) (.cons (.prim (.fn .str) (.cons (.var 6) .nil)) (.cons (.var 2) .nil))))))))
  (.seq (.asg 2 (.frz (.prim (.bin .Add) (.cons (.var 2) (.cons (.ite (.and (.prim (.cmp .NotEq) (.cons (.var 5) (.cons (.lst .nil) .nil))) (.one (.prim (.cmp .Gt) (.cons (.call "_law_take" (.cons (.mv 0) (.cons (.lit (.int 4)) .nil))) (.cons (.lit (.int 0)) .nil))))) (.prim .idx (.cons (.var 5) (.cons (.call "_law_take" (.cons (.mv 0) (.cons (.prim (.fn .len) (.cons (.var 5) .nil)) .nil))) .nil))) (.var 4)) .nil)))))
  .nil)))
  (.seq (.ret (.var 2))
  .nil)))
def x_law_laidT : DT := ⟨"_law_laid", ["box", "word", "flags", "at", "letter", "some", "k"], ["box", "word"], [0], x_law_laidB, []⟩
end Gl
set_option Elab.async false
set_option linter.all false
set_option maxRecDepth 100000
set_option maxHeartbeats 4000000
namespace Gl
open PySem PySem.Spec PyProof.Rows L2 FH
local macro_rules | `(tactic| decreasing_trivial) => `(tactic| first | assumption | exact of_decide_eq_true (by assumption) | rfl | omega | (unfold LIM; omega) | (simp only [cS_len, List.length_map, List.length_range, List.length_zipIdx, List.length_append, List.length_cons, List.length_nil, LIM]; omega) | (simp only [List.mem_range] at *; omega) | decide)
local macro_rules | `(tactic| array_get_dec) => `(tactic| first
  | with_reducible exact Ev.litI | with_reducible exact Ev.litT | with_reducible exact Ev.litB | with_reducible exact Ev.litN | with_reducible exact Ev.glbI | with_reducible exact Ev.glbT | ((with_reducible apply Ev.var); rfl)
  | with_reducible exact EvA.nil | with_reducible exact EvN.nil | with_reducible exact EvD.nil
  | ((with_reducible apply EvA.consX); (· array_get_dec); (· array_get_dec); (· rfl))
  | ((with_reducible apply EvN.consX); (· array_get_dec); (· array_get_dec); (· rfl))
  | ((with_reducible apply EvD.consX); (· array_get_dec); (· array_get_dec); (· rfl); (· rfl))
  | ((with_reducible apply EvA.mv); (· rfl); (· array_get_dec); (· decide))
  | ((with_reducible apply Ev.one); array_get_dec) | ((with_reducible apply Ev.not); array_get_dec) | ((with_reducible apply Ev.frzX); (· array_get_dec); (· rfl))
  | ((with_reducible apply Ev.and); (· array_get_dec); (· (intro _; array_get_dec)))
  | ((with_reducible apply Ev.or); (· array_get_dec); (· (intro _; array_get_dec)))
  | ((with_reducible apply Ev.lst); array_get_dec) | ((with_reducible apply Ev.tup); array_get_dec)
  | ((with_reducible apply Ev.prX); (· array_get_dec); (· decreasing_trivial_pre_omega); (· rfl))
  | ((with_reducible apply Ev.mtX); (· array_get_dec); (· array_get_dec); (· rfl); (· rfl); (· decreasing_trivial_pre_omega); (· rfl))
  | ((with_reducible apply Ev.chLL); (· array_get_dec); (· array_get_dec); (· array_get_dec))
  | ((with_reducible apply Ev.chlL); (· array_get_dec); (· array_get_dec); (· array_get_dec))
  | ((with_reducible apply Ev.chLl); (· array_get_dec); (· array_get_dec); (· array_get_dec))
  | ((with_reducible apply Ev.chll); (· array_get_dec); (· array_get_dec); (· array_get_dec))
  | ((with_reducible apply Ev.iteB); (· array_get_dec); (· (intro _; array_get_dec)); (· (intro _; array_get_dec)))
  | ((with_reducible apply Ev.iteI); (· array_get_dec); (· (intro _; array_get_dec)); (· (intro _; array_get_dec)))
  | ((with_reducible apply Ev.iteC); (· array_get_dec); (· (intro _; array_get_dec)); (· (intro _; array_get_dec)))
  | ((with_reducible apply Ev.iteT); (· array_get_dec); (· (intro _; array_get_dec)); (· (intro _; array_get_dec)))
  | ((with_reducible apply EvI.tx); (· array_get_dec); (· decreasing_trivial))
  | ((with_reducible apply EvI.ls); (· array_get_dec); (· decreasing_trivial))
  | ((with_reducible apply EvI.lo); (· array_get_dec); (· decreasing_trivial))
  | ((with_reducible apply EvI.tu); (· array_get_dec); (· decreasing_trivial))
  | ((with_reducible apply EvI.etx); (· array_get_dec); (· decreasing_trivial))
  | ((with_reducible apply EvI.els); (· array_get_dec); (· decreasing_trivial))
  | ((with_reducible apply EvI.rz1); (· array_get_dec); (· rfl); (· decreasing_trivial); (· decreasing_trivial))
  | ((with_reducible apply EvI.rz2); (· array_get_dec); (· array_get_dec); (· rfl); (· rfl); all_goals decreasing_trivial)
  | ((with_reducible apply Ev.comp); (· array_get_dec); (· decreasing_trivial); (· rfl); (· rfl); (· exact fun _ => rfl); (· (intro _ _; array_get_dec)))
  | ((with_reducible apply Ev.compIf); (· rfl); (· array_get_dec); (· decreasing_trivial); (· rfl); (· rfl); (· exact fun _ => rfl); (· (intro _ _; array_get_dec)); (· (intro _ _ _; array_get_dec)))
  | ((with_reducible apply Ev.lkS); (· rfl); (· array_get_dec); (· assumption))
  | ((with_reducible apply Ev.lkR); (· rfl); (· array_get_dec); (· assumption))
  | ((with_reducible apply Ev.lkM); (· rfl); (· array_get_dec); (· assumption))
  | ((with_reducible apply Ev.lkI); (· array_get_dec); (· array_get_dec); (· array_get_dec); (· rfl); (· rfl); (· rfl); (· assumption); all_goals decreasing_trivial)
  | ((with_reducible apply Ev.fvX); (· array_get_dec); (· ((with_reducible apply_assumption) <;> decreasing_trivial))))
local macro_rules | `(tactic| decreasing_trivial_pre_omega) => `(tactic| (dsimp only [List.map, R.d, dV, sh1]; first
  | with_reducible exact sem_gt | with_reducible exact sem_ge | with_reducible exact sem_lt | with_reducible exact sem_le
  | with_reducible exact sem_inS | with_reducible exact sem_ninS | with_reducible exact sem_eqI | with_reducible exact sem_neI | with_reducible exact sem_eqB | with_reducible exact sem_neB | with_reducible exact sem_isB | with_reducible exact sem_nisB | with_reducible exact sem_reprB
  | with_reducible exact sem_eqCC | with_reducible exact sem_neCC | with_reducible exact sem_eqS | with_reducible exact sem_neS | with_reducible exact sem_eqX | with_reducible exact sem_neX | with_reducible exact sem_addI | with_reducible exact sem_subI | with_reducible exact sem_lenL | with_reducible exact sem_lenT
  | with_reducible exact sem_intB | with_reducible exact sem_max2 | with_reducible exact sem_min2 | with_reducible exact mt_countS | with_reducible exact sem_all | with_reducible exact sem_any | with_reducible exact sem_sum
  | with_reducible exact fld_s | with_reducible exact fld_r | with_reducible exact fld_m | with_reducible exact isc_lk | with_reducible exact is_strS | with_reducible exact is_intI | with_reducible exact is_boolI | with_reducible exact is_lstL | with_reducible exact is_tupT | with_reducible exact is_ltL | with_reducible exact is_ltT | with_reducible exact is_dicD
  | ((with_reducible refine sem_isI ?_); first | rfl | decreasing_trivial)
  | ((with_reducible refine sem_intF ?_); decreasing_trivial)
  | ((with_reducible refine sem_lenS ?_); decreasing_trivial)
  | ((with_reducible refine sem_addS ?_); decreasing_trivial)
  | ((with_reducible refine sem_addL ?_); decreasing_trivial)
  | ((with_reducible refine sem_slS ?_ ?_) <;> decreasing_trivial)
  | ((with_reducible refine sem_slS2 ?_ ?_) <;> decreasing_trivial)
  | ((with_reducible refine sem_slS3 ?_ ?_ ?_) <;> decreasing_trivial)
  | ((with_reducible refine sem_slL ?_) <;> decreasing_trivial)
  | ((with_reducible refine sem_slL2 ?_) <;> decreasing_trivial)
  | ((with_reducible refine sem_slL3 ?_ ?_) <;> decreasing_trivial)
  | ((with_reducible refine sem_idxSg ?_ ?_ ?_) <;> decreasing_trivial)
  | ((with_reducible refine sem_idxWs ?_ ?_) <;> decreasing_trivial)
  | ((with_reducible refine sem_idxCs ?_ ?_) <;> decreasing_trivial)
  | ((with_reducible refine sem_strD ?_ ?_) <;> decreasing_trivial)
  | rfl))
def wordy (z : List Nat) (m : Int) (w : List Nat) : Bool := decide (1 ≤ (w.length : Int)) && decide ((w.length : Int) ≤ m) && w.all fun c => decide (c ∈ z)
section
variable {tab : List DT} {n : Nat}
@[reducible] def PMadeS (Φ : FT) : Prop := ∀ w z m, w.length ≤ 5000 → z.length ≤ 5000 → Fv Φ "is_made_of" [dS w, dS z, .int m] (rB (wordy z m w))
theorem PMadeS.of (h : findT tab "is_made_of" = some is_made_ofT) : PMadeS (PT tab (n + 1)) := fun w z m hv hz => fv_of h rfl rfl (by
  apply Wp.retE
  · array_get_dec
  · rfl)
@[reducible] def PIntI (Φ : FT) : Prop := ∀ i lo hi : Int, Fv Φ "is_integer" [.int i, .int lo, .int hi] (rB (decide (lo ≤ i) && decide (i ≤ hi)))
theorem PIntI.of (h : findT tab "is_integer" = some is_integerT) : PIntI (PT tab (n + 1)) := fun i lo hi => fv_of h rfl rfl (by
  apply Wp.retE
  · array_get_dec
  · rfl)
theorem PLs.of (h : findT tab "Locker.sets" = some Locker_setsT) : PLs (PT tab (n + 1)) := fun s r m => fv_of h rfl rfl (by
  apply Wp.retE
  · array_get_dec
  · rfl)
theorem PLr.of (h : findT tab "Locker.repeaters" = some Locker_repeatersT) : PLr (PT tab (n + 1)) := fun s r m => fv_of h rfl rfl (by
  apply Wp.retE
  · array_get_dec
  · rfl)
theorem PLm.of (h : findT tab "Locker.most" = some Locker_mostT) : PLm (PT tab (n + 1)) := fun s r m => fv_of h rfl rfl (by
  apply Wp.retE
  · array_get_dec
  · rfl)
theorem PLi.of (h : findT tab "Locker.__init__" = some Locker_x__init__T) (S : PIntI (PT tab n)) : PLi (PT tab (n + 1)) := fun s r m h1 h2 h3 h4 h5 h6 => fo_nx h rfl rfl (by
  have t : ∀ {a b c : Int}, a ≤ b → b ≤ c → (!(decide (a ≤ b) && decide (b ≤ c))) = false := fun p q => by rw [decide_eq_true p, decide_eq_true q] <;> rfl
  refine Wp.if1 (t := false) ?_ (fun z => nomatch z) fun _ => ?_
  · rw [← t h1 h2]
    array_get_dec
  refine Wp.if1 (t := false) ?_ (fun z => nomatch z) fun _ => ?_
  · rw [← t h3 h4]
    array_get_dec
  refine Wp.if1 (t := false) ?_ (fun z => nomatch z) fun _ => ?_
  · rw [← t h5 h6]
    array_get_dec
  refine Wp.setf (We.of (Ev.var rfl) ⟨_, rfl, by show 0 < 1000; decide, Wp.at_env (e := [some (.ow (.obj "Locker" [("locker_sets", .int s)])), some (rZ s), some (rZ r), some (rZ m)]) ?_ (by kernel_rfl)⟩)
  refine Wp.setf (We.of (Ev.var rfl) ⟨_, rfl, by show 1 < 1000; decide, Wp.at_env (e := [some (.ow (.obj "Locker" [("locker_sets", .int s), ("locker_repeaters", .int r)])), some (rZ s), some (rZ r), some (rZ m)]) ?_ (by kernel_rfl)⟩)
  refine Wp.setf (We.of (Ev.var rfl) ⟨_, rfl, by show 2 < 1000; decide, Wp.at_env (e := [some (.ow (lkD s r m)), some (rZ s), some (rZ r), some (rZ m)]) ?_ (by kernel_rfl)⟩)
  exact Wp.nil ⟨_, rfl, rfl⟩)
end
end Gl
set_option Elab.async false
set_option linter.all false
set_option maxRecDepth 100000
set_option maxHeartbeats 4000000
namespace Gl
open PySem PySem.Spec PyProof.Rows L2 FH
local macro_rules | `(tactic| decreasing_trivial) => `(tactic| first | assumption | exact of_decide_eq_true (by assumption) | rfl | omega | (unfold LIM; omega) | (simp only [cS_len, List.length_map, List.length_range, List.length_zipIdx, List.length_append, List.length_cons, List.length_nil, LIM]; omega) | (simp only [List.mem_range] at *; omega) | decide)
local macro_rules | `(tactic| array_get_dec) => `(tactic| first
  | with_reducible exact Ev.litI | with_reducible exact Ev.litT | with_reducible exact Ev.litB | with_reducible exact Ev.litN | with_reducible exact Ev.glbI | with_reducible exact Ev.glbT | ((with_reducible apply Ev.var); rfl)
  | with_reducible exact EvA.nil | with_reducible exact EvN.nil | with_reducible exact EvD.nil
  | ((with_reducible apply EvA.consX); (· array_get_dec); (· array_get_dec); (· rfl))
  | ((with_reducible apply EvN.consX); (· array_get_dec); (· array_get_dec); (· rfl))
  | ((with_reducible apply EvD.consX); (· array_get_dec); (· array_get_dec); (· rfl); (· rfl))
  | ((with_reducible apply EvA.mv); (· rfl); (· array_get_dec); (· decide))
  | ((with_reducible apply Ev.one); array_get_dec) | ((with_reducible apply Ev.not); array_get_dec) | ((with_reducible apply Ev.frzX); (· array_get_dec); (· rfl))
  | ((with_reducible apply Ev.and); (· array_get_dec); (· (intro _; array_get_dec)))
  | ((with_reducible apply Ev.or); (· array_get_dec); (· (intro _; array_get_dec)))
  | ((with_reducible apply Ev.lst); array_get_dec) | ((with_reducible apply Ev.tup); array_get_dec)
  | ((with_reducible apply Ev.prX); (· array_get_dec); (· decreasing_trivial_pre_omega); (· rfl))
  | ((with_reducible apply Ev.mtX); (· array_get_dec); (· array_get_dec); (· rfl); (· rfl); (· decreasing_trivial_pre_omega); (· rfl))
  | ((with_reducible apply Ev.chLL); (· array_get_dec); (· array_get_dec); (· array_get_dec))
  | ((with_reducible apply Ev.chlL); (· array_get_dec); (· array_get_dec); (· array_get_dec))
  | ((with_reducible apply Ev.chLl); (· array_get_dec); (· array_get_dec); (· array_get_dec))
  | ((with_reducible apply Ev.chll); (· array_get_dec); (· array_get_dec); (· array_get_dec))
  | ((with_reducible apply Ev.iteB); (· array_get_dec); (· (intro _; array_get_dec)); (· (intro _; array_get_dec)))
  | ((with_reducible apply Ev.iteI); (· array_get_dec); (· (intro _; array_get_dec)); (· (intro _; array_get_dec)))
  | ((with_reducible apply Ev.iteC); (· array_get_dec); (· (intro _; array_get_dec)); (· (intro _; array_get_dec)))
  | ((with_reducible apply Ev.iteT); (· array_get_dec); (· (intro _; array_get_dec)); (· (intro _; array_get_dec)))
  | ((with_reducible apply EvI.tx); (· array_get_dec); (· decreasing_trivial))
  | ((with_reducible apply EvI.ls); (· array_get_dec); (· decreasing_trivial))
  | ((with_reducible apply EvI.lo); (· array_get_dec); (· decreasing_trivial))
  | ((with_reducible apply EvI.tu); (· array_get_dec); (· decreasing_trivial))
  | ((with_reducible apply EvI.etx); (· array_get_dec); (· decreasing_trivial))
  | ((with_reducible apply EvI.els); (· array_get_dec); (· decreasing_trivial))
  | ((with_reducible apply EvI.rz1); (· array_get_dec); (· rfl); (· decreasing_trivial); (· decreasing_trivial))
  | ((with_reducible apply EvI.rz2); (· array_get_dec); (· array_get_dec); (· rfl); (· rfl); all_goals decreasing_trivial)
  | ((with_reducible apply Ev.comp); (· array_get_dec); (· decreasing_trivial); (· rfl); (· rfl); (· exact fun _ => rfl); (· (intro _ _; array_get_dec)))
  | ((with_reducible apply Ev.compIf); (· rfl); (· array_get_dec); (· decreasing_trivial); (· rfl); (· rfl); (· exact fun _ => rfl); (· (intro _ _; array_get_dec)); (· (intro _ _ _; array_get_dec)))
  | ((with_reducible apply Ev.lkS); (· rfl); (· array_get_dec); (· assumption))
  | ((with_reducible apply Ev.lkR); (· rfl); (· array_get_dec); (· assumption))
  | ((with_reducible apply Ev.lkM); (· rfl); (· array_get_dec); (· assumption))
  | ((with_reducible apply Ev.lkI); (· array_get_dec); (· array_get_dec); (· array_get_dec); (· rfl); (· rfl); (· rfl); (· assumption); all_goals decreasing_trivial)
  | ((with_reducible apply Ev.fvX); (· array_get_dec); (· ((with_reducible apply_assumption) <;> decreasing_trivial))))
local macro_rules | `(tactic| decreasing_trivial_pre_omega) => `(tactic| (dsimp only [List.map, R.d, dV, sh1]; first
  | with_reducible exact sem_gt | with_reducible exact sem_ge | with_reducible exact sem_lt | with_reducible exact sem_le
  | with_reducible exact sem_inS | with_reducible exact sem_ninS | with_reducible exact sem_eqI | with_reducible exact sem_neI | with_reducible exact sem_eqB | with_reducible exact sem_neB | with_reducible exact sem_isB | with_reducible exact sem_nisB | with_reducible exact sem_reprB
  | with_reducible exact sem_eqCC | with_reducible exact sem_neCC | with_reducible exact sem_eqS | with_reducible exact sem_neS | with_reducible exact sem_eqX | with_reducible exact sem_neX | with_reducible exact sem_addI | with_reducible exact sem_subI | with_reducible exact sem_lenL | with_reducible exact sem_lenT
  | with_reducible exact sem_intB | with_reducible exact sem_max2 | with_reducible exact sem_min2 | with_reducible exact mt_countS | with_reducible exact sem_all | with_reducible exact sem_any | with_reducible exact sem_sum
  | with_reducible exact fld_s | with_reducible exact fld_r | with_reducible exact fld_m | with_reducible exact isc_lk | with_reducible exact is_strS | with_reducible exact is_intI | with_reducible exact is_boolI | with_reducible exact is_lstL | with_reducible exact is_tupT | with_reducible exact is_ltL | with_reducible exact is_ltT | with_reducible exact is_dicD
  | ((with_reducible refine sem_isI ?_); first | rfl | decreasing_trivial)
  | ((with_reducible refine sem_intF ?_); decreasing_trivial)
  | ((with_reducible refine sem_lenS ?_); decreasing_trivial)
  | ((with_reducible refine sem_addS ?_); decreasing_trivial)
  | ((with_reducible refine sem_addL ?_); decreasing_trivial)
  | ((with_reducible refine sem_slS ?_ ?_) <;> decreasing_trivial)
  | ((with_reducible refine sem_slS2 ?_ ?_) <;> decreasing_trivial)
  | ((with_reducible refine sem_slS3 ?_ ?_ ?_) <;> decreasing_trivial)
  | ((with_reducible refine sem_slL ?_) <;> decreasing_trivial)
  | ((with_reducible refine sem_slL2 ?_) <;> decreasing_trivial)
  | ((with_reducible refine sem_slL3 ?_ ?_) <;> decreasing_trivial)
  | ((with_reducible refine sem_idxSg ?_ ?_ ?_) <;> decreasing_trivial)
  | ((with_reducible refine sem_idxWs ?_ ?_) <;> decreasing_trivial)
  | ((with_reducible refine sem_idxCs ?_ ?_) <;> decreasing_trivial)
  | ((with_reducible refine sem_strD ?_ ?_) <;> decreasing_trivial)
  | rfl))
def flagsFit (s : Int) (w : List Nat) : Bool := (w.all fun c => !decide ((if decide (c ∈ ABC) then s else 1) < (w.count c : Int))) && ((w.zipIdx.filter fun p => decide (p.1 ∈ FIG)).all fun p => decide ((p.1 : Int) - 48 ≤ (p.2 : Nat)))
def flownB (s r m : Int) (w : List Nat) : Bool := wordy (ABC ++ FIG.take r.toNat) m w && flagsFit s w
def wordOf (w : List Nat) : List Nat := w.foldl (fun f c => f ++ [if decide (c ∈ ABC) then c else f.getD (c - 49) 0]) []
/-- digits stand low enough -/
def okW (w : List Nat) : Prop := ∀ i c, w[i]? = some c → c ∈ ABC ∨ (c ∈ FIG ∧ c - 48 ≤ i)
section
variable {tab : List DT} {n : Nat}
@[reducible] def PNeed (Φ : FT) : Prop := ∀ s r m, Fv Φ "need_locker" [lkD s r m] (.sh .non)
theorem PNeed.of (h : findT tab "need_locker" = some need_lockerT) : PNeed (PT tab (n + 1)) := fun s r m => fv_of h rfl rfl (by
  refine Wp.if1 (t := !true) ?_ (fun z => nomatch z) fun _ => Wp.nil rfl
  array_get_dec)
@[reducible] def PRep (Φ : FT) : Prop := ∀ s r m, 0 ≤ r → Fv Φ "repeaters_of" [lkD s r m] (rS (FIG.take r.toNat))
theorem PRep.of (h : findT tab "repeaters_of" = some repeaters_ofT) (S : PLr (PT tab n)) : PRep (PT tab (n + 1)) := fun s r m hr => fv_of h rfl rfl (by
  apply Wp.retE
  · array_get_dec
  · rfl)
@[reducible] def PFit (Φ : FT) : Prop := ∀ s r m w, w.length ≤ 5000 → Fv Φ "flags_fit" [lkD s r m, dS w] (rB (flagsFit s w))
theorem PFit.of (h : findT tab "flags_fit" = some flags_fitT) (S : PLs (PT tab n)) : PFit (PT tab (n + 1)) := fun s r m w hw => fv_of h rfl rfl (by
  refine Wp.forV (enc := dC) (l := w) (fun done e => (∀ c, c ∈ done → (!decide ((if decide (c ∈ ABC) then s else 1) < (w.count c : Int))) = true) ∧ ∃ b, e = [some (.sh (lkD s r m)), some (rS w), b, none] ∧ (b = none ∨ ∃ x, b = some (.sh x))) (by array_get_dec) ⟨fun _ z => (nomatch z), none, rfl, .inl rfl⟩ ?_ ?_
  · rintro done c rest e hl ⟨hd, b, rfl, _⟩
    refine ⟨_, rfl, ?_⟩
    dsimp only [List.set]
    apply Wp.if1
    · array_get_dec
    · intro ht
      refine Wp.retV (v := rB false) (by array_get_dec) ?_
      show rB false = rB (flagsFit s w)
      have e : flagsFit s w = false := by
        unfold flagsFit
        rw [Bool.and_eq_false_iff]
        left
        rw [List.all_eq_false]
        exact ⟨c, by rw [hl]; simp, by rw [ht]; decide⟩
      rw [e]
    · intro hf
      refine Wp.nil ⟨fun x hx => ?_, _, rfl, .inr ⟨_, rfl⟩⟩
      rcases List.mem_append.mp hx with hx | hx
      · exact hd x hx
      · rw [List.mem_singleton.mp hx, hf] <;> rfl
  · rintro e ⟨hd, b, rfl, hb⟩
    have e : flagsFit s w = ((w.zipIdx.filter fun p => decide (p.1 ∈ FIG)).all fun p => decide ((p.1 : Int) - 48 ≤ (p.2 : Nat))) := by
      unfold flagsFit
      rw [show (w.all fun c => !decide ((if decide (c ∈ ABC) then s else 1) < (w.count c : Int))) = true from List.all_eq_true.mpr hd, Bool.true_and]
    rw [e]
    rcases hb with rfl | ⟨x, rfl⟩
    all_goals
      apply Wp.retE
      · array_get_dec
      · rfl)
@[reducible] def PFlown (Φ : FT) : Prop := ∀ s r m w, 0 ≤ r → w.length ≤ 5000 → Fv Φ "is_flown" [lkD s r m, dS w] (rB (flownB s r m w))
theorem take9 {r : Nat} : (FIG.take r).length ≤ 9 := by rw [List.length_take]; exact Nat.min_le_right _ _
theorem abf_len {r : Nat} : (ABC ++ FIG.take r).length ≤ 5000 := by
  rw [List.length_append]
  have := take9 (r := r)
  show 26 + _ ≤ _
  omega
theorem abf_lim {r : Nat} : ABC.length + (FIG.take r).length ≤ LIM := by
  have := take9 (r := r)
  unfold LIM
  show 26 + _ ≤ _
  omega
theorem PFlown.of (h : findT tab "is_flown" = some is_flownT) (S1 : PMadeS (PT tab n)) (S2 : PFit (PT tab n)) (S3 : PRep (PT tab n)) (S4 : PLm (PT tab n)) : PFlown (PT tab (n + 1)) := fun s r m w hr hw => fv_of h rfl rfl (by
  have l1 := abf_lim (r := r.toNat)
  have l2 := abf_len (r := r.toNat)
  apply Wp.retE
  · array_get_dec
  · rfl)
@[reducible] def PHoist (Φ : FT) : Prop := ∀ s r m w, 0 ≤ r → w.length ≤ 5000 → Fv Φ "is_hoist" [lkD s r m, dS w] (rB (flownB s r m w))
theorem PHoist.of (h : findT tab "is_hoist" = some is_hoistT) (S1 : PNeed (PT tab n)) (S2 : PFlown (PT tab n)) : PHoist (PT tab (n + 1)) := fun s r m w hr hw => fv_of h rfl rfl (by
  refine Wp.expr (We.of (r := .sh .non) (by array_get_dec) ?_)
  apply Wp.retE
  · array_get_dec
  · rfl)
theorem wordOf_snoc (w : List Nat) (c : Nat) : wordOf (w ++ [c]) = wordOf w ++ [if decide (c ∈ ABC) then c else (wordOf w).getD (c - 49) 0] := by
  unfold wordOf
  rw [List.foldl_append] <;> rfl
theorem wordOf_len (w : List Nat) : (wordOf w).length = w.length := by
  have key : ∀ (w f : List Nat), (w.foldl (fun f c => f ++ [if decide (c ∈ ABC) then c else f.getD (c - 49) 0]) f).length = f.length + w.length := by
    intro w
    induction w with
    | nil => intro f; rfl
    | cons c w ih =>
      intro f
      rw [List.foldl_cons, ih, List.length_append, List.length_cons, List.length_cons, List.length_nil]
      omega
  have := key w []
  rw [List.length_nil, Nat.zero_add] at this
  exact this
@[reducible] def PWordOf (Φ : FT) : Prop := ∀ w, okW w → w.length ≤ 5000 → Fv Φ "word_of" [dS w] (rS (wordOf w))
theorem PWordOf.of (h : findT tab "word_of" = some word_ofT) : PWordOf (PT tab (n + 1)) := fun w ok hw => fv_of h rfl rfl (by
  refine Wp.asgV (by array_get_dec) (Wp.at_env (e := [_, _, _]) ?_ rfl)
  refine Wp.forV (enc := dC) (l := w) (fun done e => ∃ b, e = [some (rS w), some (rS (wordOf done)), b]) (by array_get_dec) ⟨_, rfl⟩ ?_ ?_
  · rintro done c rest e hl ⟨b, rfl⟩
    refine ⟨_, rfl, ?_⟩
    dsimp only [List.set]
    have hc := ok done.length c (by rw [hl, List.getElem?_append_right (Nat.le_refl _), Nat.sub_self] <;> rfl)
    have hlen := wordOf_len done
    have hl2 : done.length + 1 ≤ w.length := by rw [hl, List.length_append, List.length_cons]; omega
    refine Wp.asgV (v := rS (wordOf (done ++ [c]))) ?_ (Wp.nil ⟨_, rfl⟩)
    rw [wordOf_snoc]
    have l1 : (wordOf done).length + 1 ≤ LIM := by unfold LIM; omega
    have l2 : (wordOf done).length + [if decide (c ∈ ABC) then c else (wordOf done).getD (c - 49) 0].length ≤ LIM := l1
    refine Ev.frzX (r := rS _) ?_ rfl
    with_reducible apply Ev.prX
    · with_reducible apply EvA.consX
      · array_get_dec
      · with_reducible apply EvA.consX
        · with_reducible apply Ev.iteC
          · array_get_dec
          · intro _
            array_get_dec
          · intro hf
            have hc2 : c ∈ FIG ∧ c - 48 ≤ done.length := by
              rcases hc with hc | hc
              · rw [decide_eq_true hc] at hf; cases hf
              · exact hc
            have h49 : 49 ≤ c ∧ c ≤ 57 := by
              have := hc2.1
              simp only [List.mem_cons, List.not_mem_nil, or_false] at this
              omega
            have hm := hc2.1
            with_reducible apply Ev.prX
            · array_get_dec
            · refine sem_idxS (c := (wordOf done).getD (c - 49) 0) (by decreasing_trivial) ?_
              rw [atI_int (by omega) (by rw [hlen]; omega)]
              rw [List.getD_eq_getElem?_getD, List.getElem?_eq_getElem (by rw [hlen]; omega)]
              have : (((c : Int) - 48) - 1).toNat = c - 49 := by omega
              simp only [this, Option.getD_some]
            · rfl
        · array_get_dec
        · rfl
      · rfl
    · decreasing_trivial_pre_omega
    · rfl
  · rintro e ⟨b, rfl⟩
    exact Wp.retE (by array_get_dec) rfl)
end
end Gl
set_option Elab.async false
set_option linter.all false
set_option maxRecDepth 100000
set_option maxHeartbeats 4000000
namespace Gl
open PySem PySem.Spec PyProof.Rows L2 FH
section
variable {tab : List DT} {n : Nat}
/-! ### cells -/
theorem SCell.of {a b : Int} (h : findT tab "_law_cell" = some (x_law_cellT a b)) : SCell (PT tab (n + 1)) := fun ns k hk => by
  have key := fv_ex (ds := [.scr ns, .int k]) (P := fun r => ∃ v : Int, r = rZ v) h rfl rfl (n := n) (by
    refine Wp.if1 (t := decide ((k : Int) < ns.length)) ?_ (fun ht => ?_) fun _ => ?_
    · exact Ev.prim (EvA.cons rfl (Ev.var rfl) (EvA.cons rfl (Ev.prim (EvA.cons rfl (Ev.var rfl) EvA.nil) rfl rfl) EvA.nil)) rfl rfl
    · have ht' : (k : Int) < ns.length := of_decide_eq_true ht
      refine Wp.retV (v := rZ (ns[k]'(by omega))) (Ev.prim (EvA.cons rfl (Ev.var rfl) (EvA.cons rfl (Ev.var rfl) EvA.nil)) ?_ rfl) ⟨_, _, rfl, _, rfl⟩
      show mopt ((atI ns (k : Int)).map .int) = _
      rw [atI_nat' (by omega)] <;> rfl
    · refine Wp.retV (Ev.prim (EvA.cons rfl (Ev.prim (EvA.cons rfl Ev.lit (EvA.cons rfl (Ev.var rfl) EvA.nil)) (r := rZ (b * k)) ?_ rfl) (EvA.cons rfl Ev.lit EvA.nil)) rfl rfl) ⟨_, _, rfl, _, rfl⟩
      exact sem_mulC (.inr ⟨by omega, by omega⟩))
  obtain ⟨r, e, v, rfl⟩ := key
  exact ⟨v, e⟩
theorem SBox.of (h : findT tab "_law_box" = some x_law_boxT) : SBox (PT tab (n + 1)) := fun c => by
  refine ⟨.ow (.lst none [.int (if c - 10 ^ (18 : Int).toNat > 0 then c - 10 ^ (18 : Int).toNat else 0), .int (c % 2147483629), .int 0]), fv_of h rfl rfl ?_, _, _, _, rfl, Int.emod_nonneg _ (by decide), ?_, Int.le_refl 0, by decide⟩
  · refine Wp.retV (Ev.lst (rs := [rZ _, rZ _, rZ _]) (EvN.cons rfl ?_ (EvN.cons rfl ?_ (EvN.cons rfl Ev.lit EvN.nil)))) rfl
    · refine Ev.prim (EvA.cons rfl Ev.lit (EvA.cons rfl (Ev.prim (EvA.cons rfl (Ev.var rfl) (EvA.cons rfl (Ev.prim (EvA.cons rfl Ev.lit (EvA.cons rfl Ev.lit EvA.nil)) (r := rZ (10 ^ (18 : Int).toNat)) ?_ rfl) EvA.nil)) rfl rfl) EvA.nil)) rfl rfl
      exact sem_pow (by decide) (by decide) (by decide)
    · exact Ev.prim (EvA.cons rfl (Ev.var rfl) (EvA.cons rfl Ev.lit EvA.nil)) (sem_mod (by decide)) rfl
  · have := Int.emod_lt_of_pos c (show (0 : Int) < 2147483629 by decide)
    omega
end
abbrev bx (a b c : Int) : R := .ow (.lst none [.int a, .int b, .int c])
theorem at_envS {Φ : FT} {r : FH.S} {X : Str → FH.D → Prop} {e e' : En} {Q : Out → Prop} (h : wS Φ r X e' Q) (q : e = e') : wS Φ r X e Q := by rw [q]; exact h
theorem take_ok {Φ : FT} {X : Str → FH.D → Prop} {k a b c many : Int} {K : R × List (Option R) → Prop} (k0 : 0 ≤ k) (k1 : k < 1000) (h1 : 0 < many) (h2 : many < 1073741824) (h3 : 0 ≤ b) (h4 : b < 2147483648) (h5 : 0 ≤ c) (h6 : c < 1000000)
    (hK : ∀ v a' c', 0 ≤ v → v < many → 0 ≤ c' → c' ≤ c + 1 → K (.sh (.int v), [some (bx a' b c'), none])) : OkM (dG Φ 5 2 [0] (x_law_takeB k) [bx a b c, .sh (.int many)]) K X := by
  refine okIf rfl ?_
  show OkM (runF Φ 5 [0] (x_law_takeB k) [bx a b c, .sh (.int many)]) K X
  refine runF_ok (K := fun r o => K (r, o)) ?_
  refine Exists.intro _ (And.intro rfl ?_)
  refine And.intro (fun h => ?_) (fun h => ?_)
  · refine Exists.intro _ (And.intro rfl ?_)
    refine And.intro h1 ?_
    refine at_envS (e' := [some (.ow (.lst _ [.int _, .int _, .int _])), some (.sh (.int _)), none, none, some (.sh (.int _))]) ?_ rfl
    refine Exists.intro _ (And.intro rfl ?_)
    refine And.intro ⟨h1, h2⟩ ?_
    refine Exists.intro _ (And.intro rfl ?_)
    refine at_envS (e' := [some (.ow (.lst _ [.int _, .int _, .int _])), some (.sh (.int _)), none, none, some (.sh (.int _))]) ?_ rfl
    exact hK (a % many) (a / many) c (Int.emod_nonneg _ (by omega)) (Int.emod_lt_of_pos _ h1) h5 (by omega)
  · refine at_envS (e' := [some (.ow (.lst _ [.int _, .int _, .int _])), some (.sh (.int _)), none, none, none]) ?_ rfl
    refine Exists.intro _ (And.intro rfl ?_)
    refine Exists.intro _ (And.intro rfl ?_)
    refine at_envS (e' := [some (.ow (.lst _ [.int _, .int _, .int _])), some (.sh (.int _)), none, none, none]) ?_ rfl
    refine Exists.intro _ (And.intro rfl ?_)
    refine Exists.intro _ (And.intro rfl ?_)
    refine And.intro (by simp [small]) ?_
    refine And.intro (show _ ∧ _ ∧ (b + 7919 * (c + 1) + k).natAbs < 2 ^ 64 from ⟨by decide, by decide, by omega⟩) ?_
    refine And.intro (show (0 : Int) < 2147483647 by decide) ?_
    refine at_envS (e' := [some (.ow (.lst _ [.int _, .int _, .int _])), some (.sh (.int _)), some (.sh (.int _)), none, none]) ?_ rfl
    generalize hu : (b + 7919 * (c + 1) + k) ^ Int.toNat 5 % 2147483647 = u
    have hu0 : 0 ≤ u := by rw [← hu]; exact Int.emod_nonneg _ (by decide)
    have hu1 : u < 2147483647 := by rw [← hu]; exact Int.emod_lt_of_pos _ (by decide)
    clear hu
    refine And.intro ⟨by decide, by decide⟩ ?_
    refine Exists.intro _ (And.intro rfl ?_)
    refine And.intro (by simp [small]) ?_
    refine Exists.intro _ (And.intro rfl ?_)
    refine And.intro (show (small (104729 * (c + 1)) || small (c + 1)) = true by simp [small]; omega) ?_
    refine And.intro (show _ ∧ _ ∧ (u / 8 + 104729 * (c + 1) * (c + 1) + 11).natAbs < 2 ^ 64 from ⟨by decide, by decide, ?_⟩) ?_
    · have e1 : 104729 * (c + 1) * (c + 1) ≤ 104729 * 1000000 * 1000000 := Int.mul_le_mul (by omega) (by omega) (by omega) (by omega)
      have e2 : 0 ≤ 104729 * (c + 1) * (c + 1) := Int.mul_nonneg (by omega) (by omega)
      generalize 104729 * (c + 1) * (c + 1) = z at e1 e2
      omega
    refine And.intro (show (0 : Int) < 2147483587 by decide) ?_
    refine at_envS (e' := [some (.ow (.lst _ [.int _, .int _, .int _])), some (.sh (.int _)), some (.sh (.int _)), some (.sh (.int _)), none]) ?_ rfl
    generalize (u / 8 + 104729 * (c + 1) * (c + 1) + 11) ^ Int.toNat 3 % 2147483587 = w
    refine And.intro ⟨by decide, by decide⟩ ?_
    refine And.intro ⟨by decide, by decide⟩ ?_
    refine And.intro (by simp [small]) ?_
    refine And.intro h1 ?_
    exact hK ((u / 4 + 536870909 * (w / 4)) % many) a (c + 1) (Int.emod_nonneg _ (by omega)) (Int.emod_lt_of_pos _ h1) (by omega) (by omega)
theorem STake.of {tab : List DT} {n : Nat} {k : Int} (h : findT tab "_law_take" = some (x_law_takeT k)) (k0 : 0 ≤ k) (k1 : k < 1000) : STake (PT tab (n + 1)) := by
  intro m r many hb h0 h1
  obtain ⟨a, b, c, rfl, b0, b1, c0, c1⟩ := hb
  refine ?_
  have key : ∀ q : R, q.d = .int many → OkM (dG (PT tab n) 5 2 [0] (x_law_takeB k) [bx a b c, q]) (fun z => ∃ v r', z = (rZ v, [some r', none]) ∧ 0 ≤ v ∧ v < many ∧ Bx m r') NoX := fun q hq => by
    have e : dG (PT tab n) 5 2 [0] (x_law_takeB k) [bx a b c, q] = dG (PT tab n) 5 2 [0] (x_law_takeB k) [bx a b c, .sh (.int many)] := by
      show (if _ then runF _ _ _ _ [bx a b c, .sh q.d] else _) = _
      rw [hq] <;> rfl
    rw [e]
    exact take_ok k0 k1 h0 h1 b0 b1 c0 (by omega) fun v a' c' v0 v1 d0 d1 => ⟨v, _, rfl, v0, v1, a', b, c', rfl, b0, b1, d0, by omega⟩
  obtain ⟨z, e, v, r', rfl, v0, v1, br⟩ := okM_ex (key (.sh (.int many)) rfl)
  refine ⟨v, r', ⟨_, PT_eq h, fun rs hr => ?_⟩, v0, v1, br⟩
  have hq : ∃ q, rs = [q] ∧ q.d = .int many := by
    cases rs with
    | nil => cases hr
    | cons q r => cases r with
      | nil => exact ⟨q, rfl, List.singleton_inj.mp hr⟩
      | cons a b => simp at hr
  obtain ⟨q, rfl, hq⟩ := hq
  refine ⟨_, Eq.trans ?_ e⟩
  show (if _ then runF _ _ _ _ [bx a b c, .sh q.d] else _) = _
  rw [hq] <;> rfl
theorem atI_mem {α : Type} {xs : List α} {v : Int} (h0 : 0 ≤ v) (h1 : v < (xs.length : Int)) : ∃ d, atI xs v = some d ∧ d ∈ xs := ⟨_, atI_int h0 h1, List.getElem_mem _⟩
/-- letters alone -/
def Lw (w : List Nat) : Prop := ∀ c, c ∈ w → c ∈ ABC
def SLWord (Φ : FT) : Prop := ∀ n r (m : Nat), Bx (n + 50) r → 1 ≤ m → m ≤ 40 → ∃ w r', Fo Φ "_law_word" r [.int m] (rS w) r' ∧ w ≠ [] ∧ w.length ≤ m ∧ Lw w ∧ Bx n r'
theorem SLWord.of {tab : List DT} {n : Nat} (h : findT tab "_law_word" = some x_law_wordT) (S : STake (PT tab n)) : SLWord (PT tab (n + 1)) := by
  intro m r k hb k1 k2
  have key := fo_ex (r := r) (ds := [.int k]) (P := fun q r' => ∃ w, q = rS w ∧ w ≠ [] ∧ w.length ≤ k ∧ Lw w ∧ Bx m r') h rfl rfl (n := n) (by
    refine Wp.unp (We.frz (We.tup (Wa.cons (We.take S (i := 0) (n := m + 49) rfl hb rfl Ev.lit (by decide) (by decide) fun v1 r1 v10 v11 b1 => ?_))))
    refine Wa.cons (We.primN rfl (Wa.consV (Ev.lst (EvN.cons rfl Ev.lit (EvN.cons rfl Ev.lit (EvN.cons rfl Ev.lit (EvN.cons rfl Ev.lit (EvN.cons rfl Ev.lit (EvN.cons rfl Ev.lit EvN.nil))))))) (Wa.cons (We.take S (i := 0) (n := m + 48) rfl b1 rfl Ev.lit (by decide) (by decide) fun v2 r2 v20 v21 b2 => Wa.nil ?_))))
    have pick : ∃ s : Int, atI [FH.D.int 1, .int 2, .int 3, .int 4, .int 7, .int 26] v2 = some (.int s) ∧ 1 ≤ s ∧ s ≤ 26 := by
      obtain ⟨d, d1, d2⟩ := atI_mem (xs := [FH.D.int 1, .int 2, .int 3, .int 4, .int 7, .int 26]) v20 v21
      simp only [List.mem_cons, List.not_mem_nil, or_false] at d2
      rcases d2 with rfl | rfl | rfl | rfl | rfl | rfl <;> exact ⟨_, d1, by decide, by decide⟩
    obtain ⟨sp, s1, s2, s3⟩ := pick
    refine ⟨rZ sp, sem_idxL s1, rfl, Wa.nil ⟨_, _, rfl, rfl, ?_⟩⟩
    refine Wp.at_env (e := [some r2, some (rZ k), none, some (rZ v1), some (rZ sp), none]) ?_ rfl
    refine Wp.asg (We.primN rfl (Wa.cons (We.lst (Wa.cons (We.primN rfl (Wa.lit (Wa.cons (We.take S (i := 0) (n := m + 47) rfl b2 rfl (Ev.var rfl) (by omega) (by omega) fun v3 r3 v30 v31 b3 => Wa.nil ⟨_, rfl, rfl, ?_⟩))))))))
    refine Wa.cons (We.primN rfl (Wa.lit (Wa.cons (We.take S (i := 0) (n := m + 46) (many := if 5 < (k : Int) then 5 else k) rfl b3 rfl (Ev.prim (EvA.cons rfl (Ev.var rfl) (EvA.cons rfl Ev.lit EvA.nil)) rfl rfl) (by split <;> omega) (by split <;> omega) fun v4 r4 v40 v41 b4 => Wa.nil ⟨_, rfl, rfl, ?_⟩))))
    refine Wa.consV (Ev.var rfl) (Wa.nil (Wa.cons (We.take S (i := 0) (n := m + 45) rfl b4 rfl Ev.lit (by decide) (by decide) fun v5 r5 v50 v51 b5 => Wa.nil ?_)))
    have pick : ∃ j : Nat, atI [FH.D.int (1 + v3), .int (1 + v4), .int k] v5 = some (.int j) ∧ 1 ≤ j ∧ j ≤ k := by
      obtain ⟨d, d1, d2⟩ := atI_mem (xs := [FH.D.int (1 + v3), .int (1 + v4), .int k]) v50 v51
      simp only [List.mem_cons, List.not_mem_nil, or_false] at d2
      rcases d2 with rfl | rfl | rfl
      · exact ⟨(1 + v3).toNat, by rw [d1]; congr 2; omega, by omega, by omega⟩
      · refine ⟨(1 + v4).toNat, by rw [d1]; congr 2; omega, by omega, ?_⟩
        split at v41 <;> omega
      · exact ⟨k, d1, k1, Nat.le_refl _⟩
    obtain ⟨j, j1, j2, j3⟩ := pick
    refine ⟨rZ j, sem_idxL j1, rfl, ?_⟩
    refine Wp.at_env (e := [some r5, some (rZ k), some (rZ j), some (rZ v1), some (rZ sp), none]) ?_ rfl
    refine Wp.ret (We.mth (We.of Ev.lit ⟨rfl, Wa.cons (We.comp (enc := fun i : Nat => FH.D.int (0 + (i : Int))) (l := List.range j) (fun done ys e => ∃ (w : List Nat) (r' : R), ys = w.map dC ∧ w.length = done.length ∧ Lw w ∧ e = [some r', some (rZ k), some (rZ j), some (rZ v1), some (rZ sp), none] ∧ Bx (m + (45 - done.length)) r') ?_ ?_)⟩))
    · refine We.of (Ev.of (EvI.rng1 (n := j) (EvN.cons rfl (Ev.var rfl) EvN.nil) (by unfold LIM; omega) (by unfold LIM; omega)) rfl) ⟨?_, ?_, ?_, ?_⟩
      · show R.sh (.lst none (rngD 0 j)) = _
        unfold rngD
        rw [show ((j : Int) - 0).toNat = j by omega]
      · rw [List.length_range]; unfold LIM; omega
      · exact ⟨[], r5, rfl, rfl, (fun _ h => nomatch h), rfl, b5⟩
      · rintro ys e2 ⟨w, r', rfl, w1, w2, rfl, b6⟩
        rw [List.length_range] at w1 b6
        have fl : (w.map fun c => [c]).flatten = w := by
          clear w1 w2
          induction w with
          | nil => rfl
          | cons a w ih => rw [List.map_cons, List.flatten_cons, ih] <;> rfl
        refine Wa.nil ⟨rS w, ?_, rfl, _, r', _, rfl, rfl, w, rfl, ?_, by omega, w2, b6.le (by omega)⟩
        · have := mt_joinS (t := none) (f := fun c : Nat => [c]) (l := w) (by rw [fl]; unfold LIM; omega)
          rw [fl] at this
          exact this
        · intro e
          rw [e] at w1
          simp at w1
          omega
    · rintro done a rst ys e hl ⟨w, r', rfl, w1, w2, rfl, b6⟩
      have hd : done.length < j := by
        have := congrArg List.length hl
        rw [List.length_range, List.length_append, List.length_cons] at this
        omega
      refine ⟨_, rfl, We.primN rfl (Wa.consV (Ev.lit) (Wa.cons (We.primN rfl (Wa.cons (We.primN rfl (Wa.consV (Ev.var rfl) (Wa.cons (We.primN rfl (Wa.lit (Wa.cons (We.take S (i := 0) (n := m + (45 - (done.length + 1))) rfl (b6.le (by omega)) rfl (Ev.var rfl) (by omega) (by omega) fun v r7 v0 v1' b7 => Wa.nil ⟨_, sem_mulC (.inl ⟨by decide, by decide⟩), rfl, Wa.nil ⟨_, rfl, rfl, Wa.lit (Wa.nil ?_)⟩⟩)))))))))))⟩
      refine ⟨_, sem_mod (by decide), rfl, Wa.nil ?_⟩
      generalize hz : (v1 + 5 * v) % 26 = z
      have z0 : 0 ≤ z := by rw [← hz]; exact Int.emod_nonneg _ (by decide)
      have z1 : z < 26 := by rw [← hz]; exact Int.emod_lt_of_pos _ (by decide)
      obtain ⟨c, c1, c2⟩ := atI_mem (xs := ABC) z0 z1
      refine ⟨_, sem_idxS (by decide) c1, rfl, w ++ [c], r7, ?_, ?_, ?_, rfl, ?_⟩
      · rw [List.map_append] <;> rfl
      · rw [List.length_append, List.length_append, w1] <;> rfl
      · intro x hx
        rcases List.mem_append.mp hx with y | y
        · exact w2 x y
        · rw [List.mem_singleton.mp y]; exact c2
      · rw [List.length_append]; exact b7)
  obtain ⟨q, r', h1, w, rfl, h2, h3, h4, h5⟩ := key
  exact ⟨w, r', h1, h2, h3, h4, h5⟩
end Gl
namespace FH
open PySem PySem.Spec PyProof.Rows L2
section
variable {Φ : FT} {env : En} {X : Str → D → Prop} {K : R → En → Prop}
theorem We.varF {i : Nat} {r : R} (h : env[i]? = some (some r)) (k : K (sh1 r) (env.set i (some (sh1 r)))) : We Φ (.var i) X env K := by
  refine OkM.of (a := (sh1 r, env.set i (some (sh1 r)))) ?_ k
  show one1 ((getS env i).bind _) = _
  unfold getS
  rw [h] <;> rfl
theorem We.srng1 {es : T} (h : Wa Φ es X env fun rs e1 => ∃ n : Int, rs.map R.d = [.int n] ∧ -LIM ≤ n ∧ n ≤ LIM ∧ K (.sh (.lst none (rngD 0 n))) e1) : We Φ (.srng es) X env K := by
  unfold We
  show OkM (one1 ((ev Φ es env).bind _)) _ _
  rw [one1_bind]
  refine OkM.bind (OkM.imp h fun a q => ?_)
  obtain ⟨n, h1, h2, h3, h4⟩ := q
  simp only [h1]
  show OkM (one1 (if -LIM ≤ n ∧ n ≤ LIM then _ else _)) _ _
  rw [if_pos ⟨h2, h3⟩]
  show OkM (one1 (if (rngD 0 n).length ≤ LIM then _ else _)) _ _
  rw [if_pos (by rw [rngD_length]; omega)]
  exact h4
theorem We.compE {own : List (Str × Nat)} {elt src : T} {tg : Tg} (hs : We Φ src X env fun r e1 => ∃ (xs : List D) (I : List D → List D → En → Prop), r = .sh (.lst none xs) ∧ xs.length ≤ LIM ∧ I [] [] (wipeE e1 (own.map (·.2))) ∧
      (∀ done a rest ys e, xs = done ++ a :: rest → I done ys e → ∃ e1, setT tg a e = .ok e1 ∧ We Φ elt NoX e1 fun r e2 => I (done ++ [a]) (ys ++ [r.d]) (wipeE e2 (own.map (·.2)))) ∧
      ∀ ys e2, I xs ys e2 → K (.ow (.lst none ys)) (restore (own.map (·.2)) e1 e2)) : We Φ (.comp own elt tg src .nil) X env K := by
  have hs' : OkM (one1 (ev Φ src env)) _ X := hs
  cases h : one1 (ev Φ src env) with
  | no => rw [h] at hs'; exact hs'.elim
  | ex c d =>
    rw [h] at hs'
    unfold We
    show OkM (one1 ((one1 (ev Φ src env)).bind _)) _ _
    rw [h]
    exact hs'
  | ok a =>
    rw [h] at hs'
    obtain ⟨xs, I, h1, h2, h3, h4, h5⟩ := hs'
    refine We.comp (enc := fun d => d) (l := xs) I ?_ h4
    refine OkM.of (a := a) h ⟨?_, h2, h3, h5⟩
    rw [List.map_id']
    exact h1
end
end FH
namespace Gl
open PySem PySem.Spec PyProof.Rows L2 FH
def Yes (P : FH.D) : Out → Prop := fun o => ∃ e, o = .rt (.sh P) e
theorem turns {Φ : FT} {ns : List Int} {env : En} {a b : Int} (ha : 0 ≤ a) (hb : 0 ≤ b) (ha2 : a ≤ 100) (hb2 : b ≤ 100) (h : env[0]? = some (some (.sh (.scr ns)))) : ∃ j : Nat, (j : Int) ≤ max a b ∧
    EvI Φ (.srng (.cons (.prim (.fn .max2) (.cons (.lit (.int a)) (.cons (.prim (.fn .min2) (.cons (.lit (.int b)) (.cons (.prim (.fn .len) (.cons (.var 0) .nil)) .nil))) .nil))) .nil)) env ((List.range j).map fun i : Nat => FH.D.int (0 + (i : Int))) := by
  have hmn : ∃ j : Nat, (j : Int) ≤ max a b ∧ (if (if (ns.length : Int) < b then (ns.length : Int) else b) > a then (if (ns.length : Int) < b then (ns.length : Int) else b) else a) = j := by
    refine ⟨(if (if (ns.length : Int) < b then (ns.length : Int) else b) > a then (if (ns.length : Int) < b then (ns.length : Int) else b) else a).toNat, ?_, ?_⟩
    · split <;> split <;> omega
    · split <;> split <;> omega
  obtain ⟨j, j1, j2⟩ := hmn
  refine ⟨j, j1, ?_⟩
  have jm : (j : Int) ≤ 100 := by omega
  have := EvI.rng1 (Φ := Φ) (n := j) (env := env) (EvN.cons (e := .prim (.fn .max2) (.cons (.lit (.int a)) (.cons (.prim (.fn .min2) (.cons (.lit (.int b)) (.cons (.prim (.fn .len) (.cons (.var 0) .nil)) .nil))) .nil))) rfl (Ev.prim (EvA.cons rfl Ev.lit (EvA.cons rfl (Ev.prim (EvA.cons rfl Ev.lit (EvA.cons rfl (Ev.prim (EvA.cons rfl (Ev.var h) EvA.nil) rfl rfl) EvA.nil)) (r := rZ (if (ns.length : Int) < b then (ns.length : Int) else b)) rfl rfl) EvA.nil)) (r := rZ j) ?_ rfl) EvN.nil) (by unfold LIM; omega) (by unfold LIM; omega)
  · unfold rngD at this
    rw [show ((j : Int) - 0).toNat = j by omega] at this
    exact this
  · show mi (if (if (ns.length : Int) < b then (ns.length : Int) else b) > a then (if (ns.length : Int) < b then (ns.length : Int) else b) else a) = _
    rw [j2] <;> rfl
theorem pick3 {a b c : Int} {v : Int} (h0 : 0 ≤ v) (h1 : v < 3) : ∃ k : Int, atI [FH.D.int a, .int b, .int c] v = some (.int k) ∧ (k = a ∨ k = b ∨ k = c) := by
  obtain ⟨d, d1, d2⟩ := atI_mem (xs := [FH.D.int a, .int b, .int c]) h0 h1
  simp only [List.mem_cons, List.not_mem_nil, or_false] at d2
  rcases d2 with rfl | rfl | rfl
  · exact ⟨_, d1, .inl rfl⟩
  · exact ⟨_, d1, .inr (.inl rfl)⟩
  · exact ⟨_, d1, .inr (.inr rfl)⟩
theorem shw_word {w : List Nat} (h : Lw w) : shw (dS w) = true := by
  show PyData.strOk (cS w) = true
  unfold PyData.strOk
  rw [Array.all_eq_true']
  intro c hc
  have := h c (Array.mem_toList_iff.mpr hc)
  simp only [List.mem_cons, List.not_mem_nil, or_false] at this
  simp
  omega
theorem log_small {n : Nat} (h : n ≤ 1000) : n.log2 < 1920 := by
  by_cases h0 : n = 0
  · rw [h0]; decide
  · rw [Nat.log2_lt h0]
    exact Nat.lt_of_le_of_lt h (Nat.lt_of_lt_of_le (show 1000 < 2 ^ 10 by decide) (Nat.pow_le_pow_right (by decide) (by decide)))
end Gl
set_option Elab.async false
set_option linter.all false
set_option maxRecDepth 100000
set_option maxHeartbeats 4000000
namespace Gl
open PySem PySem.Spec PyProof.Rows L2 FH
local macro_rules | `(tactic| decreasing_trivial) => `(tactic| first | assumption | exact of_decide_eq_true (by assumption) | rfl | omega | (unfold LIM; omega) | (simp only [cS_len, List.length_map, List.length_range, List.length_zipIdx, List.length_append, List.length_cons, List.length_nil, LIM]; omega) | (simp only [List.mem_range] at *; omega) | decide)
local macro_rules | `(tactic| array_get_dec) => `(tactic| first
  | with_reducible exact Ev.litI | with_reducible exact Ev.litT | with_reducible exact Ev.litB | with_reducible exact Ev.litN | with_reducible exact Ev.glbI | with_reducible exact Ev.glbT | ((with_reducible apply Ev.var); rfl)
  | with_reducible exact EvA.nil | with_reducible exact EvN.nil | with_reducible exact EvD.nil
  | ((with_reducible apply EvA.consX); (· array_get_dec); (· array_get_dec); (· rfl))
  | ((with_reducible apply EvN.consX); (· array_get_dec); (· array_get_dec); (· rfl))
  | ((with_reducible apply EvD.consX); (· array_get_dec); (· array_get_dec); (· rfl); (· rfl))
  | ((with_reducible apply EvA.mv); (· rfl); (· array_get_dec); (· decide))
  | ((with_reducible apply Ev.one); array_get_dec) | ((with_reducible apply Ev.not); array_get_dec) | ((with_reducible apply Ev.frzX); (· array_get_dec); (· rfl))
  | ((with_reducible apply Ev.and); (· array_get_dec); (· (intro _; array_get_dec)))
  | ((with_reducible apply Ev.or); (· array_get_dec); (· (intro _; array_get_dec)))
  | ((with_reducible apply Ev.lst); array_get_dec) | ((with_reducible apply Ev.tup); array_get_dec)
  | ((with_reducible apply Ev.prX); (· array_get_dec); (· decreasing_trivial_pre_omega); (· rfl))
  | ((with_reducible apply Ev.mtX); (· array_get_dec); (· array_get_dec); (· rfl); (· rfl); (· decreasing_trivial_pre_omega); (· rfl))
  | ((with_reducible apply Ev.chLL); (· array_get_dec); (· array_get_dec); (· array_get_dec))
  | ((with_reducible apply Ev.chlL); (· array_get_dec); (· array_get_dec); (· array_get_dec))
  | ((with_reducible apply Ev.chLl); (· array_get_dec); (· array_get_dec); (· array_get_dec))
  | ((with_reducible apply Ev.chll); (· array_get_dec); (· array_get_dec); (· array_get_dec))
  | ((with_reducible apply Ev.iteB); (· array_get_dec); (· (intro _; array_get_dec)); (· (intro _; array_get_dec)))
  | ((with_reducible apply Ev.iteI); (· array_get_dec); (· (intro _; array_get_dec)); (· (intro _; array_get_dec)))
  | ((with_reducible apply Ev.iteC); (· array_get_dec); (· (intro _; array_get_dec)); (· (intro _; array_get_dec)))
  | ((with_reducible apply Ev.iteT); (· array_get_dec); (· (intro _; array_get_dec)); (· (intro _; array_get_dec)))
  | ((with_reducible apply EvI.tx); (· array_get_dec); (· decreasing_trivial))
  | ((with_reducible apply EvI.ls); (· array_get_dec); (· decreasing_trivial))
  | ((with_reducible apply EvI.lo); (· array_get_dec); (· decreasing_trivial))
  | ((with_reducible apply EvI.tu); (· array_get_dec); (· decreasing_trivial))
  | ((with_reducible apply EvI.etx); (· array_get_dec); (· decreasing_trivial))
  | ((with_reducible apply EvI.els); (· array_get_dec); (· decreasing_trivial))
  | ((with_reducible apply EvI.rz1); (· array_get_dec); (· rfl); (· decreasing_trivial); (· decreasing_trivial))
  | ((with_reducible apply EvI.rz2); (· array_get_dec); (· array_get_dec); (· rfl); (· rfl); all_goals decreasing_trivial)
  | ((with_reducible apply Ev.comp); (· array_get_dec); (· decreasing_trivial); (· rfl); (· rfl); (· exact fun _ => rfl); (· (intro _ _; array_get_dec)))
  | ((with_reducible apply Ev.compIf); (· rfl); (· array_get_dec); (· decreasing_trivial); (· rfl); (· rfl); (· exact fun _ => rfl); (· (intro _ _; array_get_dec)); (· (intro _ _ _; array_get_dec)))
  | ((with_reducible apply Ev.lkS); (· rfl); (· array_get_dec); (· assumption))
  | ((with_reducible apply Ev.lkR); (· rfl); (· array_get_dec); (· assumption))
  | ((with_reducible apply Ev.lkM); (· rfl); (· array_get_dec); (· assumption))
  | ((with_reducible apply Ev.lkI); (· array_get_dec); (· array_get_dec); (· array_get_dec); (· rfl); (· rfl); (· rfl); (· assumption); all_goals decreasing_trivial)
  | ((with_reducible apply Ev.fvX); (· array_get_dec); (· ((with_reducible apply_assumption) <;> decreasing_trivial))))
local macro_rules | `(tactic| decreasing_trivial_pre_omega) => `(tactic| (dsimp only [List.map, R.d, dV, sh1]; first
  | with_reducible exact sem_gt | with_reducible exact sem_ge | with_reducible exact sem_lt | with_reducible exact sem_le
  | with_reducible exact sem_inS | with_reducible exact sem_ninS | with_reducible exact sem_eqI | with_reducible exact sem_neI | with_reducible exact sem_eqB | with_reducible exact sem_neB | with_reducible exact sem_isB | with_reducible exact sem_nisB | with_reducible exact sem_reprB
  | with_reducible exact sem_eqCC | with_reducible exact sem_neCC | with_reducible exact sem_eqS | with_reducible exact sem_neS | with_reducible exact sem_eqX | with_reducible exact sem_neX | with_reducible exact sem_addI | with_reducible exact sem_subI | with_reducible exact sem_lenL | with_reducible exact sem_lenT
  | with_reducible exact sem_intB | with_reducible exact sem_max2 | with_reducible exact sem_min2 | with_reducible exact mt_countS | with_reducible exact sem_all | with_reducible exact sem_any | with_reducible exact sem_sum
  | with_reducible exact fld_s | with_reducible exact fld_r | with_reducible exact fld_m | with_reducible exact isc_lk | with_reducible exact is_strS | with_reducible exact is_intI | with_reducible exact is_boolI | with_reducible exact is_lstL | with_reducible exact is_tupT | with_reducible exact is_ltL | with_reducible exact is_ltT | with_reducible exact is_dicD
  | ((with_reducible refine sem_isI ?_); first | rfl | decreasing_trivial)
  | ((with_reducible refine sem_intF ?_); decreasing_trivial)
  | ((with_reducible refine sem_lenS ?_); decreasing_trivial)
  | ((with_reducible refine sem_addS ?_); decreasing_trivial)
  | ((with_reducible refine sem_addL ?_); decreasing_trivial)
  | ((with_reducible refine sem_slS ?_ ?_) <;> decreasing_trivial)
  | ((with_reducible refine sem_slS2 ?_ ?_) <;> decreasing_trivial)
  | ((with_reducible refine sem_slS3 ?_ ?_ ?_) <;> decreasing_trivial)
  | ((with_reducible refine sem_slL ?_) <;> decreasing_trivial)
  | ((with_reducible refine sem_slL2 ?_) <;> decreasing_trivial)
  | ((with_reducible refine sem_slL3 ?_ ?_) <;> decreasing_trivial)
  | ((with_reducible refine sem_idxSg ?_ ?_ ?_) <;> decreasing_trivial)
  | ((with_reducible refine sem_idxWs ?_ ?_) <;> decreasing_trivial)
  | ((with_reducible refine sem_idxCs ?_ ?_) <;> decreasing_trivial)
  | ((with_reducible refine sem_strD ?_ ?_) <;> decreasing_trivial)
  | rfl))
theorem mem_zipIdx {w : List Nat} {i c : Nat} (h : w[i]? = some c) : (c, i) ∈ w.zipIdx := by
  rw [List.mem_zipIdx_iff_getElem?]
  exact h
theorem fig_ge {c : Nat} (h : c ∈ FIG) : 49 ≤ c ∧ c ≤ 57 := by
  simp only [List.mem_cons, List.not_mem_nil, or_false] at h
  omega
theorem abc_ge {c : Nat} (h : c ∈ ABC) : 97 ≤ c ∧ c ≤ 122 := by
  simp only [List.mem_cons, List.not_mem_nil, or_false] at h
  omega
theorem abc_mem {c : Nat} (h1 : 97 ≤ c) (h2 : c ≤ 122) : c ∈ ABC := by
  simp only [List.mem_cons, List.not_mem_nil, or_false]
  omega
theorem fig_mem {c : Nat} (h1 : 49 ≤ c) (h2 : c ≤ 57) : c ∈ FIG := by
  simp only [List.mem_cons, List.not_mem_nil, or_false]
  omega
theorem flown_ok {s r m : Int} {w : List Nat} (h : flownB s r m w = true) : okW w := by
  intro i c hc
  unfold flownB wordy flagsFit at h
  simp only [Bool.and_eq_true, List.all_eq_true, decide_eq_true_eq] at h
  obtain ⟨⟨_, h1⟩, _, h2⟩ := h
  have hm := h1 c (List.mem_of_getElem? hc)
  rcases List.mem_append.mp hm with hm | hm
  · exact .inl hm
  · have hf : c ∈ FIG := List.mem_of_mem_take hm
    have h3 := h2 (c, i) (List.mem_filter.mpr ⟨mem_zipIdx hc, decide_eq_true hf⟩)
    have := fig_ge hf
    refine .inr ⟨hf, ?_⟩
    simp only at h3
    omega
section
variable {tab : List DT} {n : Nat}
@[reducible] def PShown (Φ : FT) : Prop := ∀ s r m w, 0 ≤ r → w.length ≤ 5000 → flownB s r m w = true → Fv Φ "shown" [lkD s r m, dS w] (rS (wordOf w))
theorem PShown.of (h : findT tab "shown" = some shownT) (S1 : PNeed (PT tab n)) (S2 : PFlown (PT tab n)) (S3 : PWordOf (PT tab n)) : PShown (PT tab (n + 1)) := fun s r m w hr hw hf => fv_of h rfl rfl (by
  have ok := flown_ok hf
  refine Wp.expr (We.of (r := .sh .non) (by array_get_dec) ?_)
  refine Wp.if1 (t := false) ?_ (fun z => nomatch z) fun _ => ?_
  · rw [show false = !(flownB s r m w) by rw [hf] <;> rfl]
    array_get_dec
  apply Wp.retE
  · array_get_dec
  · rfl)
/-! ### the law's checks -/
def badF (s r : Int) (w : List Nat) (p : Nat × Nat) : Bool := !(decide (p.1 ∈ ABC ++ FIG.take r.toNat)) || ((decide (p.1 ∈ FIG) && (decide ((p.2 : Int) < (p.1 : Int) - 48) || decide (1 < (w.count p.1 : Int)))) || decide (max s 1 < (w.count p.1 : Int)))
def hoistV (s r m : Int) (w : List Nat) : Bool := (decide (0 < (w.length : Int)) && decide ((w.length : Int) ≤ m)) && !(w.zipIdx.any (badF s r w))
@[reducible] def PIsHoist (Φ : FT) : Prop := ∀ t s r m w, 0 ≤ r → w.length ≤ 5000 → Fv Φ "_law_is_hoist" [.lst t [.int s, .int r, .int m], dS w] (rB (hoistV s r m w))
theorem PIsHoist.of (h : findT tab "_law_is_hoist" = some x_law_is_hoistT) : PIsHoist (PT tab (n + 1)) := fun t s r m w hr hw => fv_of h rfl rfl (by
  have l1 := abf_lim (r := r.toNat)
  refine Wp.unp (We.of (Ev.var rfl) ⟨_, _, rfl, rfl, ?_⟩)
  refine Wp.at_env (e := [_, _, _, _, _, _, _]) ?_ rfl
  apply Wp.if1
  · array_get_dec
  · intro ht
    refine Wp.retV (v := rB false) (by array_get_dec) ?_
    show rB false = rB (hoistV s r m w)
    have : hoistV s r m w = false := by
      unfold hoistV
      have ht' : (!(decide (0 < (w.length : Int)) && decide ((w.length : Int) ≤ m))) = true := ht
      rw [show (decide (0 < (w.length : Int)) && decide ((w.length : Int) ≤ m)) = false from (Bool.not_eq_true' _).mp ht', Bool.false_and]
    rw [this]
  intro hf
  have hf' : (decide (0 < (w.length : Int)) && decide ((w.length : Int) ≤ m)) = true := by
    have : (!(decide (0 < (w.length : Int)) && decide ((w.length : Int) ≤ m))) = false := hf
    rw [Bool.not_eq_false'] at this; exact this
  refine Wp.forV (enc := fun p : Nat × Nat => FH.D.tup [.int (p.2 : Nat), dC p.1]) (l := w.zipIdx) (fun done e => (∀ p, p ∈ done → badF s r w p = false) ∧ ∃ a b, e = [some (.sh (.lst t [.int s, .int r, .int m])), some (rS w), some (rZ s), some (rZ r), some (rZ m), a, b]) (by array_get_dec) ⟨fun _ z => (nomatch z), _, _, rfl⟩ ?_ ?_
  · rintro done p rest e hl ⟨hd, a, b, rfl⟩
    refine ⟨_, rfl, Wp.at_env (e := [_, _, _, _, _, some (.sh (.int (p.2 : Nat))), some (.sh (dC p.1))]) ?_ rfl⟩
    have bad : badF s r w p = true → hoistV s r m w = false := fun hb => by
      unfold hoistV
      rw [show w.zipIdx.any (badF s r w) = true from List.any_eq_true.mpr ⟨p, by rw [hl]; simp, hb⟩]
      rw [Bool.not_true, Bool.and_false]
    apply Wp.if1
    · array_get_dec
    · intro ht
      refine Wp.retV (v := rB false) (by array_get_dec) ?_
      show rB false = rB (hoistV s r m w)
      rw [bad (by unfold badF; rw [show (!(decide (p.1 ∈ ABC ++ FIG.take r.toNat))) = true from ht, Bool.true_or])]
    intro h1
    apply Wp.if1
    · array_get_dec
    · intro ht
      refine Wp.retV (v := rB false) (by array_get_dec) ?_
      show rB false = rB (hoistV s r m w)
      rw [bad (by unfold badF; rw [ht, Bool.or_true])]
    intro h2
    refine Wp.nil ⟨fun q hq => ?_, _, _, rfl⟩
    rcases List.mem_append.mp hq with hq | hq
    · exact hd q hq
    · rw [List.mem_singleton.mp hq]
      unfold badF
      rw [show (!(decide (p.1 ∈ ABC ++ FIG.take r.toNat))) = false from h1, Bool.false_or]
      exact h2
  · rintro e ⟨hd, a, b, rfl⟩
    apply Wp.retE
    · array_get_dec
    · have : hoistV s r m w = true := by
        unfold hoistV
        rw [hf', show w.zipIdx.any (badF s r w) = false from List.any_eq_false.mpr fun q hq => by rw [hd q hq]; decide] <;> rfl
      rw [this])
@[reducible] def PLShown (Φ : FT) : Prop := ∀ w, okW w → w.length ≤ 5000 → Fv Φ "_law_shown" [dS w] (rS (wordOf w))
theorem find_fig {c : Nat} (h : c ∈ FIG) : Txt.find (cS FIG) (cS [c]) = (c : Int) - 49 := by
  simp only [List.mem_cons, List.not_mem_nil, or_false] at h
  rcases h with rfl | rfl | rfl | rfl | rfl | rfl | rfl | rfl | rfl <;> decide +kernel
theorem PLShown.of (h : findT tab "_law_shown" = some x_law_shownT) : PLShown (PT tab (n + 1)) := fun w ok hw => fv_of h rfl rfl (by
  refine Wp.asgV (by array_get_dec) (Wp.at_env (e := [_, _, _]) ?_ rfl)
  refine Wp.forV (enc := dC) (l := w) (fun done e => ∃ b, e = [some (rS w), some (rS (wordOf done)), b]) (by array_get_dec) ⟨_, rfl⟩ ?_ ?_
  · rintro done c rest e hl ⟨b, rfl⟩
    refine ⟨_, rfl, ?_⟩
    dsimp only [List.set]
    have hc := ok done.length c (by rw [hl, List.getElem?_append_right (Nat.le_refl _), Nat.sub_self] <;> rfl)
    have hlen := wordOf_len done
    have hl2 : done.length + 1 ≤ w.length := by rw [hl, List.length_append, List.length_cons]; omega
    refine Wp.asgV (v := rS (wordOf (done ++ [c]))) ?_ (Wp.nil ⟨_, rfl⟩)
    have sw : (if decide (c ∈ ABC) then c else (wordOf done).getD (c - 49) 0) = if decide (c ∈ FIG) then (wordOf done).getD (c - 49) 0 else c := by
      rcases hc with hc | hc
      · have h1 := abc_ge hc
        have h2 : ¬ c ∈ FIG := fun z => by have := fig_ge z; omega
        rw [decide_eq_true hc, decide_eq_false h2] <;> rfl
      · have h1 := fig_ge hc.1
        have h2 : ¬ c ∈ ABC := fun z => by have := abc_ge z; omega
        rw [decide_eq_true hc.1, decide_eq_false h2] <;> rfl
    rw [wordOf_snoc, sw]
    have l1 : (wordOf done).length + 1 ≤ LIM := by unfold LIM; omega
    have l2 : (wordOf done).length + [if decide (c ∈ FIG) then (wordOf done).getD (c - 49) 0 else c].length ≤ LIM := l1
    refine Ev.frzX (r := rS _) ?_ rfl
    with_reducible apply Ev.prX
    · with_reducible apply EvA.consX
      · array_get_dec
      · with_reducible apply EvA.consX
        · with_reducible apply Ev.iteC
          · array_get_dec
          · intro hf
            have hm : c ∈ FIG := of_decide_eq_true hf
            have h49 := fig_ge hm
            have hc2 : c - 48 ≤ done.length := by
              rcases hc with hc | hc
              · have := abc_ge hc; omega
              · exact hc.2
            with_reducible apply Ev.prX
            · with_reducible apply EvA.consX
              · array_get_dec
              · with_reducible apply EvA.consX
                · refine Ev.mtX (r := rS FIG) (rs := [.sh (dC c)]) (q := rZ ((c : Int) - 49)) ?_ ?_ rfl rfl ?_ rfl
                  · array_get_dec
                  · array_get_dec
                  · show mi (Txt.find (cS FIG) (cS [c])) = _
                    rw [find_fig hm] <;> rfl
                · array_get_dec
                · rfl
              · rfl
            · refine sem_idxS (c := (wordOf done).getD (c - 49) 0) (by decreasing_trivial) ?_
              rw [atI_int (by omega) (by rw [hlen]; omega)]
              rw [List.getD_eq_getElem?_getD, List.getElem?_eq_getElem (by rw [hlen]; omega)]
              have : ((c : Int) - 49).toNat = c - 49 := by omega
              simp only [this, Option.getD_some]
            · rfl
          · intro _
            array_get_dec
        · array_get_dec
        · rfl
      · rfl
    · decreasing_trivial_pre_omega
    · rfl
  · rintro e ⟨b, rfl⟩
    exact Wp.retE (by array_get_dec) rfl)
end
/-- the law's check is the program's -/
theorem hoistV_eq {s r m : Int} {w : List Nat} (h1 : 1 ≤ s) : hoistV s r m w = flownB s r m w := by
  rw [Bool.eq_iff_iff]
  unfold hoistV flownB wordy flagsFit badF
  simp only [Bool.and_eq_true, List.all_eq_true, decide_eq_true_eq, Bool.not_eq_true', List.any_eq_false, Bool.or_eq_true, not_or, not_and, decide_eq_false_iff_not, Decidable.not_not, List.mem_filter, and_imp, Bool.decide_eq_true]
  have mx : max s 1 = s := by omega
  rw [mx]
  constructor
  · rintro ⟨⟨a1, a2⟩, a3⟩
    refine ⟨⟨⟨by omega, a2⟩, fun c hc => ?_⟩, fun c hc => ?_, fun p hp hf => ?_⟩
    · obtain ⟨i, hi⟩ := List.getElem?_of_mem hc
      exact (a3 (c, i) (mem_zipIdx hi)).1
    · obtain ⟨i, hi⟩ := List.getElem?_of_mem hc
      obtain ⟨b1, b2, b3⟩ := a3 (c, i) (mem_zipIdx hi)
      simp only at b1 b2 b3
      rcases List.mem_append.mp b1 with b | b
      · rw [if_pos b]; exact b3
      · have hf : c ∈ FIG := List.mem_of_mem_take b
        have h2 : ¬ c ∈ ABC := fun z => by have := abc_ge z; have := fig_ge hf; omega
        rw [if_neg h2]
        exact (b2 hf).2
    · have := ((a3 p hp).2.1 hf).1
      omega
  · rintro ⟨⟨⟨a1, a2⟩, a3⟩, a4, a5⟩
    refine ⟨⟨by omega, a2⟩, fun p hp => ?_⟩
    have hi : w[p.2]? = some p.1 := by
      have := List.mem_zipIdx_iff_getElem?.mp hp
      exact this
    have hm := List.mem_of_getElem? hi
    refine ⟨a3 _ hm, fun hf => ?_, ?_⟩
    · have h2 : ¬ p.1 ∈ ABC := fun z => by have := abc_ge z; have := fig_ge hf; omega
      have := a4 _ hm
      rw [if_neg h2] at this
      have := a5 p hp hf
      exact ⟨by omega, by assumption⟩
    · have := a4 _ hm
      split at this
      · exact this
      · omega
end Gl
set_option Elab.async false
set_option linter.all false
set_option maxRecDepth 100000
set_option maxHeartbeats 4000000
namespace Gl
open PySem PySem.Spec PyProof.Rows L2 FH
local macro_rules | `(tactic| decreasing_trivial) => `(tactic| first | assumption | exact of_decide_eq_true (by assumption) | rfl | omega | (unfold LIM; omega) | (simp only [cS_len, List.length_map, List.length_range, List.length_zipIdx, List.length_append, List.length_cons, List.length_nil, LIM]; omega) | (simp only [List.mem_range] at *; omega) | decide)
local macro_rules | `(tactic| array_get_dec) => `(tactic| first
  | with_reducible exact Ev.litI | with_reducible exact Ev.litT | with_reducible exact Ev.litB | with_reducible exact Ev.litN | with_reducible exact Ev.glbI | with_reducible exact Ev.glbT | ((with_reducible apply Ev.var); rfl)
  | with_reducible exact EvA.nil | with_reducible exact EvN.nil | with_reducible exact EvD.nil
  | ((with_reducible apply EvA.consX); (· array_get_dec); (· array_get_dec); (· rfl))
  | ((with_reducible apply EvN.consX); (· array_get_dec); (· array_get_dec); (· rfl))
  | ((with_reducible apply EvD.consX); (· array_get_dec); (· array_get_dec); (· rfl); (· rfl))
  | ((with_reducible apply EvA.mv); (· rfl); (· array_get_dec); (· decide))
  | ((with_reducible apply Ev.one); array_get_dec) | ((with_reducible apply Ev.not); array_get_dec) | ((with_reducible apply Ev.frzX); (· array_get_dec); (· rfl))
  | ((with_reducible apply Ev.and); (· array_get_dec); (· (intro _; array_get_dec)))
  | ((with_reducible apply Ev.or); (· array_get_dec); (· (intro _; array_get_dec)))
  | ((with_reducible apply Ev.lst); array_get_dec) | ((with_reducible apply Ev.tup); array_get_dec)
  | ((with_reducible apply Ev.prX); (· array_get_dec); (· decreasing_trivial_pre_omega); (· rfl))
  | ((with_reducible apply Ev.mtX); (· array_get_dec); (· array_get_dec); (· rfl); (· rfl); (· decreasing_trivial_pre_omega); (· rfl))
  | ((with_reducible apply Ev.chLL); (· array_get_dec); (· array_get_dec); (· array_get_dec))
  | ((with_reducible apply Ev.chlL); (· array_get_dec); (· array_get_dec); (· array_get_dec))
  | ((with_reducible apply Ev.chLl); (· array_get_dec); (· array_get_dec); (· array_get_dec))
  | ((with_reducible apply Ev.chll); (· array_get_dec); (· array_get_dec); (· array_get_dec))
  | ((with_reducible apply Ev.iteB); (· array_get_dec); (· (intro _; array_get_dec)); (· (intro _; array_get_dec)))
  | ((with_reducible apply Ev.iteI); (· array_get_dec); (· (intro _; array_get_dec)); (· (intro _; array_get_dec)))
  | ((with_reducible apply Ev.iteC); (· array_get_dec); (· (intro _; array_get_dec)); (· (intro _; array_get_dec)))
  | ((with_reducible apply Ev.iteT); (· array_get_dec); (· (intro _; array_get_dec)); (· (intro _; array_get_dec)))
  | ((with_reducible apply EvI.tx); (· array_get_dec); (· decreasing_trivial))
  | ((with_reducible apply EvI.ls); (· array_get_dec); (· decreasing_trivial))
  | ((with_reducible apply EvI.lo); (· array_get_dec); (· decreasing_trivial))
  | ((with_reducible apply EvI.tu); (· array_get_dec); (· decreasing_trivial))
  | ((with_reducible apply EvI.etx); (· array_get_dec); (· decreasing_trivial))
  | ((with_reducible apply EvI.els); (· array_get_dec); (· decreasing_trivial))
  | ((with_reducible apply EvI.rz1); (· array_get_dec); (· rfl); (· decreasing_trivial); (· decreasing_trivial))
  | ((with_reducible apply EvI.rz2); (· array_get_dec); (· array_get_dec); (· rfl); (· rfl); all_goals decreasing_trivial)
  | ((with_reducible apply Ev.comp); (· array_get_dec); (· decreasing_trivial); (· rfl); (· rfl); (· exact fun _ => rfl); (· (intro _ _; array_get_dec)))
  | ((with_reducible apply Ev.compIf); (· rfl); (· array_get_dec); (· decreasing_trivial); (· rfl); (· rfl); (· exact fun _ => rfl); (· (intro _ _; array_get_dec)); (· (intro _ _ _; array_get_dec)))
  | ((with_reducible apply Ev.lkS); (· rfl); (· array_get_dec); (· assumption))
  | ((with_reducible apply Ev.lkR); (· rfl); (· array_get_dec); (· assumption))
  | ((with_reducible apply Ev.lkM); (· rfl); (· array_get_dec); (· assumption))
  | ((with_reducible apply Ev.lkI); (· array_get_dec); (· array_get_dec); (· array_get_dec); (· rfl); (· rfl); (· rfl); (· assumption); all_goals decreasing_trivial)
  | ((with_reducible apply Ev.fvX); (· array_get_dec); (· ((with_reducible apply_assumption) <;> decreasing_trivial))))
local macro_rules | `(tactic| decreasing_trivial_pre_omega) => `(tactic| (dsimp only [List.map, R.d, dV, sh1]; first
  | with_reducible exact sem_gt | with_reducible exact sem_ge | with_reducible exact sem_lt | with_reducible exact sem_le
  | with_reducible exact sem_inS | with_reducible exact sem_ninS | with_reducible exact sem_eqI | with_reducible exact sem_neI | with_reducible exact sem_eqB | with_reducible exact sem_neB | with_reducible exact sem_isB | with_reducible exact sem_nisB | with_reducible exact sem_reprB
  | with_reducible exact sem_eqCC | with_reducible exact sem_neCC | with_reducible exact sem_eqS | with_reducible exact sem_neS | with_reducible exact sem_eqX | with_reducible exact sem_neX | with_reducible exact sem_addI | with_reducible exact sem_subI | with_reducible exact sem_lenL | with_reducible exact sem_lenT
  | with_reducible exact sem_intB | with_reducible exact sem_max2 | with_reducible exact sem_min2 | with_reducible exact mt_countS | with_reducible exact sem_all | with_reducible exact sem_any | with_reducible exact sem_sum
  | with_reducible exact fld_s | with_reducible exact fld_r | with_reducible exact fld_m | with_reducible exact isc_lk | with_reducible exact is_strS | with_reducible exact is_intI | with_reducible exact is_boolI | with_reducible exact is_lstL | with_reducible exact is_tupT | with_reducible exact is_ltL | with_reducible exact is_ltT | with_reducible exact is_dicD
  | ((with_reducible refine sem_isI ?_); first | rfl | decreasing_trivial)
  | ((with_reducible refine sem_intF ?_); decreasing_trivial)
  | ((with_reducible refine sem_lenS ?_); decreasing_trivial)
  | ((with_reducible refine sem_addS ?_); decreasing_trivial)
  | ((with_reducible refine sem_addL ?_); decreasing_trivial)
  | ((with_reducible refine sem_slS ?_ ?_) <;> decreasing_trivial)
  | ((with_reducible refine sem_slS2 ?_ ?_) <;> decreasing_trivial)
  | ((with_reducible refine sem_slS3 ?_ ?_ ?_) <;> decreasing_trivial)
  | ((with_reducible refine sem_slL ?_) <;> decreasing_trivial)
  | ((with_reducible refine sem_slL2 ?_) <;> decreasing_trivial)
  | ((with_reducible refine sem_slL3 ?_ ?_) <;> decreasing_trivial)
  | ((with_reducible refine sem_idxSg ?_ ?_ ?_) <;> decreasing_trivial)
  | ((with_reducible refine sem_idxWs ?_ ?_) <;> decreasing_trivial)
  | ((with_reducible refine sem_idxCs ?_ ?_) <;> decreasing_trivial)
  | ((with_reducible refine sem_strD ?_ ?_) <;> decreasing_trivial)
  | rfl))
/-- flags f stand for the word w -/
def Laid (w f : List Nat) : Prop := f.length ≤ w.length ∧ ∀ i c, f[i]? = some c → (w[i]? = some c ∧ c ∈ ABC) ∨ (c ∈ FIG ∧ c - 48 ≤ i ∧ w[c - 49]? = w[i]? ∧ c ∉ f.take i)
theorem Laid.snoc {w f : List Nat} {c : Nat} (h : Laid w f) (hl : f.length < w.length) (k : (w[f.length]? = some c ∧ c ∈ ABC) ∨ (c ∈ FIG ∧ c - 48 ≤ f.length ∧ w[c - 49]? = w[f.length]? ∧ c ∉ f)) : Laid w (f ++ [c]) := by
  refine ⟨by rw [List.length_append, List.length_singleton]; omega, fun i x hx => ?_⟩
  by_cases hi : i < f.length
  · rw [List.getElem?_append_left hi] at hx
    rcases h.2 i x hx with q | ⟨q1, q2, q3, q4⟩
    · exact .inl q
    · exact .inr ⟨q1, q2, q3, by rw [List.take_append_of_le_length (by omega)]; exact q4⟩
  · have hi2 : i = f.length := by
      have := (List.getElem?_eq_some_iff.mp hx).1
      rw [List.length_append, List.length_singleton] at this
      omega
    subst hi2
    rw [List.getElem?_append_right (Nat.le_refl _), Nat.sub_self] at hx
    cases hx
    rcases k with q | ⟨q1, q2, q3, q4⟩
    · exact .inl q
    · exact .inr ⟨q1, q2, q3, by rw [List.take_append_of_le_length (Nat.le_refl _), List.take_length]; exact q4⟩
section
variable {tab : List DT} {n : Nat}
def SLaid (Φ : FT) : Prop := ∀ m r w, Bx (m + 80) r → w.length ≤ 40 → Lw w → ∃ f r', Fo Φ "_law_laid" r [dS w] (rS f) r' ∧ f.length = w.length ∧ Laid w f ∧ Bx m r'
theorem sem_neC {s t : Option Addr} {l : List Nat} (h : ∀ c, c ∈ l → c < 1114112) : P.sem (.cmp .NotEq) [.lst s (l.map dC), .lst t []] = .ok (rB (!decide (l = []))) := by
  have := sem_neQ (a := .lst s (l.map dC)) (b := .lst t (([] : List Nat).map dC)) (shw_cs h) rfl (Nat.le_trans (dpt_row (k := 0) fun _ _ => Nat.le_refl _) (by decide)) (by show 0 + 1 ≤ 40; decide)
  rw [eqQ_cs] at this
  exact this
theorem SLaid.of (h : findT tab "_law_laid" = some x_law_laidT) (S : STake (PT tab n)) : SLaid (PT tab (n + 1)) := by
  intro m r w hb hw hl
  have key := fo_ex (r := r) (ds := [dS w]) (P := fun q r' => ∃ f, q = rS f ∧ f.length = w.length ∧ Laid w f ∧ Bx m r') h rfl rfl (n := n) (by
    refine Wp.asgV (by array_get_dec) (Wp.at_env (e := [_, _, _, _, _, _, _]) ?_ rfl)
    refine Wp.forV (enc := fun p : Nat × Nat => FH.D.tup [.int (p.2 : Nat), dC p.1]) (l := w.zipIdx) (fun done e => ∃ f r' a b c, e = [some r', some (rS w), some (rS f), a, b, c, none] ∧ f.length = done.length ∧ Laid w f ∧ Bx (m + (80 - 2 * done.length)) r') (by array_get_dec) ⟨[], r, _, _, _, rfl, rfl, ⟨Nat.zero_le _, fun i c z => by simp at z⟩, hb⟩ ?_ ?_
    · rintro done p rest e he ⟨f, r', a, b, c, rfl, hf, lf, bf⟩
      have hd : done.length < w.length := by
        have := congrArg List.length he
        rw [List.length_zipIdx, List.length_append, List.length_cons] at this
        omega
      have hp : p.2 = done.length ∧ w[p.2]? = some p.1 := by
        have h1 : w.zipIdx[done.length]? = some p := by rw [he, List.getElem?_append_right (Nat.le_refl _), Nat.sub_self] <;> rfl
        have h2 := h1
        rw [List.getElem?_zipIdx] at h2
        cases hq : w[done.length]? with
        | none => rw [hq] at h2; cases h2
        | some x =>
          rw [hq] at h2
          cases h2
          exact ⟨by simp, by simpa using hq⟩
      obtain ⟨hp1, hp2⟩ := hp
      have hABC : p.1 ∈ ABC := hl _ (List.mem_of_getElem? hp2)
      refine ⟨_, rfl, Wp.at_env (e := [_, _, _, some (.sh (.int (p.2 : Nat))), some (.sh (dC p.1)), _, _]) ?_ rfl⟩
      have hsome : ∃ q : Nat → Bool, Ev (FH.PT tab n) (.frz (.comp [("k", 6)] (.prim (.fn .str) (.cons (.var 6) .nil)) (.nm 6) (.srng (.cons (.lit (.int 1)) (.cons (.prim (.bin .Add) (.cons (.prim (.fn .min2) (.cons (.var 3) (.cons (.lit (.int 9)) .nil))) (.cons (.lit (.int 1)) .nil))) .nil))) (.and (.prim (.cmp .Eq) (.cons (.prim .idx (.cons (.var 1) (.cons (.prim (.bin .Sub) (.cons (.var 6) (.cons (.lit (.int 1)) .nil))) .nil))) (.cons (.var 4) .nil))) (.one (.prim (.cmp .NotIn) (.cons (.prim (.fn .str) (.cons (.var 6) .nil)) (.cons (.var 2) .nil)))))))
          [some r', some (rS w), some (rS f), some (.sh (.int (p.2 : Nat))), some (.sh (dC p.1)), c, none] (.sh (.lst none ((((List.range (min (p.2 : Int) 9 + 1 - 1).toNat).filter q).map fun k => k + 49).map dC))) ∧ ∀ k, k < (min (p.2 : Int) 9 + 1 - 1).toNat → q k = true → w.getD k 0 = p.1 ∧ (k + 49) ∉ f := by
        refine ⟨fun k => decide (w.getD ((1 + (k : Int)) - 1).toNat 0 = p.1) && !decide (((1 + (k : Int)).toNat + 48) ∈ f), ?_, fun k hk hq => ?_⟩
        · have : ((((List.range (min (p.2 : Int) 9 + 1 - 1).toNat).filter fun k : Nat => decide (w.getD ((1 + (k : Int)) - 1).toNat 0 = p.1) && !decide (((1 + (k : Int)).toNat + 48) ∈ f)).map fun k => k + 49).map dC) = (((List.range (min (p.2 : Int) 9 + 1 - 1).toNat).filter fun k : Nat => decide (w.getD ((1 + (k : Int)) - 1).toNat 0 = p.1) && !decide (((1 + (k : Int)).toNat + 48) ∈ f)).map fun k : Nat => dC ((1 + (k : Int)).toNat + 48)) := by
            rw [List.map_map]
            refine List.map_congr_left fun k _ => ?_
            show dC (k + 49) = dC _
            rw [show (1 + (k : Int)).toNat + 48 = k + 49 by omega]
          rw [this]
          have l3 : w.length ≤ LIM := by unfold LIM; omega
          apply Ev.of
          · array_get_dec
          · rfl
        · simp only [Bool.and_eq_true, decide_eq_true_eq, Bool.not_eq_true', decide_eq_false_iff_not] at hq
          rw [show ((1 + (k : Int)) - 1).toNat = k by omega, show (1 + (k : Int)).toNat + 48 = k + 49 by omega] at hq
          exact hq
      obtain ⟨q, hq1, hq2⟩ := hsome
      refine Wp.asgV hq1 (Wp.at_env (e := [_, _, _, _, _, _, _]) ?_ rfl)
      generalize hso : (((List.range (min (p.2 : Int) 9 + 1 - 1).toNat).filter q).map fun k => k + 49) = so at *
      have hmem : ∀ x, x ∈ so → x ∈ FIG ∧ x - 48 ≤ p.2 ∧ w[x - 49]? = w[p.2]? ∧ x ∉ f := by
        intro x hx
        rw [← hso] at hx
        obtain ⟨k, hk, rfl⟩ := List.mem_map.mp hx
        obtain ⟨k1, k2⟩ := List.mem_filter.mp hk
        have k3 := List.mem_range.mp k1
        obtain ⟨k4, k5⟩ := hq2 k k3 k2
        have k6 : k < w.length := by
          have := (List.getElem?_eq_some_iff.mp hp2).1
          omega
        refine ⟨fig_mem (by omega) (by omega), by omega, ?_, k5⟩
        rw [show k + 49 - 49 = k by omega, hp2, ← k4, List.getD_eq_getElem?_getD, List.getElem?_eq_getElem k6] <;> rfl
      have hso1 : ∀ x, x ∈ so → x < 1114112 := fun x hx => by have := fig_ge (hmem x hx).1; omega
      have hso2 : so.length ≤ 9 := by
        rw [← hso, List.length_map]
        have := List.length_filter_le q (List.range (min (p.2 : Int) 9 + 1 - 1).toNat)
        rw [List.length_range] at this
        omega
      have bf2 : Bx (m + (78 - 2 * done.length) + 1 + 1) r' := bf.le (by omega)
      have l4 : f.length + 1 ≤ LIM := by unfold LIM; omega
      refine Wp.asg (We.frz (We.primN rfl (Wa.consV (by array_get_dec) (Wa.cons (We.imp (K := fun r0 e => ∃ x r2, r0 = .sh (dC x) ∧ e = [some r2, some (rS w), some (rS f), some (.sh (.int (p.2 : Nat))), some (.sh (dC p.1)), some (.sh (.lst none (so.map dC))), none] ∧ Bx (m + (78 - 2 * done.length)) r2 ∧ ((w[f.length]? = some x ∧ x ∈ ABC) ∨ (x ∈ FIG ∧ x - 48 ≤ f.length ∧ w[x - 49]? = w[f.length]? ∧ x ∉ f))) ?_ ?_)))))
      · have old : (w[f.length]? = some p.1 ∧ p.1 ∈ ABC) ∨ (p.1 ∈ FIG ∧ p.1 - 48 ≤ f.length ∧ w[p.1 - 49]? = w[f.length]? ∧ p.1 ∉ f) := .inl ⟨by rw [hf, ← hp1]; exact hp2, hABC⟩
        have ne : Ev (FH.PT tab n) (.prim (.cmp .NotEq) (.cons (.var 5) (.cons (.lst .nil) .nil))) [some r', some (rS w), some (rS f), some (.sh (.int (p.2 : Nat))), some (.sh (dC p.1)), some (.sh (.lst none (so.map dC))), none] (rB (!decide (so = []))) := by
          with_reducible apply Ev.prX
          · array_get_dec
          · exact sem_neC hso1
          · rfl
        refine We.ite (We.and (We.of (r := rB (!decide (so = []))) ne ⟨_, rfl, fun ht => ?_, fun _ => ⟨_, rfl, fun z => (nomatch z), fun _ => We.of (by array_get_dec) ⟨_, _, rfl, rfl, bf2.le (by omega), old⟩⟩⟩))
        have hne : so ≠ [] := by simpa using ht
        have hpos : 1 ≤ so.length := List.length_pos_iff.mpr hne
        refine We.one (We.primN rfl (Wa.cons (We.take S rfl bf2 rfl (by array_get_dec) (by decide) (by decide) fun v r1 v0 v1 b1 => Wa.consV (r := rZ 0) Ev.litI (Wa.nil ⟨_, sem_gt, rfl, _, rfl, fun _ => ?_, fun _ => We.of (by array_get_dec) ⟨_, _, rfl, rfl, b1.le (by omega), old⟩⟩))))
        refine We.primN rfl (Wa.consV (r := .sh (.lst none (so.map dC))) (by array_get_dec) (Wa.cons (We.take S (many := so.length) rfl b1 rfl (Ev.prX (rs := [.sh (.lst none (so.map dC))]) (by array_get_dec) (by show M.ok (rZ ((so.map dC).length : Nat)) = _; rw [List.length_map]) rfl) (by omega) (by omega) fun v2 r2 v20 v21 b2 => Wa.nil ⟨_, sem_idxCs v20 v21, rfl, _, _, rfl, rfl, b2.le (by omega), .inr ?_⟩)))
        have hx : so.getD v2.toNat 0 ∈ so := by
          rw [List.getD_eq_getElem?_getD, List.getElem?_eq_getElem (by omega)]
          exact List.getElem_mem _
        have := hmem _ hx
        rw [hf, ← hp1]
        exact this
      · rintro r0 e0 ⟨x, r2, rfl, rfl, b2, hx⟩
        refine Wa.nil ⟨_, sem_addS (b := [x]) l4, rfl, Wp.nil ⟨f ++ [x], r2, _, _, _, rfl, ?_, lf.snoc (by omega) hx, b2.le ?_⟩⟩
        · rw [List.length_append, List.length_append, hf] <;> rfl
        · rw [List.length_append, List.length_singleton]; omega
    · rintro e ⟨f, r', a, b, c, rfl, hf, lf, bf⟩
      rw [List.length_zipIdx] at hf bf
      exact Wp.retV (by array_get_dec) ⟨_, _, _, rfl, rfl, f, rfl, hf, lf, bf.le (by omega)⟩)
  obtain ⟨q, r', h1, f, rfl, h2, h3, h4⟩ := key
  exact ⟨f, r', h1, h2, h3, h4⟩
end
end Gl
set_option Elab.async false
set_option linter.all false
set_option maxRecDepth 100000
set_option maxHeartbeats 4000000
namespace Gl
open PySem PySem.Spec PyProof.Rows L2 FH
def is_wordB : FH.S := (.seq (.ret (.call "is_made_of" (.cons (.var 0) (.cons (.glb "LETTERS" (.str (cS ABC))) (.cons (.glb "LONGEST_WORD" (.int 40)) .nil)))))
  .nil)
def is_wordT : DT := ⟨"is_word", ["value"], ["value"], [], is_wordB, []⟩
def need_seenB : FH.S := (.seq (.ifs (.not (.call "is_made_of" (.cons (.var 1) (.cons (.prim (.bin .Add) (.cons (.prim (.bin .Add) (.cons (.glb "LETTERS" (.str (cS ABC))) (.cons (.call "repeaters_of" (.cons (.var 0) .nil)) .nil))) (.cons (.glb "HIDDEN" (.str (cS [63]))) .nil))) (.cons (.om "Locker.most" (.var 0) .nil) .nil))))) (.seq .dead
  .nil) .nil)
  .nil)
def need_seenT : DT := ⟨"need_seen", ["locker", "seen"], ["locker", "seen"], [], need_seenB, []⟩
def fitsB : FH.S := (.seq (.for (.tp [2, 3]) (.senum (.var 0)) (.seq (.ifs (.and (.prim (.cmp .In) (.cons (.var 3) (.cons (.glb "LETTERS" (.str (cS ABC))) .nil))) (.one (.prim (.cmp .NotEq) (.cons (.var 3) (.cons (.prim .idx (.cons (.var 1) (.cons (.var 2) .nil))) .nil))))) (.seq (.ret (.lit (.bl false)))
  .nil) .nil)
  (.seq (.ifs (.and (.prim (.cmp .In) (.cons (.var 3) (.cons (.glb "FIGURES" (.str (cS FIG))) .nil))) (.one (.or (.prim (.cmp .Gt) (.cons (.mth .count (.var 0) (.cons (.var 3) .nil)) (.cons (.lit (.int 1)) .nil))) (.or (.prim (.cmp .Gt) (.cons (.prim (.fn .int) (.cons (.var 3) .nil)) (.cons (.var 2) .nil))) (.one (.prim (.cmp .NotEq) (.cons (.prim .idx (.cons (.var 1) (.cons (.prim (.bin .Sub) (.cons (.prim (.fn .int) (.cons (.var 3) .nil)) (.cons (.lit (.int 1)) .nil))) .nil))) (.cons (.prim .idx (.cons (.var 1) (.cons (.var 2) .nil))) .nil)))))))) (.seq (.ret (.lit (.bl false)))
  .nil) .nil)
  .nil)))
  (.seq (.ret (.lit (.bl true)))
  .nil))
def fitsT : DT := ⟨"fits", ["seen", "word", "at", "flag"], ["seen", "word"], [], fitsB, []⟩
def hidden_fitB : FH.S := (.seq (.asg 4 (.comp [("one", 8)] (.var 8) (.nm 8) (.sval (.call "repeaters_of" (.cons (.var 0) .nil))) (.and (.prim (.cmp .NotIn) (.cons (.var 8) (.cons (.var 1) .nil))) (.one (.prim (.cmp .Eq) (.cons (.prim (.sl true true) (.cons (.var 2) (.cons (.prim (.bin .Sub) (.cons (.prim (.fn .int) (.cons (.var 8) .nil)) (.cons (.lit (.int 1)) .nil))) (.cons (.prim (.fn .int) (.cons (.var 8) .nil)) .nil)))) (.cons (.var 3) .nil)))))))
  (.seq (.asg 5 (.prim (.bin .Sub) (.cons (.mth .count (.var 1) (.cons (.var 3) .nil)) (.cons (.om "Locker.sets" (.var 0) .nil) .nil))))
  (.seq (.for (.tp [6, 7]) (.senum (.var 1)) (.seq (.ifs (.and (.prim (.cmp .Eq) (.cons (.var 7) (.cons (.glb "HIDDEN" (.str (cS [63]))) .nil))) (.one (.prim (.cmp .Eq) (.cons (.prim .idx (.cons (.var 2) (.cons (.var 6) .nil))) (.cons (.var 3) .nil))))) (.seq (.asg 9 (.frz (.bor (.comp [("one", 8)] (.var 8) (.nm 8) (.sval (.var 4)) (.prim (.cmp .LtE) (.cons (.prim (.fn .int) (.cons (.var 8) .nil)) (.cons (.var 6) .nil)))))))
  (.seq (.ifs (.prim (.cmp .Eq) (.cons (.var 9) (.cons (.lst .nil) .nil))) (.seq (.asg 5 (.frz (.prim (.bin .Add) (.cons (.var 5) (.cons (.lit (.int 1)) .nil)))))
  .nil) (.seq (.rem 4 (.prim .idx (.cons (.var 9) (.cons (.lit (.int 0)) .nil))))
  .nil))
  .nil)) .nil)
  .nil))
  (.seq (.ret (.prim (.cmp .LtE) (.cons (.var 5) (.cons (.lit (.int 0)) .nil))))
  .nil))))
def hidden_fitT : DT := ⟨"hidden_fit", ["locker", "seen", "word", "letter", "free", "lacking", "at", "flag", "one", "ahead"], ["locker", "seen", "word", "letter"], [], hidden_fitB, []⟩
def could_beB : FH.S := (.seq (.expr (.call "need_locker" (.cons (.var 0) .nil)))
  (.seq (.expr (.call "need_seen" (.cons (.var 0) (.cons (.var 1) .nil))))
  (.seq (.ifs (.not (.call "is_word" (.cons (.var 2) .nil))) (.seq .dead
  .nil) .nil)
  (.seq (.ifs (.or (.prim (.cmp .NotEq) (.cons (.prim (.fn .len) (.cons (.var 2) .nil)) (.cons (.prim (.fn .len) (.cons (.var 1) .nil)) .nil))) (.one (.not (.call "fits" (.cons (.var 1) (.cons (.var 2) .nil)))))) (.seq (.ret (.lit (.bl false)))
  .nil) .nil)
  (.seq (.ret (.prim (.fn .all) (.cons (.comp [("letter", 3)] (.call "hidden_fit" (.cons (.var 0) (.cons (.var 1) (.cons (.var 2) (.cons (.var 3) .nil))))) (.nm 3) (.sval (.glb "LETTERS" (.str (cS ABC)))) .nil) .nil)))
  .nil)))))
def could_beT : DT := ⟨"could_be", ["locker", "seen", "word", "letter"], ["locker", "seen", "word"], [], could_beB, []⟩
def x_law_numbersB : FH.S := (.seq (.asg 1 (.prim .idx (.cons (.lst (.cons (.lit (.int 1)) (.cons (.prim (.bin .Add) (.cons (.lit (.int 1)) (.cons (.call "_law_take" (.cons (.mv 0) (.cons (.lit (.int 3)) .nil))) .nil))) .nil))) (.cons (.call "_law_take" (.cons (.mv 0) (.cons (.lit (.int 2)) .nil))) .nil))))
  (.seq (.ret (.lst (.cons (.var 1) (.cons (.prim .idx (.cons (.lst (.cons (.call "_law_take" (.cons (.mv 0) (.cons (.lit (.int 10)) .nil))) (.cons (.lit (.int 3)) (.cons (.call "_law_take" (.cons (.mv 0) (.cons (.lit (.int 4)) .nil))) .nil)))) (.cons (.call "_law_take" (.cons (.mv 0) (.cons (.lit (.int 3)) .nil))) .nil))) (.cons (.prim .idx (.cons (.lst (.cons (.lit (.int 7)) (.cons (.lit (.int 40)) (.cons (.prim (.bin .Add) (.cons (.lit (.int 4)) (.cons (.call "_law_take" (.cons (.mv 0) (.cons (.lit (.int 12)) .nil))) .nil))) (.cons (.prim (.bin .Add) (.cons (.lit (.int 1)) (.cons (.call "_law_take" (.cons (.mv 0) (.cons (.lit (.int 40)) .nil))) .nil))) .nil))))) (.cons (.call "_law_take" (.cons (.mv 0) (.cons (.lit (.int 4)) .nil))) .nil))) .nil)))))
  .nil))
def x_law_numbersT : DT := ⟨"_law_numbers", ["box", "sets"], ["box"], [0], x_law_numbersB, []⟩
def x_law_dueB : FH.S := (.seq (.ifs (.prim (.cmp .NotEq) (.cons (.prim (.fn .len) (.cons (.var 1) .nil)) (.cons (.prim (.fn .len) (.cons (.var 2) .nil)) .nil))) (.seq (.ret (.lit (.bl false)))
  .nil) .nil)
  (.seq (.asg 3 (.frz (.lst (.cons (.lit (.str (cS []))) .nil))))
  (.seq (.for (.tp [4, 5]) (.senum (.var 1)) (.seq (.asg 6 (.ite (.prim (.cmp .Eq) (.cons (.var 5) (.cons (.lit (.str (cS [63]))) .nil))) (.frz (.prim (.bin .Add) (.cons (.lst (.cons (.prim .idx (.cons (.var 2) (.cons (.var 4) .nil))) .nil)) (.cons (.prim (.fn .list) (.cons (.prim (.sl false true) (.cons (.lit (.str (cS FIG))) (.cons (.prim .idx (.cons (.var 0) (.cons (.lit (.int 1)) .nil))) .nil))) .nil)) .nil)))) (.frz (.lst (.cons (.var 5) .nil)))))
  (.seq (.asg 7 (.lst .nil))
  (.seq (.for (.nm 8) (.sval (.var 3)) (.seq (.ext 7 (.comp [("one", 10)] (.prim (.bin .Add) (.cons (.var 8) (.cons (.var 10) .nil))) (.nm 10) (.sval (.var 6)) (.or (.prim (.cmp .NotIn) (.cons (.var 10) (.cons (.lit (.str (cS FIG))) .nil))) (.one (.and (.prim (.cmp .NotIn) (.cons (.var 10) (.cons (.var 8) .nil))) (.one (.prim (.cmp .LtE) (.cons (.prim (.fn .int) (.cons (.var 10) .nil)) (.cons (.var 4) .nil)))))))))
  .nil))
  (.seq (.asg 3 (.frz (.comp [("flags", 9)] (.var 9) (.nm 9) (.sval (.var 7)) (.mth .startswith (.var 2) (.cons (.call "_law_shown" (.cons (.var 9) .nil)) .nil)))))
  .nil)))))
  (.seq (.ret (.prim (.cmp .NotEq) (.cons (.comp [("flags", 9)] (.var 9) (.nm 9) (.sval (.var 3)) (.call "_law_is_hoist" (.cons (.var 0) (.cons (.var 9) .nil)))) (.cons (.lst .nil) .nil))))
  .nil))))
def x_law_dueT : DT := ⟨"_law_due", ["numbers", "seen", "word", "found", "at", "flag", "some", "more", "ahead", "flags", "one"], ["numbers", "seen", "word"], [], x_law_dueB, []⟩
end Gl
set_option Elab.async false
set_option linter.all false
set_option maxRecDepth 100000
set_option maxHeartbeats 4000000
namespace Gl
open PySem PySem.Spec PyProof.Rows L2 FH
theorem wordOf_at (w : List Nat) : ∀ i, i < w.length → (wordOf w)[i]? = some (if decide (w.getD i 0 ∈ ABC) then w.getD i 0 else (wordOf (w.take i)).getD (w.getD i 0 - 49) 0) := by
  have key : ∀ (n : Nat) (w : List Nat), w.length = n → ∀ i, i < w.length → (wordOf w)[i]? = some (if decide (w.getD i 0 ∈ ABC) then w.getD i 0 else (wordOf (w.take i)).getD (w.getD i 0 - 49) 0) := by
    intro n
    induction n with
    | zero => intro w h i hi; omega
    | succ n ih =>
      intro w h i hi
      have hne : w ≠ [] := fun z => by rw [z] at h; simp at h
      obtain ⟨v, c, rfl⟩ : ∃ v c, w = v ++ [c] := ⟨w.dropLast, w.getLast hne, (List.dropLast_concat_getLast hne).symm⟩
      have hv : v.length = n := by simpa using h
      rw [wordOf_snoc]
      by_cases hi2 : i < v.length
      · rw [List.getElem?_append_left (by rw [wordOf_len]; exact hi2), ih v hv i hi2]
        have e1 : (v ++ [c]).getD i 0 = v.getD i 0 := by
          rw [List.getD_eq_getElem?_getD, List.getD_eq_getElem?_getD, List.getElem?_append_left hi2]
        rw [e1, List.take_append_of_le_length (by omega)]
      · have hi3 : i = v.length := by
          rw [List.length_append, List.length_singleton] at hi
          omega
        subst hi3
        have e1 : (v ++ [c]).getD v.length 0 = c := by
          rw [List.getD_eq_getElem?_getD, List.getElem?_append_right (Nat.le_refl _), Nat.sub_self] <;> rfl
        rw [List.getElem?_append_right (by rw [wordOf_len]; exact Nat.le_refl _), wordOf_len, Nat.sub_self, e1, List.take_append_of_le_length (Nat.le_refl _), List.take_length] <;> rfl
  exact fun i hi => key w.length w rfl i hi
theorem wordOf_take (w : List Nat) (n : Nat) : wordOf (w.take n) = (wordOf w).take n := by
  have key : ∀ v u : List Nat, (wordOf (v ++ u)).take v.length = wordOf v := by
    intro v u
    have : ∀ (u f : List Nat) (n : Nat), f.length ≥ n → (u.foldl (fun f c => f ++ [if decide (c ∈ ABC) then c else f.getD (c - 49) 0]) f).take n = f.take n := by
      intro u
      induction u with
      | nil => intro f n h; rfl
      | cons c u ih =>
        intro f n h
        rw [List.foldl_cons, ih _ _ (by rw [List.length_append]; omega), List.take_append_of_le_length h]
    unfold wordOf
    rw [List.foldl_append, this _ _ _ (by have := wordOf_len v; unfold wordOf at this; omega)]
    have l := wordOf_len v
    unfold wordOf at l
    rw [List.take_of_length_le (by omega)]
  have e := key (w.take n) (w.drop n)
  rw [List.take_append_drop, List.length_take] at e
  rw [← e]
  by_cases h : n ≤ w.length
  · rw [Nat.min_eq_left h]
  · rw [Nat.min_eq_right (by omega), List.take_of_length_le (by rw [wordOf_len]; exact Nat.le_refl _), List.take_of_length_le (by rw [wordOf_len]; omega)]
theorem getD_of {w : List Nat} {i c : Nat} (h : w[i]? = some c) : w.getD i 0 = c := by rw [List.getD_eq_getElem?_getD, h] <;> rfl
/-- laid flags show the word -/
theorem laid_word {w f : List Nat} (h : Laid w f) (hl : f.length = w.length) : wordOf f = w := by
  have key : ∀ n, n ≤ f.length → wordOf (f.take n) = w.take n := by
    intro n
    induction n with
    | zero => intro _; rw [List.take_zero, List.take_zero] <;> rfl
    | succ n ih =>
      intro hn
      have hc : f[n]? = some f[n] := List.getElem?_eq_getElem (by omega)
      have hw : w[n]? = some w[n] := List.getElem?_eq_getElem (by omega)
      rw [List.take_succ, hc]
      show wordOf (f.take n ++ [f[n]]) = _
      rw [wordOf_snoc, ih (by omega), List.take_succ, hw]
      congr 2
      rcases h.2 n _ hc with ⟨q1, q2⟩ | ⟨q1, q2, q3, _⟩
      · rw [decide_eq_true q2]
        rw [hw] at q1
        exact (Option.some.inj q1).symm
      · have := fig_ge q1
        have nz : ¬ f[n] ∈ ABC := fun z => by have := abc_ge z; omega
        rw [decide_eq_false nz]
        show (w.take n).getD (f[n] - 49) 0 = w[n]
        rw [List.getD_eq_getElem?_getD, List.getElem?_take_of_lt (by omega), q3, hw] <;> rfl
  have := key f.length (Nat.le_refl _)
  rw [List.take_length, hl, List.take_length] at this
  exact this
theorem count_one {f : List Nat} {c : Nat} (h : ∀ i, f[i]? = some c → c ∉ f.take i) : f.count c ≤ 1 := by
  induction f with
  | nil => exact Nat.zero_le _
  | cons a f ih =>
    rw [List.count_cons]
    by_cases ha : a = c
    · subst ha
      have : f.count a = 0 := by
        rw [List.count_eq_zero]
        intro hm
        obtain ⟨j, hj⟩ := List.getElem?_of_mem hm
        exact h (j + 1) hj (by rw [List.take_succ_cons]; exact List.mem_cons_self)
      rw [this]
      simp
    · have : (a == c) = false := by simpa using ha
      rw [this]
      have := ih fun i hi hm => h (i + 1) hi (by rw [List.take_succ_cons]; exact List.mem_cons_of_mem _ hm)
      simpa using this
/-- what makes a hoist, in words -/
theorem flown_iff {s r m : Int} {f : List Nat} : flownB s r m f = true ↔ (1 ≤ f.length ∧ (f.length : Int) ≤ m) ∧ (∀ i c, f[i]? = some c → (c ∈ ABC ∧ (f.count c : Int) ≤ s) ∨ (c ∈ FIG.take r.toNat ∧ c - 48 ≤ i ∧ f.count c ≤ 1)) := by
  unfold flownB wordy flagsFit
  simp only [Bool.and_eq_true, List.all_eq_true, decide_eq_true_eq, Bool.not_eq_true', decide_eq_false_iff_not, List.mem_filter, and_imp, Bool.decide_eq_true]
  constructor
  · rintro ⟨⟨⟨a1, a2⟩, a3⟩, a4, a5⟩
    refine ⟨⟨by omega, a2⟩, fun i c hc => ?_⟩
    have hm := List.mem_of_getElem? hc
    have h4 := a4 c hm
    rcases List.mem_append.mp (a3 c hm) with b | b
    · rw [if_pos b] at h4
      exact .inl ⟨b, by omega⟩
    · have hf : c ∈ FIG := List.mem_of_mem_take b
      have h5 := a5 (c, i) (mem_zipIdx hc) hf
      have nz : ¬ c ∈ ABC := fun z => by have := abc_ge z; have := fig_ge hf; omega
      rw [if_neg nz] at h4
      have := fig_ge hf
      simp only at h5
      exact .inr ⟨b, by omega, by omega⟩
  · rintro ⟨⟨a1, a2⟩, a3⟩
    refine ⟨⟨⟨by omega, a2⟩, fun c hc => ?_⟩, fun c hc => ?_, fun p hp hf => ?_⟩
    · obtain ⟨i, hi⟩ := List.getElem?_of_mem hc
      rcases a3 i c hi with ⟨b, _⟩ | ⟨b, _⟩
      · exact List.mem_append_left _ b
      · exact List.mem_append_right _ b
    · obtain ⟨i, hi⟩ := List.getElem?_of_mem hc
      rcases a3 i c hi with ⟨b, q⟩ | ⟨b, _, q⟩
      · rw [if_pos b]; omega
      · have hf : c ∈ FIG := List.mem_of_mem_take b
        have nz : ¬ c ∈ ABC := fun z => by have := abc_ge z; have := fig_ge hf; omega
        rw [if_neg nz]
        omega
    · have hi : f[p.2]? = some p.1 := List.mem_zipIdx_iff_getElem?.mp hp
      have := fig_ge hf
      rcases a3 _ _ hi with ⟨b, _⟩ | ⟨b, q, _⟩
      · have := abc_ge b; omega
      · omega
theorem take_fig {c : Nat} {r : Nat} (h : c ∈ FIG) (k : c - 48 ≤ r) : c ∈ FIG.take r := by
  have h1 := fig_ge h
  rw [List.mem_iff_getElem?]
  refine ⟨c - 49, ?_⟩
  rw [List.getElem?_take_of_lt (by omega)]
  simp only [List.mem_cons, List.not_mem_nil, or_false] at h
  rcases h with rfl | rfl | rfl | rfl | rfl | rfl | rfl | rfl | rfl <;> rfl
theorem of_take_fig {c : Nat} {r : Nat} (h : c ∈ FIG.take r) : c ∈ FIG ∧ c - 48 ≤ r := by
  refine ⟨List.mem_of_mem_take h, ?_⟩
  obtain ⟨i, hi⟩ := List.getElem?_of_mem h
  have hlt := (List.getElem?_eq_some_iff.mp hi).1
  rw [List.length_take] at hlt
  have hi2 : FIG[i]? = some c := by
    rw [List.getElem?_take_of_lt (by omega)] at hi
    exact hi
  have : ∀ j, j < 9 → FIG[j]? = some (j + 49) := by decide
  have h9 : FIG.length = 9 := rfl
  rw [this i (by omega)] at hi2
  cases hi2
  omega
/-- laid flags are a hoist where there are sets and repeaters enough -/
theorem laid_flown {w f : List Nat} {s r m : Int} (h : Laid w f) (hl : f.length = w.length) (h1 : 1 ≤ w.length) (hm : (w.length : Int) ≤ m) (hs : ∀ c, c ∈ w → (f.count c : Int) ≤ s) (hr : ∀ c, c ∈ f → c ∈ FIG → (c : Int) - 48 ≤ r) : flownB s r m f = true := by
  rw [flown_iff]
  refine ⟨⟨by omega, by omega⟩, fun i c hc => ?_⟩
  rcases h.2 i c hc with ⟨q1, q2⟩ | ⟨q1, q2, _, _⟩
  · exact .inl ⟨q2, hs c (List.mem_of_getElem? q1)⟩
  · have h48 := fig_ge q1
    have := hr c (List.mem_of_getElem? hc) q1
    refine .inr ⟨take_fig q1 (by omega), q2, count_one fun j hj => ?_⟩
    rcases h.2 j c hj with ⟨_, q⟩ | ⟨_, _, _, q⟩
    · have := abc_ge q; omega
    · exact q
/-- the first flag is the first letter -/
theorem laid_first {w f : List Nat} (h : Laid w f) (hl : f.length = w.length) (h1 : 1 ≤ w.length) : ∃ c, w[0]? = some c ∧ 1 ≤ f.count c := by
  have hc : f[0]? = some f[0] := List.getElem?_eq_getElem (by omega)
  rcases h.2 0 _ hc with ⟨q1, _⟩ | ⟨q1, q2, _⟩
  · refine ⟨_, q1, ?_⟩
    rw [List.one_le_count_iff]
    exact List.mem_of_getElem? hc
  · have := fig_ge q1
    omega
theorem flown_take {s r m : Int} {f : List Nat} {n : Nat} (h : flownB s r m f = true) (hn : 1 ≤ n) : flownB s r m (f.take n) = true := by
  rw [flown_iff] at h ⊢
  obtain ⟨⟨a1, a2⟩, a3⟩ := h
  have hl := List.length_take (l := f) (i := n)
  refine ⟨⟨by omega, by omega⟩, fun i c hc => ?_⟩
  have hlt := (List.getElem?_eq_some_iff.mp hc).1
  have hc2 : f[i]? = some c := by rw [List.getElem?_take_of_lt (by omega)] at hc; exact hc
  have cnt : (f.take n).count c ≤ f.count c := (List.take_sublist n f).count_le c
  rcases a3 i c hc2 with ⟨b, q⟩ | ⟨b, q1, q2⟩
  · exact .inl ⟨b, by omega⟩
  · exact .inr ⟨b, q1, by omega⟩
theorem flown_mono {s r m s' r' m' : Int} {f : List Nat} (h : flownB s r m f = true) (h1 : s ≤ s') (h2 : r ≤ r') (h3 : m ≤ m') : flownB s' r' m' f = true := by
  rw [flown_iff] at h ⊢
  obtain ⟨⟨a1, a2⟩, a3⟩ := h
  refine ⟨⟨a1, by omega⟩, fun i c hc => ?_⟩
  rcases a3 i c hc with ⟨b, q⟩ | ⟨b, q1, q2⟩
  · exact .inl ⟨b, by omega⟩
  · have := of_take_fig b
    exact .inr ⟨take_fig this.1 (by omega), q1, q2⟩
end Gl
set_option Elab.async false
set_option linter.all false
set_option maxRecDepth 100000
set_option maxHeartbeats 4000000
namespace Gl
open PySem PySem.Spec PyProof.Rows L2 FH
/-- laid flags show a beginning of the word -/
theorem laid_pre {w f : List Nat} (h : Laid w f) : wordOf f = w.take f.length := by
  have key : ∀ n, n ≤ f.length → wordOf (f.take n) = w.take n := by
    intro n
    induction n with
    | zero => intro _; rw [List.take_zero, List.take_zero] <;> rfl
    | succ n ih =>
      intro hn
      have h1 := h.1
      have hc : f[n]? = some f[n] := List.getElem?_eq_getElem (by omega)
      have hw : w[n]? = some w[n] := List.getElem?_eq_getElem (by omega)
      rw [List.take_succ, hc]
      show wordOf (f.take n ++ [f[n]]) = _
      rw [wordOf_snoc, ih (by omega), List.take_succ, hw]
      congr 2
      rcases h.2 n _ hc with ⟨q1, q2⟩ | ⟨q1, q2, q3, _⟩
      · rw [decide_eq_true q2]
        rw [hw] at q1
        exact (Option.some.inj q1).symm
      · have := fig_ge q1
        have nz : ¬ f[n] ∈ ABC := fun z => by have := abc_ge z; omega
        rw [decide_eq_false nz]
        show (w.take n).getD (f[n] - 49) 0 = w[n]
        rw [List.getD_eq_getElem?_getD, List.getElem?_take_of_lt (by omega), q3, hw] <;> rfl
  have := key f.length (Nat.le_refl _)
  rw [List.take_length] at this
  exact this
theorem Laid.take {w f : List Nat} (h : Laid w f) (n : Nat) : Laid w (f.take n) := by
  refine ⟨by have := h.1; rw [List.length_take]; omega, fun i c hc => ?_⟩
  have hi := (List.getElem?_eq_some_iff.mp hc).1
  rw [List.length_take] at hi
  rw [List.getElem?_take_of_lt (by omega)] at hc
  rcases h.2 i c hc with q | ⟨q1, q2, q3, q4⟩
  · exact .inl q
  · refine .inr ⟨q1, q2, q3, ?_⟩
    rw [List.take_take, Nat.min_eq_left (by omega)]
    exact q4
theorem nz_fig {c : Nat} (h : c ∈ FIG) : ¬ c ∈ ABC := fun z => by have := abc_ge z; have := fig_ge h; omega
theorem nz_abc {c : Nat} (h : c ∈ ABC) : ¬ c ∈ FIG := fun z => nz_fig z h
theorem sub_len : ∀ {l m : List Nat}, l.Nodup → (∀ x, x ∈ l → x ∈ m) → l.length ≤ m.length
  | [], _, _, _ => Nat.zero_le _
  | x :: l, m, h, s => by
    have hm := s x List.mem_cons_self
    have h1 := List.length_erase_of_mem hm
    have h2 := List.length_pos_of_mem hm
    have := sub_len (l := l) (m := m.erase x) (List.nodup_cons.mp h).2 fun y hy => by
      refine (List.mem_erase_of_ne (fun z => ?_)).mpr (s y (List.mem_cons_of_mem _ hy))
      subst z
      exact (List.nodup_cons.mp h).1 hy
    rw [List.length_cons]
    omega
/-- flags that a seen hoist can have -/
def Fill (R : Nat) (seen w a : List Nat) : Prop := Laid w a ∧ ∀ (i x : Nat), a[i]? = some x → (x ∈ ABC ∨ x ∈ FIG.take R) ∧ (seen[i]? = some x ∨ seen[i]? = some 63)
theorem Fill.take {R : Nat} {seen w a : List Nat} (h : Fill R seen w a) (n : Nat) : Fill R seen w (a.take n) := ⟨h.1.take n, fun i x hx => by
  have hi := (List.getElem?_eq_some_iff.mp hx).1
  rw [List.length_take] at hi
  rw [List.getElem?_take_of_lt (by omega)] at hx
  exact h.2 i x hx⟩
theorem Fill.snoc {R : Nat} {seen w a : List Nat} {o : Nat} (h : Fill R seen w a) (l : Laid w (a ++ [o])) (h1 : o ∈ ABC ∨ o ∈ FIG.take R) (h2 : seen[a.length]? = some o ∨ seen[a.length]? = some 63) : Fill R seen w (a ++ [o]) := ⟨l, fun i x hx => by
  by_cases hi : i < a.length
  · rw [List.getElem?_append_left hi] at hx
    exact h.2 i x hx
  · have hi2 : i = a.length := by
      have := (List.getElem?_eq_some_iff.mp hx).1
      rw [List.length_append, List.length_singleton] at this
      omega
    subst hi2
    rw [List.getElem?_append_right (Nat.le_refl _), Nat.sub_self] at hx
    cases hx
    exact ⟨h1, h2⟩⟩
/-! ### the search -/
def opts (R : Nat) (w : List Nat) (k x : Nat) : List Nat := if decide (x = 63) then w.getD k 0 :: FIG.take R else [x]
def okO (a : List Nat) (k o : Nat) : Bool := !decide (o ∈ FIG) || (!decide (o ∈ a) && decide ((o : Int) - 48 ≤ (k : Nat)))
def growF (R : Nat) (w : List Nat) (k x : Nat) (found : List (List Nat)) : List (List Nat) := found.flatMap fun a => ((opts R w k x).filter (okO a k)).map fun o => a ++ [o]
def nextF (R : Nat) (w : List Nat) (k x : Nat) (found : List (List Nat)) : List (List Nat) := (growF R w k x found).filter fun b => decide (w.take (wordOf b).length = wordOf b)
/-- what stands at a seen place -/
def SeenOk (R : Nat) (seen : List Nat) : Prop := ∀ x, x ∈ seen → x ∈ ABC ∨ x ∈ FIG.take R ∨ x = 63
theorem next_mem {R k x : Nat} {seen w : List Nat} {found : List (List Nat)} (hx : seen[k]? = some x) (hs : SeenOk R seen) (hw : Lw w) (hk : k < w.length) (hf : ∀ a, a ∈ found ↔ a.length = k ∧ Fill R seen w a) (b : List Nat) :
    b ∈ nextF R w k x found ↔ b.length = k + 1 ∧ Fill R seen w b := by
  have hwk : w[k]? = some w[k] := List.getElem?_eq_getElem hk
  unfold nextF growF
  rw [List.mem_filter, List.mem_flatMap]
  constructor
  · rintro ⟨⟨a, ha, hb⟩, hp⟩
    obtain ⟨o, ho, rfl⟩ := List.mem_map.mp hb
    obtain ⟨ho1, ho2⟩ := List.mem_filter.mp ho
    obtain ⟨la, fa⟩ := (hf a).mp ha
    have hp' : w.take (wordOf (a ++ [o])).length = wordOf (a ++ [o]) := of_decide_eq_true hp
    rw [wordOf_len, List.length_append, List.length_singleton, la, wordOf_snoc, laid_pre fa.1, la, List.take_succ, hwk] at hp'
    have hp2 : w[k] = if decide (o ∈ ABC) then o else (w.take k).getD (o - 49) 0 := by
      have := List.append_cancel_left hp'
      simpa using this
    have cs : (o ∈ ABC ∨ o ∈ FIG.take R) ∧ (seen[k]? = some o ∨ seen[k]? = some 63) := by
      unfold opts at ho1
      by_cases h63 : x = 63
      · rw [decide_eq_true h63] at ho1
        subst h63
        refine ⟨?_, .inr hx⟩
        rcases List.mem_cons.mp ho1 with e | e
        · left
          rw [e, List.getD_eq_getElem?_getD, hwk]
          exact hw _ (List.getElem_mem _)
        · exact .inr e
      · rw [decide_eq_false h63] at ho1
        have e : o = x := List.mem_singleton.mp ho1
        subst e
        refine ⟨?_, .inl hx⟩
        rcases hs o (List.mem_of_getElem? hx) with q | q | q
        · exact .inl q
        · exact .inr q
        · exact absurd q h63
    refine ⟨by rw [List.length_append, List.length_singleton, la], fa.snoc (fa.1.snoc (by omega) ?_) cs.1 (by rw [la]; exact cs.2)⟩
    rw [la]
    rcases cs.1 with q | q
    · rw [decide_eq_true q] at hp2
      have hp3 : w[k] = o := hp2
      exact .inl ⟨by rw [hwk, hp3], q⟩
    · have qf := List.mem_of_mem_take q
      have ge := fig_ge qf
      rw [decide_eq_false (nz_fig qf)] at hp2
      have hp3 : w[k] = (w.take k).getD (o - 49) 0 := hp2
      unfold okO at ho2
      rw [decide_eq_true qf] at ho2
      simp only [Bool.not_true, Bool.false_or, Bool.and_eq_true, Bool.not_eq_true', decide_eq_false_iff_not, decide_eq_true_eq] at ho2
      refine .inr ⟨qf, by omega, ?_, ho2.1⟩
      rw [hwk, hp3, List.getD_eq_getElem?_getD, List.getElem?_take_of_lt (by omega), List.getElem?_eq_getElem (by omega)] <;> rfl
  · rintro ⟨lb, fb⟩
    have hne : b ≠ [] := fun z => by rw [z] at lb; simp at lb
    obtain ⟨a, o, rfl⟩ : ∃ v c, b = v ++ [c] := ⟨b.dropLast, b.getLast hne, (List.dropLast_concat_getLast hne).symm⟩
    have la : a.length = k := by simpa using lb
    have fa : Fill R seen w a := by
      have := fb.take a.length
      rw [List.take_append_of_le_length (Nat.le_refl _), List.take_length] at this
      exact this
    have ho : (a ++ [o])[k]? = some o := by rw [← la, List.getElem?_append_right (Nat.le_refl _), Nat.sub_self] <;> rfl
    obtain ⟨c1, c2⟩ := fb.2 k o ho
    have c3 := fb.1.2 k o ho
    rw [← la, List.take_append_of_le_length (Nat.le_refl _), List.take_length, la] at c3
    refine ⟨⟨a, (hf a).mpr ⟨la, fa⟩, List.mem_map.mpr ⟨o, List.mem_filter.mpr ⟨?_, ?_⟩, rfl⟩⟩, ?_⟩
    · unfold opts
      by_cases h63 : x = 63
      · rw [decide_eq_true h63]
        show o ∈ w.getD k 0 :: FIG.take R
        rcases c1 with q | q
        · rcases c3 with ⟨e, _⟩ | ⟨e, _⟩
          · rw [List.getD_eq_getElem?_getD, e]
            exact List.mem_cons_self
          · exact absurd q (nz_fig e)
        · exact List.mem_cons_of_mem _ q
      · rw [decide_eq_false h63]
        show o ∈ [x]
        rcases c2 with e | e
        · rw [hx] at e
          cases e
          exact List.mem_singleton.mpr rfl
        · rw [hx] at e
          cases e
          exact absurd rfl h63
    · unfold okO
      rcases c3 with ⟨_, q⟩ | ⟨q1, q2, _, q4⟩
      · rw [decide_eq_false (nz_abc q)] <;> rfl
      · have ge := fig_ge q1
        rw [decide_eq_true q1, decide_eq_false q4, decide_eq_true (show (o : Int) - 48 ≤ (k : Nat) by omega)] <;> rfl
    · rw [decide_eq_true_eq, laid_pre fb.1, List.length_take]
      congr 1
      rw [lb]
      omega
theorem grow_len {R k x : Nat} {w : List Nat} {found : List (List Nat)} (hR : R ≤ 9) : (growF R w k x found).length ≤ (if x = 63 then 10 else 1) * found.length := by
  unfold growF
  rw [List.length_flatMap]
  have one : ∀ a, (((opts R w k x).filter (okO a k)).map fun o => a ++ [o]).length ≤ if x = 63 then 10 else 1 := fun a => by
    rw [List.length_map]
    refine Nat.le_trans (List.length_filter_le _ _) ?_
    unfold opts
    by_cases h : x = 63
    · rw [decide_eq_true h, if_pos h]
      show (w.getD k 0 :: FIG.take R).length ≤ 10
      rw [List.length_cons, List.length_take]
      omega
    · rw [decide_eq_false h, if_neg h]
      exact Nat.le_refl _
  induction found with
  | nil => exact Nat.zero_le _
  | cons a r ih =>
    rw [List.map_cons, List.sum_cons, List.length_cons, Nat.mul_add, Nat.mul_one]
    have := one a
    omega
/-! ### the greedy search -/
section
variable (R : Nat) (seen w : List Nat)
def free0 (c : Nat) : List Nat := (FIG.take R).filter fun r : Nat => decide (r ∉ seen ∧ w[r - 49]? = some c)
def hstep (c : Nat) (st : List Nat × Int) (p : Nat × Nat) : List Nat × Int := if decide (p.1 = 63) && decide (w.getD p.2 0 = c) then
    (match st.1.filter fun r : Nat => decide ((r : Int) - 48 ≤ (p.2 : Nat)) with
    | [] => (st.1, st.2 + 1)
    | r :: _ => (st.1.erase r, st.2)) else st
def lackF (S : Int) (c : Nat) : Int := (seen.zipIdx.foldl (hstep w c) (free0 R seen w c, (seen.count c : Int) - S)).2
def cand (g : List Nat) (i : Nat) : List Nat := (FIG.take R).filter fun r : Nat => decide (r ∉ seen ∧ w[r - 49]? = w[i]? ∧ r ∉ g ∧ (r : Int) - 48 ≤ (i : Nat))
def pick (g : List Nat) (p : Nat × Nat) : Nat := if p.1 = 63 then (match cand R seen w g p.2 with
    | [] => w.getD p.2 0
    | r :: _ => r) else p.1
def greedy (l : List (Nat × Nat)) : List Nat := l.foldl (fun g p => g ++ [pick R seen w g p]) []
def unm (c : Nat) (f : List Nat) (k : Nat) : Nat := (List.range k).countP fun j : Nat => decide (seen[j]? = some 63 ∧ w[j]? = some c ∧ f[j]? = some c)
def fitsP : Prop := ∀ (i x : Nat), seen[i]? = some x → (x ∈ ABC → w[i]? = some x) ∧ (x ∈ FIG → seen.count x ≤ 1 ∧ x - 48 ≤ i ∧ w[x - 49]? = w[i]?)
end
variable {R : Nat} {seen w : List Nat}
theorem greedy_snoc {l : List (Nat × Nat)} {p : Nat × Nat} : greedy R seen w (l ++ [p]) = greedy R seen w l ++ [pick R seen w (greedy R seen w l) p] := by
  unfold greedy
  rw [List.foldl_append] <;> rfl
theorem greedy_len {l : List (Nat × Nat)} : (greedy R seen w l).length = l.length := by
  unfold greedy
  have : ∀ (l : List (Nat × Nat)) (g : List Nat), (l.foldl (fun g p => g ++ [pick R seen w g p]) g).length = g.length + l.length := by
    intro l
    induction l with
    | nil => intro g; rfl
    | cons p l ih =>
      intro g
      rw [List.foldl_cons, ih, List.length_append, List.length_cons, List.length_cons, List.length_nil]
      omega
  have h := this l []
  rw [List.length_nil, Nat.zero_add] at h
  exact h
theorem zip_take {k : Nat} (hk : k < seen.length) : seen.zipIdx.take (k + 1) = seen.zipIdx.take k ++ [(seen[k], k)] := by
  rw [List.take_succ]
  have : seen.zipIdx[k]? = some (seen[k], k) := by
    rw [List.getElem?_zipIdx, List.getElem?_eq_getElem hk]
    simp
  rw [this] <;> rfl
theorem unm_snoc {c k o : Nat} {g : List Nat} (hg : g.length = k) : unm seen w c (g ++ [o]) (k + 1) = unm seen w c g k + (if seen[k]? = some 63 ∧ w[k]? = some c ∧ o = c then 1 else 0) := by
  unfold unm
  rw [List.range_succ, List.countP_append]
  congr 1
  · refine List.countP_congr fun j hj => ?_
    have := List.mem_range.mp hj
    rw [List.getElem?_append_left (by omega)]
  · have ho : (g ++ [o])[k]? = some o := by rw [← hg, List.getElem?_append_right (Nat.le_refl _), Nat.sub_self] <;> rfl
    rw [List.countP_cons, List.countP_nil, ho]
    by_cases h : seen[k]? = some 63 ∧ w[k]? = some c ∧ o = c
    · rw [if_pos h, if_pos (decide_eq_true ⟨h.1, h.2.1, by rw [h.2.2]⟩)]
    · rw [if_neg h, if_neg]
      intro z
      have z := of_decide_eq_true z
      exact h ⟨z.1, z.2.1, Option.some.inj z.2.2⟩
theorem erase_filter {l : List Nat} (h : l.Nodup) (r : Nat) : l.erase r = l.filter fun x => decide (x ≠ r) := by
  rw [List.Nodup.erase_eq_filter h]
  refine List.filter_congr fun x _ => ?_
  by_cases e : x = r
  · subst e; simp
  · simp [e]
theorem fig_nodup : FIG.Nodup := by decide
theorem free_nodup {c : Nat} : (free0 R seen w c).Nodup := ((fig_nodup.sublist (List.take_sublist _ _)).sublist List.filter_sublist)
/-- the greedy fill and a letter's search go side by side -/
theorem side {c k : Nat} {la : Int} (hc : c ∈ ABC) (hw : Lw w) (hl : seen.length = w.length) (hs : SeenOk R seen) (hk : k ≤ seen.length) :
    (seen.zipIdx.take k).foldl (hstep w c) (free0 R seen w c, la) = ((free0 R seen w c).filter fun r => decide (r ∉ greedy R seen w (seen.zipIdx.take k)), la + (unm seen w c (greedy R seen w (seen.zipIdx.take k)) k : Nat)) := by
  induction k with
  | zero =>
    have : ((free0 R seen w c).filter fun r => decide (r ∉ greedy R seen w (seen.zipIdx.take 0))) = free0 R seen w c := by
      rw [List.filter_eq_self]
      intro r _
      rw [List.take_zero]
      simp [greedy]
    rw [this, List.take_zero]
    show (free0 R seen w c, la) = (free0 R seen w c, la + (0 : Nat))
    simp
  | succ k ih =>
    have hlt : k < seen.length := by omega
    have hkw : k < w.length := by omega
    have hwk : w[k]? = some w[k] := List.getElem?_eq_getElem hkw
    have hg : (greedy R seen w (seen.zipIdx.take k)).length = k := by
      rw [greedy_len, List.length_take, List.length_zipIdx]; omega
    have hsk : seen[k]? = some seen[k] := List.getElem?_eq_getElem hlt
    rw [zip_take hlt, List.foldl_append, ih (by omega), greedy_snoc, unm_snoc hg]
    generalize hG : greedy R seen w (seen.zipIdx.take k) = g at *
    show hstep w c _ (seen[k], k) = _
    unfold hstep
    have hgd : w.getD k 0 = w[k] := by rw [List.getD_eq_getElem?_getD, hwk] <;> rfl
    simp only [hgd]
    by_cases h63 : seen[k] = 63
    · by_cases hwc : w[k] = c
      · -- a hidden place of this letter
        rw [decide_eq_true h63, decide_eq_true hwc, Bool.true_and, if_pos rfl]
        have ec : (((free0 R seen w c).filter fun r => decide (r ∉ g)).filter fun r : Nat => decide ((r : Int) - 48 ≤ (k : Nat))) = cand R seen w g k := by
          unfold free0 cand
          rw [List.filter_filter, List.filter_filter]
          refine List.filter_congr fun r _ => ?_
          rw [hwk, hwc, Bool.eq_iff_iff]
          simp only [Bool.and_eq_true, decide_eq_true_eq]
          exact ⟨fun h => ⟨h.2.1, h.2.2, h.1.2, h.1.1⟩, fun h => ⟨⟨h.2.2.2, h.2.2.1⟩, h.1, h.2.1⟩⟩
        simp only [ec]
        have ep : pick R seen w g (seen[k], k) = (match cand R seen w g k with
            | [] => w.getD k 0
            | r :: _ => r) := by
          unfold pick
          rw [if_pos h63]
        rw [ep]
        cases hcd : cand R seen w g k with
        | nil =>
          show (_, _) = (_, _)
          simp only [hgd, hwc]
          have e1 : ((free0 R seen w c).filter fun r => decide (r ∉ g ++ [c])) = (free0 R seen w c).filter fun r => decide (r ∉ g) := by
            refine List.filter_congr fun r hr => ?_
            have hrf : r ∈ FIG := List.mem_of_mem_take (List.mem_filter.mp hr).1
            have : r ≠ c := fun z => nz_fig hrf (by rw [z]; exact hc)
            simp [this]
          rw [e1, if_pos ⟨by rw [hsk, h63], by rw [hwk, hwc], by trivial⟩]
          congr 1
          omega
        | cons r rest =>
          show (_, _) = (_, _)
          have hr : r ∈ cand R seen w g k := by rw [hcd]; exact List.mem_cons_self
          have hrf : r ∈ FIG := List.mem_of_mem_take (List.mem_filter.mp hr).1
          have hrc : r ≠ c := fun z => nz_fig hrf (by rw [z]; exact hc)
          simp only
          rw [if_neg (fun z => hrc z.2.2), erase_filter (free_nodup.sublist List.filter_sublist), List.filter_filter]
          congr 1
          refine List.filter_congr fun x _ => ?_
          rw [Bool.eq_iff_iff]
          simp only [Bool.and_eq_true, decide_eq_true_eq, List.mem_append, List.mem_singleton, not_or]
          exact ⟨fun ⟨a, b⟩ => ⟨b, a⟩, fun ⟨a, b⟩ => ⟨b, a⟩⟩
      · rw [decide_eq_true h63, decide_eq_false hwc]
        simp only [Bool.and_false, Bool.false_eq_true, if_false]
        rw [if_neg (fun z => hwc (by have := z.2.1; rw [hwk] at this; exact Option.some.inj this))]
        have e1 : ((free0 R seen w c).filter fun r => decide (r ∉ g ++ [pick R seen w g (seen[k], k)])) = (free0 R seen w c).filter fun r => decide (r ∉ g) := by
          refine List.filter_congr fun r hr => ?_
          obtain ⟨hr1, hr2⟩ := List.mem_filter.mp hr
          have hr2 := of_decide_eq_true hr2
          have hrf : r ∈ FIG := List.mem_of_mem_take hr1
          have : r ≠ pick R seen w g (seen[k], k) := fun z => by
            unfold pick at z
            rw [if_pos h63] at z
            cases hcd : cand R seen w g k with
            | nil =>
              simp only [hcd, hgd] at z
              exact nz_fig hrf (by rw [z]; exact hw _ (List.getElem_mem _))
            | cons r' rest =>
              simp only [hcd] at z
              subst z
              have hr' : r ∈ cand R seen w g k := by rw [hcd]; exact List.mem_cons_self
              have := of_decide_eq_true (List.mem_filter.mp hr').2
              rw [hr2.2, hwk] at this
              exact hwc (Option.some.inj this.2.1).symm
          simp [this]
        rw [e1] <;> simp
    · rw [decide_eq_false h63]
      simp only [Bool.false_and, Bool.false_eq_true, if_false]
      rw [if_neg (fun z => h63 (by have := z.1; rw [hsk] at this; exact Option.some.inj this))]
      have e1 : ((free0 R seen w c).filter fun r => decide (r ∉ g ++ [pick R seen w g (seen[k], k)])) = (free0 R seen w c).filter fun r => decide (r ∉ g) := by
        refine List.filter_congr fun r hr => ?_
        have hr2 := of_decide_eq_true (List.mem_filter.mp hr).2
        have : r ≠ pick R seen w g (seen[k], k) := fun z => by
          unfold pick at z
          rw [if_neg h63] at z
          exact hr2.1 (by rw [z]; exact List.getElem_mem _)
        simp [this]
      rw [e1] <;> simp
theorem two_count {l : List Nat} {x i j : Nat} (h1 : l[i]? = some x) (h2 : l[j]? = some x) (h : i < j) : 2 ≤ l.count x := by
  have e := List.take_append_drop j l
  have c1 : 1 ≤ (l.take j).count x := by
    rw [List.one_le_count_iff]
    exact List.mem_of_getElem? (i := i) (by rw [List.getElem?_take_of_lt h]; exact h1)
  have c2 : 1 ≤ (l.drop j).count x := by
    rw [List.one_le_count_iff]
    exact List.mem_of_getElem? (i := 0) (by rw [List.getElem?_drop]; exact h2)
  rw [← e, List.count_append]
  omega
theorem of_cand {g : List Nat} {i r : Nat} (h : r ∈ cand R seen w g i) : r ∈ FIG.take R ∧ r ∉ seen ∧ w[r - 49]? = w[i]? ∧ r ∉ g ∧ r - 48 ≤ i := by
  obtain ⟨h1, h2⟩ := List.mem_filter.mp h
  have h2 := of_decide_eq_true h2
  exact ⟨h1, h2.1, h2.2.1, h2.2.2.1, by have := h2.2.2.2; omega⟩
theorem greedy_fill {k : Nat} (hw : Lw w) (hl : seen.length = w.length) (hs : SeenOk R seen) (hf : fitsP seen w) (hk : k ≤ seen.length) :
    Fill R seen w (greedy R seen w (seen.zipIdx.take k)) ∧ ∀ j x : Nat, (greedy R seen w (seen.zipIdx.take k))[j]? = some x → seen[j]? = some 63 → x ∈ FIG → x ∉ seen := by
  induction k with
  | zero => exact ⟨⟨⟨Nat.zero_le _, fun i c h => by rw [List.take_zero] at h; simp [greedy] at h⟩, fun i c h => by rw [List.take_zero] at h; simp [greedy] at h⟩, fun j x h => by rw [List.take_zero] at h; simp [greedy] at h⟩
  | succ k ih =>
    have hlt : k < seen.length := by omega
    have hkw : k < w.length := by omega
    have hwk : w[k]? = some w[k] := List.getElem?_eq_getElem hkw
    have hsk : seen[k]? = some seen[k] := List.getElem?_eq_getElem hlt
    have hg : (greedy R seen w (seen.zipIdx.take k)).length = k := by
      rw [greedy_len, List.length_take, List.length_zipIdx]; omega
    obtain ⟨i1, i2⟩ := ih (by omega)
    rw [zip_take hlt, greedy_snoc]
    generalize greedy R seen w (seen.zipIdx.take k) = g at *
    have hgd : w.getD k 0 = w[k] := by rw [List.getD_eq_getElem?_getD, hwk] <;> rfl
    have key : ∀ o, o = pick R seen w g (seen[k], k) → (o ∈ ABC ∨ o ∈ FIG.take R) ∧ (seen[k]? = some o ∨ seen[k]? = some 63) ∧ ((w[k]? = some o ∧ o ∈ ABC) ∨ (o ∈ FIG ∧ o - 48 ≤ k ∧ w[o - 49]? = w[k]? ∧ o ∉ g)) ∧ (seen[k]? = some 63 → o ∈ FIG → o ∉ seen) := by
      intro o ho
      unfold pick at ho
      by_cases h63 : seen[k] = 63
      · rw [if_pos h63] at ho
        have h63' : seen[k]? = some 63 := by rw [hsk, h63]
        cases hcd : cand R seen w g k with
        | nil =>
          simp only [hcd, hgd] at ho
          have hA : o ∈ ABC := by rw [ho]; exact hw _ (List.getElem_mem _)
          exact ⟨.inl hA, .inr h63', .inl ⟨by rw [hwk, ho], hA⟩, fun _ z => absurd hA (nz_fig z)⟩
        | cons r rest =>
          simp only [hcd] at ho
          subst ho
          obtain ⟨r1, r2, r3, r4, r5⟩ := of_cand (show o ∈ cand R seen w g k by rw [hcd]; exact List.mem_cons_self)
          exact ⟨.inr r1, .inr h63', .inr ⟨List.mem_of_mem_take r1, r5, r3, r4⟩, fun _ _ => r2⟩
      · rw [if_neg h63] at ho
        have ho : o = seen[k] := ho
        have hso : seen[k]? = some o := by rw [hsk, ho]
        have ho63 : o ≠ 63 := by rw [ho]; exact h63
        obtain ⟨f1, f2⟩ := hf k o hso
        rcases hs o (List.mem_of_getElem? hso) with q | q | q
        · exact ⟨.inl q, .inl hso, .inl ⟨f1 q, q⟩, fun z => by rw [hso] at z; exact absurd (Option.some.inj z) ho63⟩
        · have qf := List.mem_of_mem_take q
          obtain ⟨g1, g2, g3⟩ := f2 qf
          refine ⟨.inr q, .inl hso, .inr ⟨qf, g2, g3, fun hm => ?_⟩, fun z => by rw [hso] at z; exact absurd (Option.some.inj z) ho63⟩
          obtain ⟨j, hj⟩ := List.getElem?_of_mem hm
          have hjk : j < k := by have := (List.getElem?_eq_some_iff.mp hj).1; omega
          rcases (i1.2 j o hj).2 with e | e
          · have := two_count e hso hjk
            omega
          · exact i2 j o hj e qf (List.mem_of_getElem? hso)
        · exact absurd q ho63
    obtain ⟨k1, k2, k3, k4⟩ := key _ rfl
    refine ⟨i1.snoc (i1.1.snoc (by omega) (by rw [hg]; exact k3)) k1 (by rw [hg]; exact k2), fun j x hx h6 hxf => ?_⟩
    by_cases hj : j < g.length
    · rw [List.getElem?_append_left hj] at hx
      exact i2 j x hx h6 hxf
    · have hj2 : j = g.length := by
        have := (List.getElem?_eq_some_iff.mp hx).1
        rw [List.length_append, List.length_singleton] at this
        omega
      subst hj2
      rw [List.getElem?_append_right (Nat.le_refl _), Nat.sub_self] at hx
      cases hx
      rw [hg] at h6
      exact k4 h6 hxf
/-! ### counting -/
theorem count_range (f : List Nat) (c : Nat) : f.count c = (List.range f.length).countP fun j : Nat => decide (f[j]? = some c) := by
  have key : ∀ (n : Nat) (f : List Nat), f.length = n → f.count c = (List.range f.length).countP fun j : Nat => decide (f[j]? = some c) := by
    intro n
    induction n with
    | zero =>
      intro f h
      have : f = [] := List.length_eq_zero_iff.mp h
      subst this
      rfl
    | succ n ih =>
      intro f h
      have hne : f ≠ [] := fun z => by rw [z] at h; simp at h
      obtain ⟨g, o, rfl⟩ : ∃ v c, f = v ++ [c] := ⟨f.dropLast, f.getLast hne, (List.dropLast_concat_getLast hne).symm⟩
      have hg : g.length = n := by simpa using h
      rw [List.count_append, ih g hg, List.length_append, List.length_singleton, List.range_succ, List.countP_append]
      congr 1
      · refine List.countP_congr fun j hj => ?_
        have := List.mem_range.mp hj
        rw [List.getElem?_append_left (by omega)]
      · rw [List.countP_cons, List.countP_nil, List.getElem?_append_right (Nat.le_refl _), Nat.sub_self]
        show List.count c [o] = _
        by_cases e : o = c
        · subst e; simp
        · simp [e]
  exact key f.length f rfl
theorem countP_add {p q r : Nat → Bool} : ∀ {l : List Nat}, (∀ j, j ∈ l → (p j = true ↔ q j = true ∨ r j = true) ∧ ¬ (q j = true ∧ r j = true)) → l.countP p = l.countP q + l.countP r
  | [], _ => rfl
  | a :: l, h => by
    rw [List.countP_cons, List.countP_cons, List.countP_cons, countP_add fun j hj => h j (List.mem_cons_of_mem _ hj)]
    obtain ⟨h1, h2⟩ := h a List.mem_cons_self
    cases hp : p a <;> cases hq : q a <;> cases hr : r a <;> simp [hp, hq, hr] at h1 h2 ⊢ <;> omega
theorem count_eq {f : List Nat} {c : Nat} (hc : c ∈ ABC) (hl : seen.length = w.length) (hf : f.length = w.length) (h : Fill R seen w f) : f.count c = seen.count c + unm seen w c f w.length := by
  rw [count_range f, count_range seen, hf, hl]
  refine countP_add fun j hj => ?_
  have hj := List.mem_range.mp hj
  have hfj : f[j]? = some f[j] := List.getElem?_eq_getElem (by omega)
  have h63 : c ≠ 63 := fun z => by have := abc_ge hc; omega
  simp only [decide_eq_true_eq]
  refine ⟨⟨fun e => ?_, fun e => ?_⟩, fun e => ?_⟩
  · rcases (h.2 j c e).2 with q | q
    · exact .inl q
    · refine .inr ⟨q, ?_, e⟩
      rcases h.1.2 j c e with ⟨z, _⟩ | ⟨z, _⟩
      · exact z
      · exact absurd hc (nz_fig z)
  · rcases e with e | e
    · rcases (h.2 j _ hfj).2 with q | q
      · rw [e] at q
        rw [hfj, ← q]
      · rw [e] at q
        exact absurd (Option.some.inj q) h63
    · exact e.2.2
  · rw [e.1] at e
    exact h63 (Option.some.inj e.2.1)
def hidN (seen w : List Nat) (c k : Nat) : Nat := (List.range k).countP fun j : Nat => decide (seen[j]? = some 63 ∧ w[j]? = some c)
def matL (seen w : List Nat) (c : Nat) (f : List Nat) (k : Nat) : List Nat := (List.range k).filter fun j : Nat => decide (seen[j]? = some 63 ∧ w[j]? = some c ∧ f[j]? ≠ some c)
theorem hid_eq {c k : Nat} {f : List Nat} : hidN seen w c k = unm seen w c f k + (matL seen w c f k).length := by
  unfold hidN unm matL
  rw [← List.countP_eq_length_filter]
  refine countP_add fun j _ => ?_
  simp only [decide_eq_true_eq]
  refine ⟨⟨fun e => ?_, fun e => ?_⟩, fun e => e.2.2.2 e.1.2.2⟩
  · by_cases h : f[j]? = some c
    · exact .inl ⟨e.1, e.2, h⟩
    · exact .inr ⟨e.1, e.2, h⟩
  · rcases e with e | e
    · exact ⟨e.1, e.2.1⟩
    · exact ⟨e.1, e.2.1⟩
theorem laid_dis {f : List Nat} {i j x : Nat} (h : Laid w f) (h1 : f[i]? = some x) (h2 : f[j]? = some x) (hx : x ∈ FIG) (hij : i < j) : False := by
  rcases h.2 j x h2 with ⟨_, z⟩ | ⟨_, _, _, z⟩
  · exact nz_fig hx z
  · exact z (List.mem_of_getElem? (i := i) (by rw [List.getElem?_take_of_lt hij]; exact h1))
theorem mat_le {f : List Nat} {c k : Nat} (hc : c ∈ ABC) (hl : seen.length = w.length) (hf : f.length = w.length) (hk : k < w.length) (h : Fill R seen w f) :
    (matL seen w c f (k + 1)).length ≤ ((free0 R seen w c).filter fun r : Nat => decide (r - 48 ≤ k)).length := by
  have hfig : ∀ j, j ∈ matL seen w c f (k + 1) → ∃ r, f[j]? = some r ∧ r ∈ FIG ∧ r ∈ FIG.take R ∧ seen[j]? = some 63 ∧ w[j]? = some c ∧ j ≤ k ∧ r - 48 ≤ j ∧ w[r - 49]? = some c := by
    intro j hj
    obtain ⟨j1, j2⟩ := List.mem_filter.mp hj
    have j1 := List.mem_range.mp j1
    have j2 := of_decide_eq_true j2
    have hfj : f[j]? = some f[j] := List.getElem?_eq_getElem (by omega)
    rcases h.1.2 j _ hfj with ⟨z, _⟩ | ⟨z1, z2, z3, _⟩
    · rw [j2.2.1] at z
      rw [hfj, ← z] at j2
      exact absurd rfl j2.2.2
    · refine ⟨_, hfj, z1, ?_, j2.1, j2.2.1, by omega, z2, by rw [z3, j2.2.1]⟩
      rcases (h.2 j _ hfj).1 with q | q
      · exact absurd q (nz_fig z1)
      · exact q
  have e : (matL seen w c f (k + 1)).length = ((matL seen w c f (k + 1)).map fun j => f.getD j 0).length := by rw [List.length_map]
  rw [e]
  refine sub_len ?_ fun x hx => ?_
  · show List.Pairwise _ _
    rw [List.pairwise_map]
    have lt : List.Pairwise (· < ·) (matL seen w c f (k + 1)) := List.pairwise_lt_range.sublist List.filter_sublist
    refine List.Pairwise.imp_of_mem (fun {a b} ha hb hab z => ?_) lt
    obtain ⟨r, r1, r2, _⟩ := hfig a ha
    obtain ⟨q, q1, q2, _⟩ := hfig b hb
    rw [List.getD_eq_getElem?_getD, List.getD_eq_getElem?_getD, r1, q1] at z
    have z : r = q := z
    subst z
    exact laid_dis h.1 r1 q1 r2 hab
  · obtain ⟨j, hj, rfl⟩ := List.mem_map.mp hx
    obtain ⟨r, r1, r2, r3, r4, r5, r6, r7, r8⟩ := hfig j hj
    have er : f.getD j 0 = r := by rw [List.getD_eq_getElem?_getD, r1] <;> rfl
    rw [er]
    refine List.mem_filter.mpr ⟨List.mem_filter.mpr ⟨r3, decide_eq_true ⟨fun hm => ?_, r8⟩⟩, decide_eq_true (by omega)⟩
    obtain ⟨i, hi⟩ := List.getElem?_of_mem hm
    have hil : i < f.length := by have := (List.getElem?_eq_some_iff.mp hi).1; omega
    have hfi : f[i]? = some f[i] := List.getElem?_eq_getElem hil
    have ge := fig_ge r2
    have efi : f[i] = r := by
      rcases (h.2 i _ hfi).2 with q | q
      · rw [hi] at q; exact (Option.some.inj q).symm
      · rw [hi] at q
        have := Option.some.inj q
        omega
    rw [efi] at hfi
    rcases Nat.lt_trichotomy i j with z | z | z
    · exact laid_dis h.1 hfi r1 r2 z
    · subst z
      rw [hi] at r4
      have := Option.some.inj r4
      omega
    · exact laid_dis h.1 r1 hfi r2 z
/-- the greedy fill leaves the fewest places to a letter -/
theorem greedy_best {f : List Nat} {c k : Nat} (hc : c ∈ ABC) (hw : Lw w) (hl : seen.length = w.length) (hs : SeenOk R seen) (hp : fitsP seen w) (hf : f.length = w.length) (h : Fill R seen w f) (hk : k ≤ seen.length) :
    unm seen w c (greedy R seen w (seen.zipIdx.take k)) k ≤ unm seen w c f k := by
  induction k with
  | zero => exact Nat.le_refl _
  | succ k ih =>
    have hlt : k < seen.length := by omega
    have hkw : k < w.length := by omega
    have hwk : w[k]? = some w[k] := List.getElem?_eq_getElem hkw
    have hsk : seen[k]? = some seen[k] := List.getElem?_eq_getElem hlt
    have hg : (greedy R seen w (seen.zipIdx.take k)).length = k := by
      rw [greedy_len, List.length_take, List.length_zipIdx]; omega
    have gf := (greedy_fill hw hl hs hp (k := k) (by omega)).1
    have i1 := ih (by omega)
    have mono : unm seen w c f k ≤ unm seen w c f (k + 1) := by
      unfold unm
      rw [List.range_succ, List.countP_append]
      omega
    rw [zip_take hlt, greedy_snoc]
    have us := unm_snoc (seen := seen) (w := w) (c := c) (o := pick R seen w (greedy R seen w (seen.zipIdx.take k)) (seen[k], k)) hg
    generalize greedy R seen w (seen.zipIdx.take k) = g at *
    by_cases hid : seen[k]? = some 63 ∧ w[k]? = some c ∧ pick R seen w g (seen[k], k) = c
    · have h63 : seen[k] = 63 := by rw [hsk] at hid; exact Option.some.inj hid.1
      have cd : cand R seen w g k = [] := by
        cases hcd : cand R seen w g k with
        | nil => rfl
        | cons r rest =>
          have hp2 := hid.2.2
          unfold pick at hp2
          rw [if_pos h63] at hp2
          simp only [hcd] at hp2
          have := of_cand (show r ∈ cand R seen w g k by rw [hcd]; exact List.mem_cons_self)
          rw [hp2] at this
          exact absurd hc (nz_fig (List.mem_of_mem_take this.1))
      have e1 := hid_eq (seen := seen) (w := w) (c := c) (k := k + 1) (f := f)
      have e2 := hid_eq (seen := seen) (w := w) (c := c) (k := k + 1) (f := g ++ [pick R seen w g (seen[k], k)])
      have e3 := mat_le hc hl hf hkw h
      have e4 : ((free0 R seen w c).filter fun r : Nat => decide (r - 48 ≤ k)).length ≤ (matL seen w c (g ++ [pick R seen w g (seen[k], k)]) (k + 1)).length := by
        have e : (matL seen w c (g ++ [pick R seen w g (seen[k], k)]) (k + 1)).length = ((matL seen w c (g ++ [pick R seen w g (seen[k], k)]) (k + 1)).map fun j => g.getD j 0).length := by rw [List.length_map]
        rw [e]
        refine sub_len (free_nodup.sublist List.filter_sublist) fun r hr => ?_
        obtain ⟨r1, r2⟩ := List.mem_filter.mp hr
        obtain ⟨r3, r4⟩ := List.mem_filter.mp r1
        have r2 := of_decide_eq_true r2
        have r4 := of_decide_eq_true r4
        have rf := List.mem_of_mem_take r3
        have rg : r ∈ g := by
          by_cases hm : r ∈ g
          · exact hm
          · exfalso
            have : r ∈ cand R seen w g k := List.mem_filter.mpr ⟨r3, decide_eq_true ⟨r4.1, by rw [r4.2, hid.2.1], hm, by have := fig_ge rf; omega⟩⟩
            rw [cd] at this
            cases this
        obtain ⟨j, hj⟩ := List.getElem?_of_mem rg
        have hjk : j < g.length := (List.getElem?_eq_some_iff.mp hj).1
        refine List.mem_map.mpr ⟨j, List.mem_filter.mpr ⟨List.mem_range.mpr (by omega), decide_eq_true ⟨?_, ?_, ?_⟩⟩, by rw [List.getD_eq_getElem?_getD, hj] <;> rfl⟩
        · rcases (gf.2 j r hj).2 with q | q
          · exact absurd (List.mem_of_getElem? q) r4.1
          · exact q
        · rcases gf.1.2 j r hj with ⟨_, z⟩ | ⟨_, _, z, _⟩
          · exact absurd z (nz_fig rf)
          · rw [← z, r4.2]
        · rw [List.getElem?_append_left hjk, hj]
          intro z
          have := Option.some.inj z
          rw [this] at rf
          exact nz_fig rf hc
      omega
    · rw [if_neg hid] at us
      omega
theorem could_iff {S : Int} (hw : Lw w) (hl : seen.length = w.length) (hs : SeenOk R seen) :
    (fitsP seen w ∧ ∀ c, c ∈ ABC → lackF R seen w S c ≤ 0) ↔ ∃ f, f.length = w.length ∧ Fill R seen w f ∧ ∀ c, c ∈ ABC → (f.count c : Int) ≤ S := by
  have all : seen.zipIdx.take seen.length = seen.zipIdx := by rw [List.take_of_length_le]; rw [List.length_zipIdx]; exact Nat.le_refl _
  have lk : ∀ c, c ∈ ABC → lackF R seen w S c = (seen.count c : Int) - S + (unm seen w c (greedy R seen w seen.zipIdx) w.length : Nat) := fun c hc => by
    have := side (R := R) (la := (seen.count c : Int) - S) hc hw hl hs (Nat.le_refl _)
    rw [all] at this
    unfold lackF
    rw [this, hl]
  have gl : (greedy R seen w seen.zipIdx).length = w.length := by rw [greedy_len, List.length_zipIdx, hl]
  constructor
  · rintro ⟨hp, hc⟩
    have gf := (greedy_fill hw hl hs hp (Nat.le_refl _)).1
    rw [all] at gf
    refine ⟨_, gl, gf, fun c h => ?_⟩
    have h1 := hc c h
    rw [lk c h] at h1
    have h2 := count_eq h hl gl gf
    omega
  · rintro ⟨f, hf, h, hcount⟩
    have hp : fitsP seen w := by
      intro i x hx
      have hi := (List.getElem?_eq_some_iff.mp hx).1
      have hfi : f[i]? = some f[i] := List.getElem?_eq_getElem (by omega)
      have same : x ≠ 63 → f[i]? = some x := fun n => by
        rcases (h.2 i _ hfi).2 with q | q
        · rw [hx] at q; rw [hfi, ← q]
        · rw [hx] at q; exact absurd (Option.some.inj q) n
      refine ⟨fun hA => ?_, fun hF => ?_⟩
      · have := same (fun z => by have := abc_ge hA; omega)
        rcases h.1.2 i x this with ⟨q, _⟩ | ⟨q, _⟩
        · exact q
        · exact absurd hA (nz_fig q)
      · have n63 : x ≠ 63 := fun z => by have := fig_ge hF; omega
        have := same n63
        rcases h.1.2 i x this with ⟨_, q⟩ | ⟨_, q2, q3, _⟩
        · exact absurd q (nz_fig hF)
        · refine ⟨?_, q2, q3⟩
          have c1 : f.count x ≤ 1 := count_one fun j hj hm => by
            rcases h.1.2 j x hj with ⟨_, q⟩ | ⟨_, _, _, q⟩
            · exact nz_fig hF q
            · exact q hm
          have c2 : seen.count x ≤ f.count x := by
            rw [count_range seen, count_range f, hl, hf]
            refine List.countP_mono_left fun j hj e => ?_
            have hj := List.mem_range.mp hj
            have e := of_decide_eq_true e
            have hfj : f[j]? = some f[j] := List.getElem?_eq_getElem (by omega)
            refine decide_eq_true ?_
            rcases (h.2 j _ hfj).2 with q | q
            · rw [e] at q; rw [hfj, ← q]
            · rw [e] at q; exact absurd (Option.some.inj q) n63
          omega
    refine ⟨hp, fun c hc => ?_⟩
    rw [lk c hc]
    have h1 := count_eq hc hl hf h
    have h2 := greedy_best hc hw hl hs hp hf h (Nat.le_refl _)
    rw [all, hl] at h2
    have := hcount c hc
    omega
end Gl
set_option Elab.async false
set_option linter.all false
set_option maxRecDepth 100000
set_option maxHeartbeats 4000000
namespace Gl
open PySem PySem.Spec PyProof.Rows L2 FH
local macro_rules | `(tactic| decreasing_trivial) => `(tactic| first | assumption | exact of_decide_eq_true (by assumption) | rfl | omega | (unfold LIM; omega) | (simp only [cS_len, List.length_map, List.length_range, List.length_zipIdx, List.length_append, List.length_cons, List.length_nil, LIM]; omega) | (simp only [List.mem_range] at *; omega) | decide)
local macro_rules | `(tactic| array_get_dec) => `(tactic| first
  | with_reducible exact Ev.litI | with_reducible exact Ev.litT | with_reducible exact Ev.litB | with_reducible exact Ev.litN | with_reducible exact Ev.glbI | with_reducible exact Ev.glbT | ((with_reducible apply Ev.var); rfl)
  | with_reducible exact EvA.nil | with_reducible exact EvN.nil | with_reducible exact EvD.nil
  | ((with_reducible apply EvA.consX); (· array_get_dec); (· array_get_dec); (· rfl))
  | ((with_reducible apply EvN.consX); (· array_get_dec); (· array_get_dec); (· rfl))
  | ((with_reducible apply EvD.consX); (· array_get_dec); (· array_get_dec); (· rfl); (· rfl))
  | ((with_reducible apply EvA.mv); (· rfl); (· array_get_dec); (· decide))
  | ((with_reducible apply Ev.one); array_get_dec) | ((with_reducible apply Ev.not); array_get_dec) | ((with_reducible apply Ev.frzX); (· array_get_dec); (· rfl))
  | ((with_reducible apply Ev.and); (· array_get_dec); (· (intro _; array_get_dec)))
  | ((with_reducible apply Ev.or); (· array_get_dec); (· (intro _; array_get_dec)))
  | ((with_reducible apply Ev.lst); array_get_dec) | ((with_reducible apply Ev.tup); array_get_dec)
  | ((with_reducible apply Ev.prX); (· array_get_dec); (· decreasing_trivial_pre_omega); (· rfl))
  | ((with_reducible apply Ev.mtX); (· array_get_dec); (· array_get_dec); (· rfl); (· rfl); (· decreasing_trivial_pre_omega); (· rfl))
  | ((with_reducible apply Ev.chLL); (· array_get_dec); (· array_get_dec); (· array_get_dec))
  | ((with_reducible apply Ev.chlL); (· array_get_dec); (· array_get_dec); (· array_get_dec))
  | ((with_reducible apply Ev.chLl); (· array_get_dec); (· array_get_dec); (· array_get_dec))
  | ((with_reducible apply Ev.chll); (· array_get_dec); (· array_get_dec); (· array_get_dec))
  | ((with_reducible apply Ev.iteB); (· array_get_dec); (· (intro _; array_get_dec)); (· (intro _; array_get_dec)))
  | ((with_reducible apply Ev.iteI); (· array_get_dec); (· (intro _; array_get_dec)); (· (intro _; array_get_dec)))
  | ((with_reducible apply Ev.iteC); (· array_get_dec); (· (intro _; array_get_dec)); (· (intro _; array_get_dec)))
  | ((with_reducible apply Ev.iteT); (· array_get_dec); (· (intro _; array_get_dec)); (· (intro _; array_get_dec)))
  | ((with_reducible apply EvI.tx); (· array_get_dec); (· decreasing_trivial))
  | ((with_reducible apply EvI.ls); (· array_get_dec); (· decreasing_trivial))
  | ((with_reducible apply EvI.lo); (· array_get_dec); (· decreasing_trivial))
  | ((with_reducible apply EvI.tu); (· array_get_dec); (· decreasing_trivial))
  | ((with_reducible apply EvI.etx); (· array_get_dec); (· decreasing_trivial))
  | ((with_reducible apply EvI.els); (· array_get_dec); (· decreasing_trivial))
  | ((with_reducible apply EvI.rz1); (· array_get_dec); (· rfl); (· decreasing_trivial); (· decreasing_trivial))
  | ((with_reducible apply EvI.rz2); (· array_get_dec); (· array_get_dec); (· rfl); (· rfl); all_goals decreasing_trivial)
  | ((with_reducible apply Ev.comp); (· array_get_dec); (· decreasing_trivial); (· rfl); (· rfl); (· exact fun _ => rfl); (· (intro _ _; array_get_dec)))
  | ((with_reducible apply Ev.compIf); (· rfl); (· array_get_dec); (· decreasing_trivial); (· rfl); (· rfl); (· exact fun _ => rfl); (· (intro _ _; array_get_dec)); (· (intro _ _ _; array_get_dec)))
  | ((with_reducible apply Ev.lkS); (· rfl); (· array_get_dec); (· assumption))
  | ((with_reducible apply Ev.lkR); (· rfl); (· array_get_dec); (· assumption))
  | ((with_reducible apply Ev.lkM); (· rfl); (· array_get_dec); (· assumption))
  | ((with_reducible apply Ev.lkI); (· array_get_dec); (· array_get_dec); (· array_get_dec); (· rfl); (· rfl); (· rfl); (· assumption); all_goals decreasing_trivial)
  | ((with_reducible apply Ev.fvX); (· array_get_dec); (· ((with_reducible apply_assumption) <;> decreasing_trivial))))
local macro_rules | `(tactic| decreasing_trivial_pre_omega) => `(tactic| (dsimp only [List.map, R.d, dV, sh1]; first
  | with_reducible exact sem_gt | with_reducible exact sem_ge | with_reducible exact sem_lt | with_reducible exact sem_le
  | with_reducible exact sem_inS | with_reducible exact sem_ninS | with_reducible exact sem_eqI | with_reducible exact sem_neI | with_reducible exact sem_eqB | with_reducible exact sem_neB | with_reducible exact sem_isB | with_reducible exact sem_nisB | with_reducible exact sem_reprB
  | with_reducible exact sem_eqCC | with_reducible exact sem_neCC | with_reducible exact sem_eqS | with_reducible exact sem_neS | with_reducible exact sem_eqX | with_reducible exact sem_neX | with_reducible exact sem_addI | with_reducible exact sem_subI | with_reducible exact sem_lenL | with_reducible exact sem_lenT
  | with_reducible exact sem_intB | with_reducible exact sem_max2 | with_reducible exact sem_min2 | with_reducible exact mt_countS | with_reducible exact sem_all | with_reducible exact sem_any | with_reducible exact sem_sum
  | with_reducible exact fld_s | with_reducible exact fld_r | with_reducible exact fld_m | with_reducible exact isc_lk | with_reducible exact is_strS | with_reducible exact is_intI | with_reducible exact is_boolI | with_reducible exact is_lstL | with_reducible exact is_tupT | with_reducible exact is_ltL | with_reducible exact is_ltT | with_reducible exact is_dicD
  | ((with_reducible refine sem_isI ?_); first | rfl | decreasing_trivial)
  | ((with_reducible refine sem_intF ?_); decreasing_trivial)
  | ((with_reducible refine sem_lenS ?_); decreasing_trivial)
  | ((with_reducible refine sem_addS ?_); decreasing_trivial)
  | ((with_reducible refine sem_addL ?_); decreasing_trivial)
  | ((with_reducible refine sem_slS ?_ ?_) <;> decreasing_trivial)
  | ((with_reducible refine sem_slS2 ?_ ?_) <;> decreasing_trivial)
  | ((with_reducible refine sem_slS3 ?_ ?_ ?_) <;> decreasing_trivial)
  | ((with_reducible refine sem_slL ?_) <;> decreasing_trivial)
  | ((with_reducible refine sem_slL2 ?_) <;> decreasing_trivial)
  | ((with_reducible refine sem_slL3 ?_ ?_) <;> decreasing_trivial)
  | ((with_reducible refine sem_idxSg ?_ ?_ ?_) <;> decreasing_trivial)
  | ((with_reducible refine sem_idxWs ?_ ?_) <;> decreasing_trivial)
  | ((with_reducible refine sem_idxCs ?_ ?_) <;> decreasing_trivial)
  | ((with_reducible refine sem_strD ?_ ?_) <;> decreasing_trivial)
  | ((with_reducible refine sem_listS ?_); decreasing_trivial)
  | ((with_reducible refine sem_rvS ?_); decreasing_trivial)
  | with_reducible exact mt_startsS
  | rfl))
section
variable {tab : List DT} {n : Nat}
@[reducible] def PWord (Φ : FT) : Prop := ∀ w, w.length ≤ 5000 → Fv Φ "is_word" [dS w] (rB (wordy ABC 40 w))
theorem PWord.of (h : findT tab "is_word" = some is_wordT) (S1 : PMadeS (PT tab n)) : PWord (PT tab (n + 1)) := fun w hw => fv_of h rfl rfl (by
  have l2 : ABC.length ≤ 5000 := by decide
  apply Wp.retE
  · array_get_dec
  · rfl)
theorem seen_lim {r : Nat} : (ABC ++ FIG.take r).length + [63].length ≤ LIM := by
  have := abf_len (r := r)
  unfold LIM
  simp only [List.length_cons, List.length_nil]
  omega
theorem seen_len {r : Nat} : ((ABC ++ FIG.take r) ++ [63]).length ≤ 5000 := by
  rw [List.length_append, List.length_append]
  have := take9 (r := r)
  show 26 + _ + 1 ≤ _
  omega
@[reducible] def PNeedSeen (Φ : FT) : Prop := ∀ s r m w, 0 ≤ r → w.length ≤ 5000 → wordy ((ABC ++ FIG.take r.toNat) ++ [63]) m w = true → Fv Φ "need_seen" [lkD s r m, dS w] (.sh .non)
theorem PNeedSeen.of (h : findT tab "need_seen" = some need_seenT) (S1 : PMadeS (PT tab n)) (S3 : PRep (PT tab n)) (S4 : PLm (PT tab n)) : PNeedSeen (PT tab (n + 1)) := fun s r m w hr hw ok => fv_of h rfl rfl (by
  have l1 := abf_lim (r := r.toNat)
  have l2 := seen_len (r := r.toNat)
  have l3 := seen_lim (r := r.toNat)
  apply Wp.if1
  · array_get_dec
  · intro ht
    rw [ok] at ht
    cases ht
  · intro _
    exact Wp.nil rfl)
noncomputable def fitsV (seen w : List Nat) : Bool := @decide (fitsP seen w) (Classical.propDecidable _)
def fitAt (seen w : List Nat) (p : Nat × Nat) : Prop := (p.1 ∈ ABC → w[p.2]? = some p.1) ∧ (p.1 ∈ FIG → seen.count p.1 ≤ 1 ∧ p.1 - 48 ≤ p.2 ∧ w[p.1 - 49]? = w[p.2]?)
theorem fits_false {seen w : List Nat} {p : Nat × Nat} (hp : p ∈ seen.zipIdx) (h : ¬ fitAt seen w p) : fitsV seen w = false := by
  unfold fitsV
  refine @decide_eq_false _ (Classical.propDecidable _) fun z => h ?_
  have := List.mem_zipIdx_iff_getElem?.mp hp
  exact z p.2 p.1 this
theorem fits_true {seen w : List Nat} (h : ∀ p, p ∈ seen.zipIdx → fitAt seen w p) : fitsV seen w = true := by
  unfold fitsV
  refine @decide_eq_true _ (Classical.propDecidable _) fun i x hx => ?_
  exact h (x, i) (mem_zipIdx hx)
@[reducible] def PFits (Φ : FT) : Prop := ∀ seen w, w.length = seen.length → w.length ≤ 5000 → Fv Φ "fits" [dS seen, dS w] (rB (fitsV seen w))
theorem PFits.of (h : findT tab "fits" = some fitsT) : PFits (PT tab (n + 1)) := fun seen w hl hw => fv_of h rfl rfl (by
  have hs : seen.length ≤ 5000 := by omega
  refine Wp.forV (enc := fun p : Nat × Nat => FH.D.tup [.int (p.2 : Nat), dC p.1]) (l := seen.zipIdx) (fun done e => (∀ p, p ∈ done → fitAt seen w p) ∧ ∃ a b, e = [some (rS seen), some (rS w), a, b]) (by array_get_dec) ⟨fun _ z => (nomatch z), _, _, rfl⟩ ?_ ?_
  · rintro done p rest e he ⟨hd, a, b, rfl⟩
    have hp : p ∈ seen.zipIdx := by rw [he]; simp
    have hp2 : seen[p.2]? = some p.1 := List.mem_zipIdx_iff_getElem?.mp hp
    have hlt : p.2 < w.length := by
      have := (List.getElem?_eq_some_iff.mp hp2).1
      omega
    have hwp : w[p.2]? = some (w.getD p.2 0) := by
      rw [List.getD_eq_getElem?_getD, List.getElem?_eq_getElem hlt] <;> rfl
    refine ⟨_, rfl, Wp.at_env (e := [_, _, some (.sh (.int (p.2 : Nat))), some (.sh (dC p.1))]) ?_ rfl⟩
    apply Wp.if1
    · array_get_dec
    · intro ht
      refine Wp.retV (v := rB false) (by array_get_dec) ?_
      show rB false = rB (fitsV seen w)
      rw [fits_false hp]
      rintro ⟨z, _⟩
      simp only [Bool.and_eq_true, decide_eq_true_eq, Bool.not_eq_true', decide_eq_false_iff_not, Int.toNat_natCast] at ht
      have := z ht.1
      rw [hwp] at this
      exact ht.2 (Option.some.inj this).symm
    intro h1
    apply Wp.if1
    · with_reducible apply Ev.and
      · array_get_dec
      · intro hF
        have hF' := of_decide_eq_true hF
        have ge := fig_ge hF'
        with_reducible apply Ev.one
        with_reducible apply Ev.or
        · array_get_dec
        · intro _
          with_reducible apply Ev.or
          · array_get_dec
          · intro hle
            have hle' := of_decide_eq_false hle
            array_get_dec
    · intro ht
      refine Wp.retV (v := rB false) (by array_get_dec) ?_
      show rB false = rB (fitsV seen w)
      rw [fits_false hp]
      rintro ⟨_, z⟩
      simp only [Bool.and_eq_true, decide_eq_true_eq, Bool.not_eq_true', decide_eq_false_iff_not, Int.toNat_natCast, Bool.or_eq_true] at ht
      obtain ⟨z1, z2, z3⟩ := z ht.1
      have ge := fig_ge ht.1
      rcases ht.2 with q | q | q
      · omega
      · omega
      · rw [show ((p.1 : Int) - 48 - 1).toNat = p.1 - 49 by omega] at q
        rw [List.getD_eq_getElem?_getD, List.getD_eq_getElem?_getD, z3] at q
        exact q rfl
    intro h2
    refine Wp.nil ⟨fun q hq => ?_, _, _, rfl⟩
    rcases List.mem_append.mp hq with hq | hq
    · exact hd q hq
    · rw [List.mem_singleton.mp hq]
      refine ⟨fun hA => ?_, fun hF => ?_⟩
      · rw [decide_eq_true hA, Bool.true_and, Bool.not_eq_false', Int.toNat_natCast] at h1
        rw [hwp, ← of_decide_eq_true h1]
      · have ge := fig_ge hF
        rw [decide_eq_true hF, Bool.true_and] at h2
        simp only [Bool.or_eq_false_iff, decide_eq_false_iff_not, Bool.not_eq_false', decide_eq_true_eq, Int.toNat_natCast] at h2
        obtain ⟨a1, a2, a3⟩ := h2
        refine ⟨by omega, by omega, ?_⟩
        rw [show ((p.1 : Int) - 48 - 1).toNat = p.1 - 49 by omega] at a3
        rw [hwp, ← a3, List.getD_eq_getElem?_getD, List.getElem?_eq_getElem (by omega)] <;> rfl
  · rintro e ⟨hd, a, b, rfl⟩
    apply Wp.retE
    · array_get_dec
    · rw [fits_true hd])
end
end Gl
set_option Elab.async false
set_option linter.all false
set_option maxRecDepth 100000
set_option maxHeartbeats 4000000
namespace Gl
open PySem PySem.Spec PyProof.Rows L2 FH
local macro_rules | `(tactic| decreasing_trivial) => `(tactic| first | assumption | exact of_decide_eq_true (by assumption) | rfl | omega | (unfold LIM; omega) | (simp only [cS_len, List.length_map, List.length_range, List.length_zipIdx, List.length_append, List.length_cons, List.length_nil, LIM]; omega) | (simp only [List.mem_range] at *; omega) | decide)
local macro_rules | `(tactic| array_get_dec) => `(tactic| first
  | with_reducible exact Ev.litI | with_reducible exact Ev.litT | with_reducible exact Ev.litB | with_reducible exact Ev.litN | with_reducible exact Ev.glbI | with_reducible exact Ev.glbT | ((with_reducible apply Ev.var); rfl)
  | with_reducible exact EvA.nil | with_reducible exact EvN.nil | with_reducible exact EvD.nil
  | ((with_reducible apply EvA.consX); (· array_get_dec); (· array_get_dec); (· rfl))
  | ((with_reducible apply EvN.consX); (· array_get_dec); (· array_get_dec); (· rfl))
  | ((with_reducible apply EvD.consX); (· array_get_dec); (· array_get_dec); (· rfl); (· rfl))
  | ((with_reducible apply EvA.mv); (· rfl); (· array_get_dec); (· decide))
  | ((with_reducible apply Ev.one); array_get_dec) | ((with_reducible apply Ev.not); array_get_dec) | ((with_reducible apply Ev.frzX); (· array_get_dec); (· rfl))
  | ((with_reducible apply Ev.and); (· array_get_dec); (· (intro _; array_get_dec)))
  | ((with_reducible apply Ev.or); (· array_get_dec); (· (intro _; array_get_dec)))
  | ((with_reducible apply Ev.lst); array_get_dec) | ((with_reducible apply Ev.tup); array_get_dec)
  | ((with_reducible apply Ev.prX); (· array_get_dec); (· decreasing_trivial_pre_omega); (· rfl))
  | ((with_reducible apply Ev.mtX); (· array_get_dec); (· array_get_dec); (· rfl); (· rfl); (· decreasing_trivial_pre_omega); (· rfl))
  | ((with_reducible apply Ev.chLL); (· array_get_dec); (· array_get_dec); (· array_get_dec))
  | ((with_reducible apply Ev.chlL); (· array_get_dec); (· array_get_dec); (· array_get_dec))
  | ((with_reducible apply Ev.chLl); (· array_get_dec); (· array_get_dec); (· array_get_dec))
  | ((with_reducible apply Ev.chll); (· array_get_dec); (· array_get_dec); (· array_get_dec))
  | ((with_reducible apply Ev.iteB); (· array_get_dec); (· (intro _; array_get_dec)); (· (intro _; array_get_dec)))
  | ((with_reducible apply Ev.iteI); (· array_get_dec); (· (intro _; array_get_dec)); (· (intro _; array_get_dec)))
  | ((with_reducible apply Ev.iteC); (· array_get_dec); (· (intro _; array_get_dec)); (· (intro _; array_get_dec)))
  | ((with_reducible apply Ev.iteT); (· array_get_dec); (· (intro _; array_get_dec)); (· (intro _; array_get_dec)))
  | ((with_reducible apply EvI.tx); (· array_get_dec); (· decreasing_trivial))
  | ((with_reducible apply EvI.ls); (· array_get_dec); (· decreasing_trivial))
  | ((with_reducible apply EvI.lo); (· array_get_dec); (· decreasing_trivial))
  | ((with_reducible apply EvI.tu); (· array_get_dec); (· decreasing_trivial))
  | ((with_reducible apply EvI.etx); (· array_get_dec); (· decreasing_trivial))
  | ((with_reducible apply EvI.els); (· array_get_dec); (· decreasing_trivial))
  | ((with_reducible apply EvI.rz1); (· array_get_dec); (· rfl); (· decreasing_trivial); (· decreasing_trivial))
  | ((with_reducible apply EvI.rz2); (· array_get_dec); (· array_get_dec); (· rfl); (· rfl); all_goals decreasing_trivial)
  | ((with_reducible apply Ev.comp); (· array_get_dec); (· decreasing_trivial); (· rfl); (· rfl); (· exact fun _ => rfl); (· (intro _ _; array_get_dec)))
  | ((with_reducible apply Ev.compIf); (· rfl); (· array_get_dec); (· decreasing_trivial); (· rfl); (· rfl); (· exact fun _ => rfl); (· (intro _ _; array_get_dec)); (· (intro _ _ _; array_get_dec)))
  | ((with_reducible apply Ev.lkS); (· rfl); (· array_get_dec); (· assumption))
  | ((with_reducible apply Ev.lkR); (· rfl); (· array_get_dec); (· assumption))
  | ((with_reducible apply Ev.lkM); (· rfl); (· array_get_dec); (· assumption))
  | ((with_reducible apply Ev.lkI); (· array_get_dec); (· array_get_dec); (· array_get_dec); (· rfl); (· rfl); (· rfl); (· assumption); all_goals decreasing_trivial)
  | ((with_reducible apply Ev.fvX); (· array_get_dec); (· ((with_reducible apply_assumption) <;> decreasing_trivial))))
local macro_rules | `(tactic| decreasing_trivial_pre_omega) => `(tactic| (dsimp only [List.map, R.d, dV, sh1]; first
  | with_reducible exact sem_gt | with_reducible exact sem_ge | with_reducible exact sem_lt | with_reducible exact sem_le
  | with_reducible exact sem_inS | with_reducible exact sem_ninS | with_reducible exact sem_eqI | with_reducible exact sem_neI | with_reducible exact sem_eqB | with_reducible exact sem_neB | with_reducible exact sem_isB | with_reducible exact sem_nisB | with_reducible exact sem_reprB
  | with_reducible exact sem_eqCC | with_reducible exact sem_neCC | with_reducible exact sem_eqS | with_reducible exact sem_neS | with_reducible exact sem_eqX | with_reducible exact sem_neX | with_reducible exact sem_addI | with_reducible exact sem_subI | with_reducible exact sem_lenL | with_reducible exact sem_lenT
  | with_reducible exact sem_intB | with_reducible exact sem_max2 | with_reducible exact sem_min2 | with_reducible exact mt_countS | with_reducible exact sem_all | with_reducible exact sem_any | with_reducible exact sem_sum
  | with_reducible exact fld_s | with_reducible exact fld_r | with_reducible exact fld_m | with_reducible exact isc_lk | with_reducible exact is_strS | with_reducible exact is_intI | with_reducible exact is_boolI | with_reducible exact is_lstL | with_reducible exact is_tupT | with_reducible exact is_ltL | with_reducible exact is_ltT | with_reducible exact is_dicD
  | ((with_reducible refine sem_isI ?_); first | rfl | decreasing_trivial)
  | ((with_reducible refine sem_intF ?_); decreasing_trivial)
  | ((with_reducible refine sem_lenS ?_); decreasing_trivial)
  | ((with_reducible refine sem_addS ?_); decreasing_trivial)
  | ((with_reducible refine sem_addL ?_); decreasing_trivial)
  | ((with_reducible refine sem_slS ?_ ?_) <;> decreasing_trivial)
  | ((with_reducible refine sem_slS2 ?_ ?_) <;> decreasing_trivial)
  | ((with_reducible refine sem_slS3 ?_ ?_ ?_) <;> decreasing_trivial)
  | ((with_reducible refine sem_slL ?_) <;> decreasing_trivial)
  | ((with_reducible refine sem_slL2 ?_) <;> decreasing_trivial)
  | ((with_reducible refine sem_slL3 ?_ ?_) <;> decreasing_trivial)
  | ((with_reducible refine sem_idxSg ?_ ?_ ?_) <;> decreasing_trivial)
  | ((with_reducible refine sem_idxWs ?_ ?_) <;> decreasing_trivial)
  | ((with_reducible refine sem_idxCs ?_ ?_) <;> decreasing_trivial)
  | ((with_reducible refine sem_strD ?_ ?_) <;> decreasing_trivial)
  | ((with_reducible refine sem_listS ?_); decreasing_trivial)
  | ((with_reducible refine sem_rvS ?_); decreasing_trivial)
  | with_reducible exact mt_startsS
  | rfl))
section
variable {tab : List DT} {n : Nat}
theorem sem_eqN {s t : Option Addr} {l : List Nat} (h : ∀ c, c ∈ l → c < 1114112) : P.sem (.cmp .Eq) [.lst s (l.map dC), .lst t []] = .ok (rB (decide (l = []))) := by
  have := sem_eqQ (a := .lst s (l.map dC)) (b := .lst t (([] : List Nat).map dC)) (shw_cs h) rfl (Nat.le_trans (dpt_row (k := 0) fun _ _ => Nat.le_refl _) (by decide)) (by show 0 + 1 ≤ 40; decide)
  rw [eqQ_cs] at this
  exact this
theorem fig_lim {l : List Nat} (h : ∀ c, c ∈ l → c ∈ FIG) : ∀ c, c ∈ l → c < 1114112 := fun c hc => by have := fig_ge (h c hc); omega
@[reducible] def PHidden (Φ : FT) : Prop := ∀ s r m seen w c, 0 ≤ r → w.length = seen.length → w.length ≤ 5000 → Fv Φ "hidden_fit" [lkD s r m, dS seen, dS w, dC c] (rB (decide (lackF r.toNat seen w s c ≤ 0)))
theorem PHidden.of (h : findT tab "hidden_fit" = some hidden_fitT) (S1 : PRep (PT tab n)) (S2 : PLs (PT tab n)) : PHidden (PT tab (n + 1)) := fun s r m seen w c hr hl hw => fv_of h rfl rfl (by
  have hs : seen.length ≤ 5000 := by omega
  have t9 := take9 (r := r.toNat)
  refine Wp.asgV (v := .ow (.lst none ((free0 r.toNat seen w c).map dC))) ?_ (Wp.at_env (e := [_, _, _, _, _, _, _, _, _, _]) ?_ rfl)
  · apply Ev.of
    · with_reducible apply Ev.compIf
      · rfl
      · array_get_dec
      · decreasing_trivial
      · rfl
      · rfl
      · exact fun _ => rfl
      · intro a ha
        have hF : a ∈ FIG := List.mem_of_mem_take ha
        have ge := fig_ge hF
        array_get_dec
      · intro a ha _
        array_get_dec
    · show R.ow (.lst none _) = R.ow (.lst none _)
      congr 2
      have e : (free0 r.toNat seen w c) = (FIG.take r.toNat).filter (fun x : Nat => !decide (x ∈ seen) && decide ((w.drop ((x : Int) - 48 - 1).toNat).take (((x : Int) - 48).toNat - ((x : Int) - 48 - 1).toNat) = [c])) := by
        unfold free0
        refine List.filter_congr fun x hx => ?_
        have ge := fig_ge (List.mem_of_mem_take hx)
        rw [show ((x : Int) - 48 - 1).toNat = x - 49 by omega, show ((x : Int) - 48).toNat - (x - 49) = 1 by omega, Bool.eq_iff_iff]
        simp only [Bool.and_eq_true, decide_eq_true_eq, Bool.not_eq_true', decide_eq_false_iff_not]
        refine and_congr_right fun _ => ?_
        cases hq : w[x - 49]? with
        | none =>
          rw [List.drop_eq_nil_of_le (List.getElem?_eq_none_iff.mp hq)]
          simp
        | some y =>
          have hlt := (List.getElem?_eq_some_iff.mp hq).1
          have := (List.getElem?_eq_some_iff.mp hq).2
          rw [List.drop_eq_getElem_cons hlt, this]
          simp
      rw [e] <;> rfl
  refine Wp.asgV (v := rZ ((seen.count c : Int) - s)) (by array_get_dec) (Wp.at_env (e := [_, _, _, _, _, _, _, _, _, _]) ?_ rfl)
  refine Wp.forV (enc := fun p : Nat × Nat => FH.D.tup [.int (p.2 : Nat), dC p.1]) (l := seen.zipIdx) (fun done e => ∃ fr la a b x, (done.foldl (hstep w c) (free0 r.toNat seen w c, (seen.count c : Int) - s)) = (fr, la) ∧ (∀ y, y ∈ fr → y ∈ FIG) ∧ fr.length ≤ 9 ∧ e = [some (.sh (lkD s r m)), some (rS seen), some (rS w), some (.sh (dC c)), some (.ow (.lst none (fr.map dC))), some (rZ la), a, b, none, x]) (by array_get_dec) ⟨free0 r.toNat seen w c, _, _, _, _, rfl, fun y hy => List.mem_of_mem_take (List.mem_filter.mp hy).1, ?_, rfl⟩ ?_ ?_
  · exact Nat.le_trans (List.length_filter_le _ _) t9
  · rintro done p rest e he ⟨fr, la, a, b, x, hfold, hfr, hfl, rfl⟩
    have hp : p ∈ seen.zipIdx := by rw [he]; simp
    have hp2 : seen[p.2]? = some p.1 := List.mem_zipIdx_iff_getElem?.mp hp
    have hlt : p.2 < w.length := by
      have := (List.getElem?_eq_some_iff.mp hp2).1
      omega
    have hnext : (done ++ [p]).foldl (hstep w c) (free0 r.toNat seen w c, (seen.count c : Int) - s) = hstep w c (fr, la) p := by rw [List.foldl_append, hfold] <;> rfl
    refine ⟨_, rfl, Wp.at_env (e := [_, _, _, _, _, _, some (.sh (.int (p.2 : Nat))), some (.sh (dC p.1)), _, _]) ?_ rfl⟩
    apply Wp.if1
    · array_get_dec
    · intro ht
      have ht' : (decide (p.1 = 63) && decide (w.getD p.2 0 = c)) = true := ht
      refine Wp.asgV (v := .sh (.lst none ((fr.filter fun y : Nat => decide ((y : Int) - 48 ≤ (p.2 : Nat))).map dC))) ?_ (Wp.at_env (e := [_, _, _, _, some (.ow (.lst none (fr.map dC))), _, _, _, none, _]) ?_ rfl)
      · refine Ev.frzX (r := .ow (.lst none ((fr.filter fun y : Nat => decide ((y : Int) - 48 ≤ (p.2 : Nat))).map dC))) (Ev.bor ?_ (all_flat _)) rfl
        show Ev _ _ [some (.sh (lkD s r m)), some (rS seen), some (rS w), some (.sh (dC c)), some (.sh (.lst none (fr.map dC))), some (rZ la), some (.sh (.int (p.2 : Nat))), some (.sh (dC p.1)), none, x.map sh1] _
        apply Ev.of
        · with_reducible apply Ev.compIf
          · rfl
          · array_get_dec
          · decreasing_trivial
          · rfl
          · rfl
          · exact fun _ => rfl
          · intro y hy
            have hF := hfr y hy
            array_get_dec
          · intro y hy _
            array_get_dec
        · rfl
      generalize hah : (fr.filter fun y : Nat => decide ((y : Int) - 48 ≤ (p.2 : Nat))) = ah at *
      have hsub : ∀ y, y ∈ ah → y ∈ fr := fun y hy => by rw [← hah] at hy; exact (List.mem_filter.mp hy).1
      have hA : ∀ y, y ∈ ah → y < 1114112 := fun y hy => by have := fig_ge (hfr y (hsub y hy)); omega
      apply Wp.ifV (t := decide (ah = []))
      · with_reducible apply Ev.prX
        · array_get_dec
        · exact sem_eqN hA
        · rfl
      · intro he2
        have he2 := of_decide_eq_true he2
        refine Wp.asgV (v := rZ (la + 1)) (by array_get_dec) (Wp.at_env (e := [_, _, _, _, _, _, _, _, none, _]) ?_ rfl)
        refine Wp.nil (Wp.nil (Wp.nil ⟨fr, la + 1, _, _, _, ?_, hfr, hfl, rfl⟩))
        rw [hnext]
        unfold hstep
        rw [ht', if_pos rfl]
        simp only [hah, he2]
      · intro he2
        have he2 := of_decide_eq_false he2
        obtain ⟨y, ys, rfl⟩ := List.exists_cons_of_ne_nil he2
        have hy : y ∈ fr := hsub y List.mem_cons_self
        refine Wp.rem (t := none) (xs := fr.map dC) rfl (We.of (r := .sh (dC y)) ?_ ⟨(fr.erase y).map dC, remD_dC hy, ?_⟩)
        · with_reducible apply Ev.prX
          · array_get_dec
          · exact sem_idxL (atI_int (l := (y :: ys).map dC) (i := 0) (by decide) (by simp))
          · rfl
        · refine Wp.nil (Wp.nil (Wp.nil ⟨fr.erase y, la, _, _, _, ?_, fun z hz => hfr z (List.mem_of_mem_erase hz), Nat.le_trans (List.length_erase_le) hfl, rfl⟩))
          rw [hnext]
          unfold hstep
          rw [ht', if_pos rfl]
          simp only [hah]
    · intro hf
      have hf' : (decide (p.1 = 63) && decide (w.getD p.2 0 = c)) = false := hf
      refine Wp.nil ⟨fr, la, _, _, _, ?_, hfr, hfl, rfl⟩
      rw [hnext]
      unfold hstep
      rw [hf'] <;> rfl
  · rintro e ⟨fr, la, a, b, x, hfold, hfr, hfl, rfl⟩
    apply Wp.retE
    · array_get_dec
    · unfold lackF
      rw [hfold])
noncomputable def couldV (s r : Int) (seen w : List Nat) : Bool := decide (w.length = seen.length) && (fitsV seen w && ABC.all fun c => decide (lackF r.toNat seen w s c ≤ 0))
@[reducible] def PCould (Φ : FT) : Prop := ∀ s r m seen w, 0 ≤ r → seen.length ≤ 5000 → wordy ((ABC ++ FIG.take r.toNat) ++ [63]) m seen = true → wordy ABC 40 w = true → Fv Φ "could_be" [lkD s r m, dS seen, dS w] (rB (couldV s r seen w))
theorem PCould.of (h : findT tab "could_be" = some could_beT) (S1 : PNeed (PT tab n)) (S2 : PNeedSeen (PT tab n)) (S3 : PWord (PT tab n)) (S4 : PFits (PT tab n)) (S5 : PHidden (PT tab n)) : PCould (PT tab (n + 1)) := fun s r m seen w hr hs ok hw => fv_of h rfl rfl (by
  have hwl : w.length ≤ 5000 := by
    unfold wordy at hw
    simp only [Bool.and_eq_true, decide_eq_true_eq] at hw
    omega
  refine Wp.expr (We.of (r := .sh .non) (by array_get_dec) ?_)
  refine Wp.expr (We.of (r := .sh .non) (by array_get_dec) ?_)
  apply Wp.if1
  · array_get_dec
  · intro ht
    rw [hw] at ht
    cases ht
  intro _
  apply Wp.if1 (t := !(decide (w.length = seen.length)) || !fitsV seen w)
  · have e : (!(decide (w.length = seen.length))) = !decide ((w.length : Int) = (seen.length : Int)) := by
      congr 1
      rw [decide_eq_decide]
      omega
    rw [e]
    with_reducible apply Ev.or
    · array_get_dec
    · intro hq
      have hq' : w.length = seen.length := by
        rw [Bool.not_eq_false', decide_eq_true_eq] at hq
        omega
      array_get_dec
  · intro ht
    refine Wp.retV (v := rB false) (by array_get_dec) ?_
    show rB false = rB (couldV s r seen w)
    congr 2
    unfold couldV
    cases h1 : decide (w.length = seen.length)
    · rfl
    · rw [h1] at ht
      have : fitsV seen w = false := by simpa using ht
      rw [this] <;> rfl
  · intro hf
    rw [Bool.or_eq_false_iff, Bool.not_eq_false', Bool.not_eq_false'] at hf
    have hq' : w.length = seen.length := of_decide_eq_true hf.1
    apply Wp.retE
    · array_get_dec
    · show rB _ = rB (couldV s r seen w)
      unfold couldV
      rw [hf.1, hf.2] <;> rfl)
end
end Gl
set_option Elab.async false
set_option linter.all false
set_option maxRecDepth 100000
set_option maxHeartbeats 4000000
namespace Gl
open PySem PySem.Spec PyProof.Rows L2 FH
local macro_rules | `(tactic| decreasing_trivial) => `(tactic| first | assumption | exact of_decide_eq_true (by assumption) | rfl | omega | (unfold LIM; omega) | (simp only [cS_len, List.length_map, List.length_range, List.length_zipIdx, List.length_append, List.length_cons, List.length_nil, LIM]; omega) | (simp only [List.mem_range] at *; omega) | decide)
local macro_rules | `(tactic| array_get_dec) => `(tactic| first
  | with_reducible exact Ev.litI | with_reducible exact Ev.litT | with_reducible exact Ev.litB | with_reducible exact Ev.litN | with_reducible exact Ev.glbI | with_reducible exact Ev.glbT | ((with_reducible apply Ev.var); rfl)
  | with_reducible exact EvA.nil | with_reducible exact EvN.nil | with_reducible exact EvD.nil
  | ((with_reducible apply EvA.consX); (· array_get_dec); (· array_get_dec); (· rfl))
  | ((with_reducible apply EvN.consX); (· array_get_dec); (· array_get_dec); (· rfl))
  | ((with_reducible apply EvD.consX); (· array_get_dec); (· array_get_dec); (· rfl); (· rfl))
  | ((with_reducible apply EvA.mv); (· rfl); (· array_get_dec); (· decide))
  | ((with_reducible apply Ev.one); array_get_dec) | ((with_reducible apply Ev.not); array_get_dec) | ((with_reducible apply Ev.frzX); (· array_get_dec); (· rfl))
  | ((with_reducible apply Ev.and); (· array_get_dec); (· (intro _; array_get_dec)))
  | ((with_reducible apply Ev.or); (· array_get_dec); (· (intro _; array_get_dec)))
  | ((with_reducible apply Ev.lst); array_get_dec) | ((with_reducible apply Ev.tup); array_get_dec)
  | ((with_reducible apply Ev.prX); (· array_get_dec); (· decreasing_trivial_pre_omega); (· rfl))
  | ((with_reducible apply Ev.mtX); (· array_get_dec); (· array_get_dec); (· rfl); (· rfl); (· decreasing_trivial_pre_omega); (· rfl))
  | ((with_reducible apply Ev.chLL); (· array_get_dec); (· array_get_dec); (· array_get_dec))
  | ((with_reducible apply Ev.chlL); (· array_get_dec); (· array_get_dec); (· array_get_dec))
  | ((with_reducible apply Ev.chLl); (· array_get_dec); (· array_get_dec); (· array_get_dec))
  | ((with_reducible apply Ev.chll); (· array_get_dec); (· array_get_dec); (· array_get_dec))
  | ((with_reducible apply Ev.iteB); (· array_get_dec); (· (intro _; array_get_dec)); (· (intro _; array_get_dec)))
  | ((with_reducible apply Ev.iteI); (· array_get_dec); (· (intro _; array_get_dec)); (· (intro _; array_get_dec)))
  | ((with_reducible apply Ev.iteC); (· array_get_dec); (· (intro _; array_get_dec)); (· (intro _; array_get_dec)))
  | ((with_reducible apply Ev.iteT); (· array_get_dec); (· (intro _; array_get_dec)); (· (intro _; array_get_dec)))
  | ((with_reducible apply EvI.tx); (· array_get_dec); (· decreasing_trivial))
  | ((with_reducible apply EvI.ls); (· array_get_dec); (· decreasing_trivial))
  | ((with_reducible apply EvI.lo); (· array_get_dec); (· decreasing_trivial))
  | ((with_reducible apply EvI.tu); (· array_get_dec); (· decreasing_trivial))
  | ((with_reducible apply EvI.etx); (· array_get_dec); (· decreasing_trivial))
  | ((with_reducible apply EvI.els); (· array_get_dec); (· decreasing_trivial))
  | ((with_reducible apply EvI.rz1); (· array_get_dec); (· rfl); (· decreasing_trivial); (· decreasing_trivial))
  | ((with_reducible apply EvI.rz2); (· array_get_dec); (· array_get_dec); (· rfl); (· rfl); all_goals decreasing_trivial)
  | ((with_reducible apply Ev.comp); (· array_get_dec); (· decreasing_trivial); (· rfl); (· rfl); (· exact fun _ => rfl); (· (intro _ _; array_get_dec)))
  | ((with_reducible apply Ev.compIf); (· rfl); (· array_get_dec); (· decreasing_trivial); (· rfl); (· rfl); (· exact fun _ => rfl); (· (intro _ _; array_get_dec)); (· (intro _ _ _; array_get_dec)))
  | ((with_reducible apply Ev.lkS); (· rfl); (· array_get_dec); (· assumption))
  | ((with_reducible apply Ev.lkR); (· rfl); (· array_get_dec); (· assumption))
  | ((with_reducible apply Ev.lkM); (· rfl); (· array_get_dec); (· assumption))
  | ((with_reducible apply Ev.lkI); (· array_get_dec); (· array_get_dec); (· array_get_dec); (· rfl); (· rfl); (· rfl); (· assumption); all_goals decreasing_trivial)
  | ((with_reducible apply Ev.fvX); (· array_get_dec); (· ((with_reducible apply_assumption) <;> decreasing_trivial))))
local macro_rules | `(tactic| decreasing_trivial_pre_omega) => `(tactic| (dsimp only [List.map, R.d, dV, sh1]; first
  | with_reducible exact sem_gt | with_reducible exact sem_ge | with_reducible exact sem_lt | with_reducible exact sem_le
  | with_reducible exact sem_inS | with_reducible exact sem_ninS | with_reducible exact sem_eqI | with_reducible exact sem_neI | with_reducible exact sem_eqB | with_reducible exact sem_neB | with_reducible exact sem_isB | with_reducible exact sem_nisB | with_reducible exact sem_reprB
  | with_reducible exact sem_eqCC | with_reducible exact sem_neCC | with_reducible exact sem_eqS | with_reducible exact sem_neS | with_reducible exact sem_eqX | with_reducible exact sem_neX | with_reducible exact sem_addI | with_reducible exact sem_subI | with_reducible exact sem_lenL | with_reducible exact sem_lenT
  | with_reducible exact sem_intB | with_reducible exact sem_max2 | with_reducible exact sem_min2 | with_reducible exact mt_countS | with_reducible exact sem_all | with_reducible exact sem_any | with_reducible exact sem_sum
  | with_reducible exact fld_s | with_reducible exact fld_r | with_reducible exact fld_m | with_reducible exact isc_lk | with_reducible exact is_strS | with_reducible exact is_intI | with_reducible exact is_boolI | with_reducible exact is_lstL | with_reducible exact is_tupT | with_reducible exact is_ltL | with_reducible exact is_ltT | with_reducible exact is_dicD
  | ((with_reducible refine sem_isI ?_); first | rfl | decreasing_trivial)
  | ((with_reducible refine sem_intF ?_); decreasing_trivial)
  | ((with_reducible refine sem_lenS ?_); decreasing_trivial)
  | ((with_reducible refine sem_addS ?_); decreasing_trivial)
  | ((with_reducible refine sem_addL ?_); decreasing_trivial)
  | ((with_reducible refine sem_slS ?_ ?_) <;> decreasing_trivial)
  | ((with_reducible refine sem_slS2 ?_ ?_) <;> decreasing_trivial)
  | ((with_reducible refine sem_slS3 ?_ ?_ ?_) <;> decreasing_trivial)
  | ((with_reducible refine sem_slL ?_) <;> decreasing_trivial)
  | ((with_reducible refine sem_slL2 ?_) <;> decreasing_trivial)
  | ((with_reducible refine sem_slL3 ?_ ?_) <;> decreasing_trivial)
  | ((with_reducible refine sem_idxSg ?_ ?_ ?_) <;> decreasing_trivial)
  | ((with_reducible refine sem_idxWs ?_ ?_) <;> decreasing_trivial)
  | ((with_reducible refine sem_idxCs ?_ ?_) <;> decreasing_trivial)
  | ((with_reducible refine sem_strD ?_ ?_) <;> decreasing_trivial)
  | ((with_reducible refine sem_listS ?_); decreasing_trivial)
  | ((with_reducible refine sem_rvS ?_); decreasing_trivial)
  | with_reducible exact mt_startsS
  | rfl))
theorem fill_ok {R : Nat} {seen w a : List Nat} (h : Fill R seen w a) : okW a := fun i c hc => by
  rcases h.1.2 i c hc with ⟨_, q⟩ | ⟨q1, q2, _⟩
  · exact .inl q
  · exact .inr ⟨q1, q2⟩
theorem grow_ok {R k x : Nat} {seen w : List Nat} {found : List (List Nat)} (hx : seen[k]? = some x) (hs : SeenOk R seen) (hw : Lw w) (hk : k < w.length) (hf : ∀ a, a ∈ found ↔ a.length = k ∧ Fill R seen w a) (b : List Nat) (hb : b ∈ growF R w k x found) : okW b ∧ b.length = k + 1 := by
  obtain ⟨a, ha, hb⟩ := List.mem_flatMap.mp hb
  obtain ⟨o, ho, rfl⟩ := List.mem_map.mp hb
  obtain ⟨ho1, ho2⟩ := List.mem_filter.mp ho
  obtain ⟨la, fa⟩ := (hf a).mp ha
  refine ⟨fun i c hc => ?_, by rw [List.length_append, List.length_singleton, la]⟩
  by_cases hi : i < a.length
  · rw [List.getElem?_append_left hi] at hc
    exact fill_ok fa i c hc
  · have hi2 : i = a.length := by
      have := (List.getElem?_eq_some_iff.mp hc).1
      rw [List.length_append, List.length_singleton] at this
      omega
    subst hi2
    rw [List.getElem?_append_right (Nat.le_refl _), Nat.sub_self] at hc
    cases hc
    have cs : o ∈ ABC ∨ o ∈ FIG := by
      unfold opts at ho1
      by_cases h63 : x = 63
      · rw [decide_eq_true h63] at ho1
        rcases List.mem_cons.mp ho1 with e | e
        · left
          rw [e, List.getD_eq_getElem?_getD, List.getElem?_eq_getElem hk]
          exact hw _ (List.getElem_mem _)
        · exact .inr (List.mem_of_mem_take e)
      · rw [decide_eq_false h63] at ho1
        have e : o = x := List.mem_singleton.mp ho1
        rcases hs x (List.mem_of_getElem? hx) with q | q | q
        · exact .inl (by rw [e]; exact q)
        · exact .inr (by rw [e]; exact List.mem_of_mem_take q)
        · exact absurd q h63
    rcases cs with q | q
    · exact .inl q
    · have ge := fig_ge q
      unfold okO at ho2
      rw [decide_eq_true q] at ho2
      simp only [Bool.not_true, Bool.false_or, Bool.and_eq_true, decide_eq_true_eq] at ho2
      exact .inr ⟨q, by omega⟩
theorem okW_lim {b : List Nat} (h : okW b) : ∀ c, c ∈ b → c < 1114112 := fun c hc => by
  obtain ⟨i, hi⟩ := List.getElem?_of_mem hc
  rcases h i c hi with q | ⟨q, _⟩
  · have := abc_ge q
    simp only [List.mem_cons, List.not_mem_nil, or_false] at q
    omega
  · have := fig_ge q; omega
theorem sem_neW {s t : Option Addr} {l : List (List Nat)} (h : ∀ w, w ∈ l → ∀ c, c ∈ w → c < 1114112) : P.sem (.cmp .NotEq) [.lst s (l.map dS), .lst t []] = .ok (rB (!decide (l = []))) := by
  have := sem_neQ (a := .lst s (l.map dS)) (b := .lst t (([] : List (List Nat)).map dS)) (shw_ws h) rfl (Nat.le_trans (dpt_row (k := 0) fun _ _ => Nat.le_refl _) (by decide)) (by show 0 + 1 ≤ 40; decide)
  rw [eqQ_ws] at this
  exact this
section
variable {tab : List DT} {n : Nat}
noncomputable def dueV (s r m : Int) (seen w : List Nat) : Bool := decide (seen.length = w.length) && @decide (∃ f, f.length = w.length ∧ Fill r.toNat seen w f ∧ flownB s r m f = true) (Classical.propDecidable _)
@[reducible] def PDue (Φ : FT) : Prop := ∀ t s r m seen w, 1 ≤ s → 0 ≤ r → r ≤ 9 → SeenOk r.toNat seen → Lw w → w.length ≤ 5000 → seen.length ≤ 5000 → seen.count 63 ≤ 3 → Fv Φ "_law_due" [.lst t [.int s, .int r, .int m], dS seen, dS w] (rB (dueV s r m seen w))
theorem PDue.of (h : findT tab "_law_due" = some x_law_dueT) (S1 : PLShown (PT tab n)) (S2 : PIsHoist (PT tab n)) : PDue (PT tab (n + 1)) := fun t s r m seen w h1 h0 h9 hs hw hl hl2 h3 => fv_of h rfl rfl (by
  have t9 := take9 (r := r.toNat)
  apply Wp.if1
  · array_get_dec
  · intro ht
    refine Wp.retV (v := rB false) (by array_get_dec) ?_
    show rB false = rB (dueV s r m seen w)
    unfold dueV
    rw [Bool.not_eq_true', decide_eq_false_iff_not] at ht
    rw [show decide (seen.length = w.length) = false from decide_eq_false (by omega)] <;> rfl
  intro hq
  rw [Bool.not_eq_false', decide_eq_true_eq] at hq
  have hlen : seen.length = w.length := by omega
  refine Wp.asgV (v := .sh (.lst none (([[]] : List (List Nat)).map dS))) (by array_get_dec) (Wp.at_env (e := [_, _, _, _, _, _, _, _, _, _, _]) ?_ rfl)
  refine Wp.forV (enc := fun p : Nat × Nat => FH.D.tup [.int (p.2 : Nat), dC p.1]) (l := seen.zipIdx) (fun done e => ∃ fs a b c d g, (∀ x, x ∈ fs ↔ x.length = done.length ∧ Fill r.toNat seen w x) ∧ fs.length ≤ 10 ^ ((done.map (·.1)).count 63) ∧ e = [some (.sh (.lst t [.int s, .int r, .int m])), some (rS seen), some (rS w), some (.sh (.lst none (fs.map dS))), a, b, c, d, g, none, none]) (by array_get_dec) ⟨[[]], _, _, _, _, _, fun x => ?_, by decide, rfl⟩ ?_ ?_
  · constructor
    · intro hx
      rw [List.mem_singleton.mp hx]
      exact ⟨rfl, ⟨Nat.zero_le _, fun i c z => by simp at z⟩, fun i c z => by simp at z⟩
    · rintro ⟨hx, _⟩
      exact List.mem_singleton.mpr (List.length_eq_zero_iff.mp hx)
  · rintro done p rest e he ⟨fs, a, b, c, d, g, hfs, hcount, rfl⟩
    have hd : done.length < seen.length := by
      have := congrArg List.length he
      rw [List.length_zipIdx, List.length_append, List.length_cons] at this
      omega
    have hp : p.2 = done.length ∧ seen[done.length]? = some p.1 := by
      have h1 : seen.zipIdx[done.length]? = some p := by rw [he, List.getElem?_append_right (Nat.le_refl _), Nat.sub_self] <;> rfl
      rw [List.getElem?_zipIdx] at h1
      cases hq : seen[done.length]? with
      | none => rw [hq] at h1; cases h1
      | some x =>
        rw [hq] at h1
        cases h1
        exact ⟨by simp, rfl⟩
    obtain ⟨hp1, hp2⟩ := hp
    have hlt : p.2 < w.length := by omega
    have hcs : (done.map (·.1)).count 63 + (if p.1 = 63 then 1 else 0) ≤ 3 := by
      have e1 : seen = (seen.zipIdx.map (·.1)) := by rw [List.zipIdx_map_fst]
      rw [he] at e1
      rw [e1, List.map_append, List.map_cons, List.count_append, List.count_cons] at h3
      by_cases q : p.1 = 63
      · rw [if_pos q]
        have : (p.1 == 63) = true := by simpa using q
        rw [this] at h3
        simp only [if_true] at h3
        omega
      · rw [if_neg q]
        omega
    have hp10 : (if p.1 = 63 then 10 else 1) * fs.length ≤ 1000 ∧ (if p.1 = 63 then 10 else 1) * fs.length ≤ 10 ^ ((done.map (·.1)).count 63 + (if p.1 = 63 then 1 else 0)) := by
      have : (if p.1 = 63 then 10 else 1) * fs.length ≤ 10 ^ ((done.map (·.1)).count 63 + (if p.1 = 63 then 1 else 0)) := by
        by_cases q : p.1 = 63
        · rw [if_pos q, if_pos q, Nat.pow_succ]; omega
        · rw [if_neg q, if_neg q, Nat.one_mul, Nat.add_zero]; exact hcount
      exact ⟨Nat.le_trans this (Nat.le_trans (Nat.pow_le_pow_right (by decide) hcs) (by decide)), this⟩
    have hfl : fs.length ≤ 1000 := by
      have := hp10.1
      split at this <;> omega
    have bnd : ∀ l : List (List Nat), l.length ≤ fs.length → (growF r.toNat w p.2 p.1 l).length ≤ 1000 := fun l hl => by
      refine Nat.le_trans (grow_len (by omega)) (Nat.le_trans (Nat.mul_le_mul_left _ hl) hp10.1)
    refine ⟨_, rfl, Wp.at_env (e := [_, _, _, _, some (.sh (.int (p.2 : Nat))), some (.sh (dC p.1)), _, _, _, _, _]) ?_ rfl⟩
    refine Wp.asgV (v := .sh (.lst none ((opts r.toNat w p.2 p.1).map dC))) ?_ (Wp.at_env (e := [_, _, _, _, _, _, _, _, _, _, _]) ?_ rfl)
    · unfold opts
      have l5 : [dC (w.getD p.2 0)].length + ((FIG.take r.toNat).map dC).length ≤ LIM := by
        rw [List.length_map]; unfold LIM; simp only [List.length_cons, List.length_nil]; omega
      with_reducible apply Ev.ite (s := decide (p.1 = 63))
      · array_get_dec
      · intro q
        rw [q]
        refine Ev.frzX (r := .ow (.lst none ([dC (w.getD p.2 0)] ++ (FIG.take r.toNat).map dC))) ?_ rfl
        have hi : Ev (FH.PT tab n) (.prim .idx (.cons (.var 2) (.cons (.var 4) .nil))) [some (.sh (.lst t [.int s, .int r, .int m])), some (rS seen), some (rS w), some (.sh (.lst none (fs.map dS))), some (.sh (.int (p.2 : Nat))), some (.sh (dC p.1)), c, d, g, none, none] (.sh (dC (w.getD p.2 0))) := by
          apply Ev.of
          · array_get_dec
          · rfl
        with_reducible apply Ev.prX
        · with_reducible apply EvA.consX
          · with_reducible apply Ev.lst
            with_reducible apply EvN.consX
            · exact hi
            · array_get_dec
            · rfl
          · array_get_dec
          · rfl
        · exact sem_addL l5
        · rfl
      · intro q
        rw [q]
        refine Ev.frzX (r := .ow (.lst none [dC p.1])) ?_ rfl
        apply Ev.of
        · array_get_dec
        · rfl
    refine Wp.asgV (v := .ow (.lst none [])) (Ev.lst EvN.nil) (Wp.at_env (e := [_, _, _, _, _, _, _, _, _, _, _]) ?_ rfl)
    refine Wp.forV (enc := dS) (l := fs) (fun d2 e => ∃ g, e = [some (.sh (.lst t [.int s, .int r, .int m])), some (rS seen), some (rS w), some (.sh (.lst none (fs.map dS))), some (.sh (.int (p.2 : Nat))), some (.sh (dC p.1)), some (.sh (.lst none ((opts r.toNat w p.2 p.1).map dC))), some (.ow (.lst none ((growF r.toNat w p.2 p.1 d2).map dS))), g, none, none]) (by array_get_dec) ⟨_, rfl⟩ ?_ ?_
    · rintro d2 x rest2 e he2 ⟨g, rfl⟩
      have hx : x ∈ fs := by rw [he2]; simp
      have hxl := ((hfs x).mp hx).1
      have hd2 : (d2 ++ [x]).length ≤ fs.length := by
        rw [he2, List.length_append, List.length_append, List.length_cons, List.length_cons, List.length_nil]
        omega
      have hgrow : growF r.toNat w p.2 p.1 (d2 ++ [x]) = growF r.toNat w p.2 p.1 d2 ++ (((opts r.toNat w p.2 p.1).filter (okO x p.2)).map fun o => x ++ [o]) := by
        unfold growF
        rw [List.flatMap_append, List.flatMap_singleton]
      have hb := bnd _ hd2
      rw [hgrow, List.length_append, List.length_map] at hb
      refine ⟨_, rfl, Wp.at_env (e := [_, _, _, _, _, _, _, _, some (rS x), _, _]) ?_ rfl⟩
      refine Wp.ext (t := none) (xs := (growF r.toNat w p.2 p.1 d2).map dS) rfl (We.of (r := .ow (.lst none ((((opts r.toNat w p.2 p.1).filter (okO x p.2)).map fun o => x ++ [o]).map dS))) ?_ ⟨none, _, rfl, ?_, ?_⟩)
      · have l9 : (opts r.toNat w p.2 p.1).length ≤ 10 := by
          unfold opts
          split
          · rw [List.length_cons, List.length_take]; omega
          · rw [List.length_singleton]; decide
        apply Ev.of
        · with_reducible apply Ev.compIf
          · rfl
          · array_get_dec
          · decreasing_trivial
          · rfl
          · rfl
          · exact fun _ => rfl
          · intro o ho
            with_reducible apply Ev.or
            · array_get_dec
            · intro hF
              have hF' : o ∈ FIG := by
                rw [Bool.not_eq_false', decide_eq_true_eq] at hF; exact hF
              array_get_dec
          · intro o ho _
            have l6 : x.length + [o].length ≤ LIM := by unfold LIM; simp only [List.length_cons, List.length_nil]; omega
            array_get_dec
        · show R.ow (.lst none _) = R.ow (.lst none _)
          rw [List.map_map] <;> rfl
      · rw [List.length_map, List.length_map, List.length_map]; unfold LIM; omega
      · refine Wp.nil ⟨some (rS x), ?_⟩
        rw [hgrow, List.map_append] <;> rfl
    · rintro e ⟨g, rfl⟩
      have hgo := grow_ok hp2 hs hw (by omega) hfs
      rw [hp1] at *
      have hg1 := bnd fs (Nat.le_refl _)
      refine Wp.frz (i := 7) (v := .ow (.lst none ((growF r.toNat w done.length p.1 fs).map dS))) rfl rfl ?_
      refine Wp.at_env (e := [_, _, _, _, _, _, _, some (.sh (.lst none ((growF r.toNat w done.length p.1 fs).map dS))), _, _, _]) ?_ rfl
      refine Wp.asgV (v := .sh (.lst none ((nextF r.toNat w done.length p.1 fs).map dS))) ?_ (Wp.nil ⟨nextF r.toNat w done.length p.1 fs, _, _, _, _, _, fun x => ?_, ?_, rfl⟩)
      · unfold nextF
        refine Ev.frzX (r := .ow (.lst none _)) ?_ rfl
        have l7 := hg1
        apply Ev.of
        · with_reducible apply Ev.compIf
          · rfl
          · array_get_dec
          · decreasing_trivial
          · rfl
          · rfl
          · exact fun _ => rfl
          · intro y hy
            have hy1 := (hgo y hy).1
            have hy2 := (hgo y hy).2
            array_get_dec
          · intro y hy _
            array_get_dec
        · rfl
      · rw [next_mem hp2 hs hw (by omega) hfs x, List.length_append, List.length_singleton]
      · unfold nextF
        refine Nat.le_trans (List.length_filter_le _ _) (Nat.le_trans (grow_len (by omega)) ?_)
        rw [List.map_append, List.count_append]
        refine Nat.le_trans hp10.2 (Nat.pow_le_pow_right (by decide) ?_)
        show _ ≤ _ + List.count 63 [p.1]
        by_cases q : p.1 = 63
        · rw [if_pos q, q]; simp
        · rw [if_neg q]; omega
  · rintro e ⟨fs, a, b, c, d, g, hfs, hcount, rfl⟩
    rw [List.length_zipIdx, hlen] at hfs
    have h1000 : fs.length ≤ 1000 := by
      rw [List.zipIdx_map_fst] at hcount
      exact Nat.le_trans hcount (Nat.le_trans (Nat.pow_le_pow_right (by decide) h3) (by decide))
    have l8 : fs.length ≤ LIM := by unfold LIM; omega
    apply Wp.retE (r' := rB (!decide ((fs.filter fun f => hoistV s r m f) = [])))
    · with_reducible apply Ev.prX
      · with_reducible apply EvA.consX
        · with_reducible apply Ev.compIf
          · rfl
          · array_get_dec
          · decreasing_trivial
          · rfl
          · rfl
          · exact fun _ => rfl
          · intro f hf
            have hfl := ((hfs f).mp hf).1
            array_get_dec
          · intro f hf _
            array_get_dec
        · array_get_dec
        · rfl
      · exact sem_neW (l := fs.filter fun f => hoistV s r m f) fun f hf => okW_lim (fill_ok ((hfs f).mp (List.mem_filter.mp hf).1).2)
      · rfl
    · show rB _ = rB (dueV s r m seen w)
      congr 2
      unfold dueV
      rw [decide_eq_true hlen, Bool.true_and, Bool.eq_iff_iff, Bool.not_eq_true', decide_eq_false_iff_not, @decide_eq_true_iff _ (Classical.propDecidable _)]
      constructor
      · intro hne
        obtain ⟨f, rest, hf⟩ := List.exists_cons_of_ne_nil hne
        have : f ∈ fs.filter fun f => hoistV s r m f := by rw [hf]; exact List.mem_cons_self
        obtain ⟨f1, f2⟩ := List.mem_filter.mp this
        obtain ⟨f3, f4⟩ := (hfs f).mp f1
        exact ⟨f, f3, f4, by rw [← hoistV_eq h1]; exact f2⟩
      · rintro ⟨f, f1, f2, f3⟩ hz
        have : f ∈ fs.filter fun f => hoistV s r m f := List.mem_filter.mpr ⟨(hfs f).mpr ⟨f1, f2⟩, by rw [hoistV_eq h1]; exact f3⟩
        rw [hz] at this
        cases this)
end
end Gl
set_option Elab.async false
set_option linter.all false
set_option maxRecDepth 100000
set_option maxHeartbeats 4000000
namespace Gl
open PySem PySem.Spec PyProof.Rows L2 FH
theorem fill_flown {s r m : Int} {seen w f : List Nat} (h1 : 1 ≤ w.length) (hm : (w.length : Int) ≤ m) (hf : f.length = w.length) (h : Fill r.toNat seen w f) : flownB s r m f = true ↔ ∀ c, c ∈ ABC → (f.count c : Int) ≤ s ∨ c ∉ f := by
  rw [flown_iff]
  constructor
  · rintro ⟨_, q⟩ c hc
    by_cases hm : c ∈ f
    · obtain ⟨i, hi⟩ := List.getElem?_of_mem hm
      rcases q i c hi with ⟨_, z⟩ | ⟨z, _⟩
      · exact .inl z
      · exact absurd hc (nz_fig (List.mem_of_mem_take z))
    · exact .inr hm
  · intro q
    refine ⟨⟨by omega, by omega⟩, fun i c hc => ?_⟩
    have hmem := List.mem_of_getElem? hc
    rcases (h.2 i c hc).1 with z | z
    · rcases q c z with y | y
      · exact .inl ⟨z, y⟩
      · exact absurd hmem y
    · have zf := List.mem_of_mem_take z
      refine .inr ⟨z, ?_, count_one fun j hj hjm => ?_⟩
      · rcases h.1.2 i c hc with ⟨_, y⟩ | ⟨_, y, _⟩
        · exact absurd y (nz_fig zf)
        · exact y
      · rcases h.1.2 j c hj with ⟨_, y⟩ | ⟨_, _, _, y⟩
        · exact nz_fig zf y
        · exact y hjm
theorem due_eq {s r m : Int} {seen w : List Nat} (h1 : 1 ≤ s) (hs : SeenOk r.toNat seen) (hw : Lw w) (hl : 1 ≤ seen.length) (hm : (seen.length : Int) ≤ m) : dueV s r m seen w = couldV s r seen w := by
  unfold dueV couldV
  by_cases e : seen.length = w.length
  · rw [decide_eq_true e, decide_eq_true e.symm, Bool.true_and, Bool.true_and, Bool.eq_iff_iff, Bool.and_eq_true, @decide_eq_true_iff _ (Classical.propDecidable _), List.all_eq_true]
    unfold fitsV
    rw [@decide_eq_true_iff _ (Classical.propDecidable _)]
    have := could_iff (S := s) (R := r.toNat) hw e hs
    constructor
    · rintro ⟨f, f1, f2, f3⟩
      obtain ⟨a, b⟩ := this.mpr ⟨f, f1, f2, fun c hc => by
        rcases (fill_flown (by omega) (by omega) f1 f2).mp f3 c hc with z | z
        · exact z
        · rw [List.count_eq_zero.mpr z]; omega⟩
      exact ⟨a, fun c hc => decide_eq_true (b c hc)⟩
    · rintro ⟨a, b⟩
      obtain ⟨f, f1, f2, f3⟩ := this.mp ⟨a, fun c hc => of_decide_eq_true (b c hc)⟩
      exact ⟨f, f1, f2, (fill_flown (by omega) (by omega) f1 f2).mpr fun c hc => .inl (f3 c hc)⟩
  · have e2 : ¬ w.length = seen.length := fun z => e z.symm
    rw [decide_eq_false e, decide_eq_false e2, Bool.false_and, Bool.false_and]
def SNum (Φ : FT) : Prop := ∀ n r, Bx (n + 8) r → ∃ (a b c : Int) (r' : R), Fo Φ "_law_numbers" r [] (.ow (.lst none [.int a, .int b, .int c])) r' ∧ (1 ≤ a ∧ a ≤ 3) ∧ (0 ≤ b ∧ b ≤ 9) ∧ (1 ≤ c ∧ c ≤ 40) ∧ Bx n r'
theorem SNum.of {tab : List DT} {n : Nat} (h : findT tab "_law_numbers" = some x_law_numbersT) (S : STake (PT tab n)) : SNum (PT tab (n + 1)) := by
  intro m r hb
  have key := fo_ex (r := r) (ds := []) (P := fun q r' => ∃ a b c : Int, q = (.ow (.lst none [.int a, .int b, .int c])) ∧ (1 ≤ a ∧ a ≤ 3) ∧ (0 ≤ b ∧ b ≤ 9) ∧ (1 ≤ c ∧ c ≤ 40) ∧ Bx m r') h rfl rfl (n := n) (by
    refine Wp.asg (We.primN rfl (Wa.cons (We.lst (Wa.lit (Wa.cons (We.primN rfl (Wa.lit (Wa.cons (We.take S (i := 0) (n := m + 7) rfl hb rfl Ev.lit (by decide) (by decide) fun v1 r1 v10 v11 b1 => Wa.nil ⟨_, rfl, rfl, Wa.nil ?_⟩)))))))))
    refine Wa.cons (We.take S (i := 0) (n := m + 6) rfl b1 rfl Ev.lit (by decide) (by decide) fun v2 r2 v20 v21 b2 => Wa.nil ?_)
    have pick : ∃ s : Int, atI [FH.D.int 1, .int (1 + v1)] v2 = some (.int s) ∧ 1 ≤ s ∧ s ≤ 3 := by
      obtain ⟨d, d1, d2⟩ := atI_mem (xs := [FH.D.int 1, .int (1 + v1)]) v20 v21
      simp only [List.mem_cons, List.not_mem_nil, or_false] at d2
      rcases d2 with rfl | rfl
      · exact ⟨_, d1, by decide, by decide⟩
      · exact ⟨_, d1, by omega, by omega⟩
    obtain ⟨a, a1, a2, a3⟩ := pick
    refine ⟨rZ a, sem_idxL a1, rfl, ?_⟩
    refine Wp.at_env (e := [some r2, some (rZ a)]) ?_ rfl
    refine Wp.ret (We.lst (Wa.consV (Ev.var rfl) (Wa.cons (We.primN rfl (Wa.cons (We.lst (Wa.cons (We.take S (i := 0) (n := m + 5) rfl b2 rfl Ev.lit (by decide) (by decide) fun v3 r3 v30 v31 b3 => Wa.lit (Wa.cons (We.take S (i := 0) (n := m + 4) rfl b3 rfl Ev.lit (by decide) (by decide) fun v4 r4 v40 v41 b4 => Wa.nil ?_))))))))))
    refine Wa.cons (We.take S (i := 0) (n := m + 3) rfl b4 rfl Ev.lit (by decide) (by decide) fun v5 r5 v50 v51 b5 => Wa.nil ?_)
    obtain ⟨b, p1, p2⟩ := pick3 (a := v3) (b := 3) (c := v4) v50 v51
    refine ⟨rZ b, sem_idxL p1, rfl, ?_⟩
    refine Wa.cons (We.primN rfl (Wa.cons (We.lst (Wa.lit (Wa.lit (Wa.cons (We.primN rfl (Wa.lit (Wa.cons (We.take S (i := 0) (n := m + 2) rfl b5 rfl Ev.lit (by decide) (by decide) fun v6 r6 v60 v61 b6 => Wa.nil ⟨_, rfl, rfl, ?_⟩))))))))))
    refine Wa.cons (We.primN rfl (Wa.lit (Wa.cons (We.take S (i := 0) (n := m + 1) rfl b6 rfl Ev.lit (by decide) (by decide) fun v7 r7 v70 v71 b7 => Wa.nil ⟨_, rfl, rfl, Wa.nil ?_⟩))))
    refine Wa.cons (We.take S (i := 0) (n := m) rfl b7 rfl Ev.lit (by decide) (by decide) fun v8 r8 v80 v81 b8 => Wa.nil ?_)
    have pick : ∃ s : Int, atI [FH.D.int 7, .int 40, .int (4 + v6), .int (1 + v7)] v8 = some (.int s) ∧ 1 ≤ s ∧ s ≤ 40 := by
      obtain ⟨d, d1, d2⟩ := atI_mem (xs := [FH.D.int 7, .int 40, .int (4 + v6), .int (1 + v7)]) v80 v81
      simp only [List.mem_cons, List.not_mem_nil, or_false] at d2
      rcases d2 with rfl | rfl | rfl | rfl
      · exact ⟨_, d1, by decide, by decide⟩
      · exact ⟨_, d1, by decide, by decide⟩
      · exact ⟨_, d1, by omega, by omega⟩
      · exact ⟨_, d1, by omega, by omega⟩
    obtain ⟨c, c1, c2, c3⟩ := pick
    refine ⟨rZ c, sem_idxL c1, rfl, Wa.nil ⟨_, _, _, rfl, rfl, a, b, c, rfl, ⟨a2, a3⟩, ⟨?_, ?_⟩, ⟨c2, c3⟩, b8⟩⟩
    · rcases p2 with rfl | rfl | rfl <;> omega
    · rcases p2 with rfl | rfl | rfl <;> omega)
  obtain ⟨q, r', h1, a, b, c, rfl, h2, h3, h4, h5⟩ := key
  exact ⟨a, b, c, r', h1, h2, h3, h4, h5⟩
end Gl
set_option Elab.async false
set_option linter.all false
set_option maxRecDepth 100000
set_option maxHeartbeats 0
namespace K18
open PySem PySem.Spec PyProof.Rows L2 FH
def x_law_laidB : FH.S := (.seq (.asg 3 (.lit (.str (cS []))))
  (.seq (.for (.tp [4, 5]) (.senum (.var 1)) (.seq (.asg 6 (.frz (.comp [("k", 7)] (.prim (.fn .str) (.cons (.var 7) .nil)) (.nm 7) (.srng (.cons (.lit (.int 1)) (.cons (.prim (.bin .Add) (.cons (.prim (.fn .min2) (.cons (.var 4) (.cons (.var 2) .nil))) (.cons (.lit (.int 1)) .nil))) .nil))) (.and (.prim (.cmp .Eq) (.cons (.prim .idx (.cons (.var 1) (.cons (.prim (.bin .Sub) (.cons (.var 7) (.cons (.lit (.int 1)) .nil))) .nil))) (.cons (.var 5) .nil))) (.one (.prim (.cmp .NotIn) (.cons (.prim (.fn .str) (.cons (.var 7) .nil)) (.cons (.var 3) .nil))))))))
  (.seq (.asg 3 (.frz (.prim (.bin .Add) (.cons (.var 3) (.cons (.ite (.and (.prim (.cmp .NotEq) (.cons (.var 6) (.cons (.lst .nil) .nil))) (.one (.prim (.cmp .Gt) (.cons (.call "_law_take" (.cons (.mv 0) (.cons (.lit (.int 4)) .nil))) (.cons (.lit (.int 0)) .nil))))) (.prim .idx (.cons (.var 6) (.cons (.call "_law_take" (.cons (.mv 0) (.cons (.prim (.fn .len) (.cons (.var 6) .nil)) .nil))) .nil))) (.var 5)) .nil)))))
  .nil)))
  (.seq (.ret (.var 3))
  .nil)))
def x_law_laidT : DT := ⟨"_law_laid", ["box", "word", "repeaters", "flags", "at", "letter", "some", "k"], ["box", "word", "repeaters"], [0], x_law_laidB, []⟩
def lawB : FH.S := (.seq (.for (.nm 1) (.srng (.cons (.prim (.fn .max2) (.cons (.lit (.int 2)) (.cons (.prim (.fn .min2) (.cons (.lit (.int 8)) (.cons (.prim (.fn .len) (.cons (.var 0) .nil)) .nil))) .nil))) .nil)) (.seq (.asg 2 (.call "_law_box" (.cons (.call "_law_cell" (.cons (.var 0) (.cons (.var 1) .nil))) .nil)))
  (.seq (.asg 3 (.frz (.call "_law_numbers" (.cons (.mv 2) .nil))))
  (.seq (.asg 4 (.frz (.mk "Locker.__init__" (.cons (.prim .idx (.cons (.var 3) (.cons (.lit (.int 0)) .nil))) (.cons (.prim .idx (.cons (.var 3) (.cons (.lit (.int 1)) .nil))) (.cons (.prim .idx (.cons (.var 3) (.cons (.lit (.int 2)) .nil))) .nil))))))
  (.seq (.asg 5 (.frz (.call "_law_word" (.cons (.mv 2) (.cons (.prim (.fn .min2) (.cons (.lit (.int 9)) (.cons (.prim .idx (.cons (.var 3) (.cons (.lit (.int 2)) .nil))) .nil))) .nil)))))
  (.seq (.asg 6 (.frz (.call "_law_laid" (.cons (.mv 2) (.cons (.var 5) (.cons (.prim .idx (.cons (.var 3) (.cons (.lit (.int 1)) .nil))) .nil))))))
  (.seq (.asg 7 (.var 6))
  (.seq (.for (.nm 8) (.srng (.cons (.call "_law_take" (.cons (.mv 2) (.cons (.lit (.int 4)) .nil))) .nil)) (.seq (.asg 9 (.call "_law_take" (.cons (.mv 2) (.cons (.prim (.fn .len) (.cons (.var 7) .nil)) .nil))))
  (.seq (.asg 7 (.frz (.prim (.bin .Add) (.cons (.prim (.bin .Add) (.cons (.prim (.sl false true) (.cons (.var 7) (.cons (.var 9) .nil))) (.cons (.lit (.str (cS [63]))) .nil))) (.cons (.prim (.sl true false) (.cons (.var 7) (.cons (.prim (.bin .Add) (.cons (.var 9) (.cons (.lit (.int 1)) .nil))) .nil))) .nil)))))
  .nil)))
  (.seq (.asg 9 (.call "_law_take" (.cons (.mv 2) (.cons (.prim (.fn .len) (.cons (.var 5) .nil)) .nil))))
  (.seq (.asg 10 (.frz (.prim (.bin .Add) (.cons (.prim (.bin .Add) (.cons (.prim (.sl false true) (.cons (.var 5) (.cons (.var 9) .nil))) (.cons (.prim .idx (.cons (.var 5) (.cons (.call "_law_take" (.cons (.mv 2) (.cons (.prim (.fn .len) (.cons (.var 5) .nil)) .nil))) .nil))) .nil))) (.cons (.prim (.sl true false) (.cons (.var 5) (.cons (.prim (.bin .Add) (.cons (.var 9) (.cons (.lit (.int 1)) .nil))) .nil))) .nil)))))
  (.seq (.asg 11 (.frz (.prim (.bin .Add) (.cons (.prim (.bin .Add) (.cons (.prim (.sl false true) (.cons (.var 5) (.cons (.var 9) .nil))) (.cons (.prim .idx (.cons (.lit (.str (cS ABC))) (.cons (.call "_law_take" (.cons (.mv 2) (.cons (.lit (.int 26)) .nil))) .nil))) .nil))) (.cons (.prim (.sl true false) (.cons (.var 5) (.cons (.prim (.bin .Add) (.cons (.var 9) (.cons (.lit (.int 1)) .nil))) .nil))) .nil)))))
  (.seq (.for (.nm 12) (.sval (.lst (.cons (.var 5) (.cons (.var 10) (.cons (.var 11) (.cons (.prim (.bin .Add) (.cons (.var 5) (.cons (.lit (.str (cS [97]))) .nil))) (.cons (.prim .rv (.cons (.var 5) .nil)) (.cons (.call "_law_word" (.cons (.mv 2) (.cons (.lit (.int 9)) .nil))) .nil)))))))) (.seq (.ifs (.prim (.cmp .NotEq) (.cons (.prim (.fn .repr) (.cons (.call "could_be" (.cons (.var 4) (.cons (.var 7) (.cons (.var 12) .nil)))) .nil)) (.cons (.prim (.fn .repr) (.cons (.call "_law_due" (.cons (.var 3) (.cons (.var 7) (.cons (.var 12) .nil)))) .nil)) .nil))) (.seq (.ret (.lit (.bl false)))
  .nil) .nil)
  .nil))
  (.seq (.ifs (.and (.call "_law_is_hoist" (.cons (.var 3) (.cons (.var 6) .nil))) (.one (.prim (.cmp .IsNot) (.cons (.call "could_be" (.cons (.var 4) (.cons (.var 7) (.cons (.var 5) .nil)))) (.cons (.lit (.bl true)) .nil))))) (.seq (.ret (.lit (.bl false)))
  .nil) .nil)
  .nil)))))))))))))
  (.seq (.ret (.and (.prim (.cmp .Is) (.cons (.call "could_be" (.cons (.mk "Locker.__init__" (.cons (.lit (.int 1)) (.cons (.lit (.int 1)) (.cons (.lit (.int 3)) .nil)))) (.cons (.lit (.str (cS [97, 63, 63]))) (.cons (.lit (.str (cS [97, 98, 97]))) .nil)))) (.cons (.lit (.bl true)) .nil))) (.one (.prim (.cmp .Is) (.cons (.call "could_be" (.cons (.mk "Locker.__init__" (.cons (.lit (.int 1)) (.cons (.lit (.int 1)) (.cons (.lit (.int 3)) .nil)))) (.cons (.lit (.str (cS [97, 63, 63]))) (.cons (.lit (.str (cS [97, 98, 98]))) .nil)))) (.cons (.lit (.bl false)) .nil))))))
  .nil))
def lawT : DT := ⟨"law", ["script", "k", "box", "numbers", "locker", "word", "flags", "seen", "turn", "at", "near", "other", "one"], ["script"], [], lawB, []⟩
def top (i : Nat) : Stmt := PySem.Challenge.pw_flaghoists_k18_what_it_can_be.main.body.getD i (.Pass ⟨0, 0, 0, 0⟩)
def mtop (i j : Nat) : Stmt := match top i with
  | .ClassDef _ _ _ body _ _ _ _ _ _ _ => body.getD j (.Pass ⟨0, 0, 0, 0⟩)
  | s => s
def gsL : GX := ⟨[("LETTERS", (.str (cS ABC))), ("FIGURES", (.str (cS FIG))), ("LONGEST_WORD", (.int 40)), ("MOST_SETS", (.int 3)), ("MOST_REPEATERS", (.int 9)), ("WORD", (.str (cS [108, 111, 99, 107, 101, 114]))), ("HIDDEN", (.str (cS [63])))], [("Locker", ["locker_sets", "locker_repeaters", "locker_most"])]⟩
def tab : List (DT × Stmt) := [(Gl.Locker_x__init__T, mtop 17 0), (Gl.Locker_x__eq__T, mtop 17 1), (Gl.Locker_x__str__T, mtop 17 2), (Gl.Locker_numbersT, mtop 17 3), (Gl.Locker_setsT, mtop 17 4), (Gl.Locker_repeatersT, mtop 17 5), (Gl.Locker_mostT, mtop 17 6), (Gl.is_integerT, top 10), (Gl.is_made_ofT, top 11), (Gl.is_wordT, top 12), (Gl.need_lockerT, top 18), (Gl.repeaters_ofT, top 19), (Gl.need_seenT, top 22), (Gl.fitsT, top 23), (Gl.hidden_fitT, top 24), (Gl.could_beT, top 25), ((Gl.x_law_cellT 49 160481219), top 27), (Gl.x_law_boxT, top 28), ((Gl.x_law_takeT 49), top 29), (Gl.x_law_numbersT, top 30), (Gl.x_law_wordT, top 31), (Gl.x_law_is_hoistT, top 32), (Gl.x_law_shownT, top 33), (x_law_laidT, top 34), (Gl.x_law_dueT, top 35), (lawT, top 36)]
abbrev Φ (n : Nat) : FT := PT (tab.map (·.1)) n
theorem fit0 : FitD gsL Gl.Locker_x__init__T (mtop 17 0) := ⟨by decide +kernel, by decide +kernel, fun _ _ _ _ _ _ _ us its hl hi => match us, hl, its, hi with | [_, _, _, _], _, [_, _, _], _ => ⟨_, rfl, rfl⟩⟩
theorem fit1 : FitD gsL Gl.Locker_x__eq__T (mtop 17 1) := ⟨by decide +kernel, by decide +kernel, fun _ _ _ _ _ _ us hl => match us, hl with | [_, _], _ => rfl⟩
theorem fit2 : FitD gsL Gl.Locker_x__str__T (mtop 17 2) := ⟨by decide +kernel, by decide +kernel, fun _ _ _ _ _ _ us hl => match us, hl with | [_], _ => rfl⟩
theorem fit3 : FitD gsL Gl.Locker_numbersT (mtop 17 3) := ⟨by decide +kernel, by decide +kernel, fun _ _ _ _ _ _ us hl => match us, hl with | [_], _ => rfl⟩
theorem fit4 : FitD gsL Gl.Locker_setsT (mtop 17 4) := ⟨by decide +kernel, by decide +kernel, fun _ _ _ _ _ _ us hl => match us, hl with | [_], _ => rfl⟩
theorem fit5 : FitD gsL Gl.Locker_repeatersT (mtop 17 5) := ⟨by decide +kernel, by decide +kernel, fun _ _ _ _ _ _ us hl => match us, hl with | [_], _ => rfl⟩
theorem fit6 : FitD gsL Gl.Locker_mostT (mtop 17 6) := ⟨by decide +kernel, by decide +kernel, fun _ _ _ _ _ _ us hl => match us, hl with | [_], _ => rfl⟩
theorem fit7 : FitD gsL Gl.is_integerT (top 10) := ⟨by decide +kernel, by decide +kernel, fun _ _ _ _ _ _ us hl => match us, hl with | [_, _, _], _ => rfl⟩
theorem fit8 : FitD gsL Gl.is_made_ofT (top 11) := ⟨by decide +kernel, by decide +kernel, fun _ _ _ _ _ _ us hl => match us, hl with | [_, _, _], _ => rfl⟩
theorem fit9 : FitD gsL Gl.is_wordT (top 12) := ⟨by decide +kernel, by decide +kernel, fun _ _ _ _ _ _ us hl => match us, hl with | [_], _ => rfl⟩
theorem fit10 : FitD gsL Gl.need_lockerT (top 18) := ⟨by decide +kernel, by decide +kernel, fun _ _ _ _ _ _ us hl => match us, hl with | [_], _ => rfl⟩
theorem fit11 : FitD gsL Gl.repeaters_ofT (top 19) := ⟨by decide +kernel, by decide +kernel, fun _ _ _ _ _ _ us hl => match us, hl with | [_], _ => rfl⟩
theorem fit12 : FitD gsL Gl.need_seenT (top 22) := ⟨by decide +kernel, by decide +kernel, fun _ _ _ _ _ _ us hl => match us, hl with | [_, _], _ => rfl⟩
theorem fit13 : FitD gsL Gl.fitsT (top 23) := ⟨by decide +kernel, by decide +kernel, fun _ _ _ _ _ _ us hl => match us, hl with | [_, _], _ => rfl⟩
theorem fit14 : FitD gsL Gl.hidden_fitT (top 24) := ⟨by decide +kernel, by decide +kernel, fun _ _ _ _ _ _ us hl => match us, hl with | [_, _, _, _], _ => rfl⟩
theorem fit15 : FitD gsL Gl.could_beT (top 25) := ⟨by decide +kernel, by decide +kernel, fun _ _ _ _ _ _ us hl => match us, hl with | [_, _, _], _ => rfl⟩
theorem fit16 : FitD gsL (Gl.x_law_cellT 49 160481219) (top 27) := ⟨by decide +kernel, by decide +kernel, fun _ _ _ _ _ _ us hl => match us, hl with | [_, _], _ => rfl⟩
theorem fit17 : FitD gsL Gl.x_law_boxT (top 28) := ⟨by decide +kernel, by decide +kernel, fun _ _ _ _ _ _ us hl => match us, hl with | [_], _ => rfl⟩
theorem fit18 : FitD gsL (Gl.x_law_takeT 49) (top 29) := ⟨by decide +kernel, by decide +kernel, fun _ _ _ _ _ _ us hl => match us, hl with | [_, _], _ => rfl⟩
theorem fit19 : FitD gsL Gl.x_law_numbersT (top 30) := ⟨by decide +kernel, by decide +kernel, fun _ _ _ _ _ _ us hl => match us, hl with | [_], _ => rfl⟩
theorem fit20 : FitD gsL Gl.x_law_wordT (top 31) := ⟨by decide +kernel, by decide +kernel, fun _ _ _ _ _ _ us hl => match us, hl with | [_, _], _ => rfl⟩
theorem fit21 : FitD gsL Gl.x_law_is_hoistT (top 32) := ⟨by decide +kernel, by decide +kernel, fun _ _ _ _ _ _ us hl => match us, hl with | [_, _], _ => rfl⟩
theorem fit22 : FitD gsL Gl.x_law_shownT (top 33) := ⟨by decide +kernel, by decide +kernel, fun _ _ _ _ _ _ us hl => match us, hl with | [_], _ => rfl⟩
theorem fit23 : FitD gsL x_law_laidT (top 34) := ⟨by decide +kernel, by decide +kernel, fun _ _ _ _ _ _ us hl => match us, hl with | [_, _, _], _ => rfl⟩
theorem fit24 : FitD gsL Gl.x_law_dueT (top 35) := ⟨by decide +kernel, by decide +kernel, fun _ _ _ _ _ _ us hl => match us, hl with | [_, _, _], _ => rfl⟩
theorem fit25 : FitD gsL lawT (top 36) := ⟨by decide +kernel, by decide +kernel, fun _ _ _ _ _ _ us hl => match us, hl with | [_], _ => rfl⟩
theorem f_Locker_x__init__ : findT (tab.map (·.1)) "Locker.__init__" = some Gl.Locker_x__init__T := by kernel_rfl
theorem f_Locker_x__eq__ : findT (tab.map (·.1)) "Locker.__eq__" = some Gl.Locker_x__eq__T := by kernel_rfl
theorem f_Locker_x__str__ : findT (tab.map (·.1)) "Locker.__str__" = some Gl.Locker_x__str__T := by kernel_rfl
theorem f_Locker_numbers : findT (tab.map (·.1)) "Locker.numbers" = some Gl.Locker_numbersT := by kernel_rfl
theorem f_Locker_sets : findT (tab.map (·.1)) "Locker.sets" = some Gl.Locker_setsT := by kernel_rfl
theorem f_Locker_repeaters : findT (tab.map (·.1)) "Locker.repeaters" = some Gl.Locker_repeatersT := by kernel_rfl
theorem f_Locker_most : findT (tab.map (·.1)) "Locker.most" = some Gl.Locker_mostT := by kernel_rfl
theorem f_is_integer : findT (tab.map (·.1)) "is_integer" = some Gl.is_integerT := by kernel_rfl
theorem f_is_made_of : findT (tab.map (·.1)) "is_made_of" = some Gl.is_made_ofT := by kernel_rfl
theorem f_is_word : findT (tab.map (·.1)) "is_word" = some Gl.is_wordT := by kernel_rfl
theorem f_need_locker : findT (tab.map (·.1)) "need_locker" = some Gl.need_lockerT := by kernel_rfl
theorem f_repeaters_of : findT (tab.map (·.1)) "repeaters_of" = some Gl.repeaters_ofT := by kernel_rfl
theorem f_need_seen : findT (tab.map (·.1)) "need_seen" = some Gl.need_seenT := by kernel_rfl
theorem f_fits : findT (tab.map (·.1)) "fits" = some Gl.fitsT := by kernel_rfl
theorem f_hidden_fit : findT (tab.map (·.1)) "hidden_fit" = some Gl.hidden_fitT := by kernel_rfl
theorem f_could_be : findT (tab.map (·.1)) "could_be" = some Gl.could_beT := by kernel_rfl
theorem f_x_law_cell : findT (tab.map (·.1)) "_law_cell" = some (Gl.x_law_cellT 49 160481219) := by kernel_rfl
theorem f_x_law_box : findT (tab.map (·.1)) "_law_box" = some Gl.x_law_boxT := by kernel_rfl
theorem f_x_law_take : findT (tab.map (·.1)) "_law_take" = some (Gl.x_law_takeT 49) := by kernel_rfl
theorem f_x_law_numbers : findT (tab.map (·.1)) "_law_numbers" = some Gl.x_law_numbersT := by kernel_rfl
theorem f_x_law_word : findT (tab.map (·.1)) "_law_word" = some Gl.x_law_wordT := by kernel_rfl
theorem f_x_law_is_hoist : findT (tab.map (·.1)) "_law_is_hoist" = some Gl.x_law_is_hoistT := by kernel_rfl
theorem f_x_law_shown : findT (tab.map (·.1)) "_law_shown" = some Gl.x_law_shownT := by kernel_rfl
theorem f_x_law_laid : findT (tab.map (·.1)) "_law_laid" = some x_law_laidT := by kernel_rfl
theorem f_x_law_due : findT (tab.map (·.1)) "_law_due" = some Gl.x_law_dueT := by kernel_rfl
theorem f_law : findT (tab.map (·.1)) "law" = some lawT := by kernel_rfl
theorem fits : FitAll gsL tab := ⟨fit0, fit1, fit2, fit3, fit4, fit5, fit6, fit7, fit8, fit9, fit10, fit11, fit12, fit13, fit14, fit15, fit16, fit17, fit18, fit19, fit20, fit21, fit22, fit23, fit24, fit25, trivial⟩
def loose : List PySem.Str := (["FlagError", "BadNumber", "BadLocker", "BadWord", "BadSeen", "LETTERS", "FIGURES", "LONGEST_WORD", "is_integer", "is_made_of", "is_word", "MOST_SETS", "MOST_REPEATERS", "WORD", "Locker", "need_locker", "repeaters_of", "HIDDEN", "need_seen", "fits", "hidden_fit", "could_be", "_law_cell", "_law_box", "_law_take", "_law_numbers", "_law_word", "_law_is_hoist", "_law_shown", "_law_laid"] : List PySem.Str) ++ (["_law_due"] : List PySem.Str)
abbrev Rw : PySem.W.OpenRow := PySem.W.OpenLaw.row PySem.Challenge.rw_flaghoists_k18_what_it_can_be
abbrev qv : Program := PySem.W.view Rw.prog [36]
abbrev hk : PySem.W.Hook := hookE 5 (faOf tab gsL) (fnOfT tab) (xfOf gsL)
def ob (s : PySem.W.SharedT) : He.AlD := obsEG 5 (faOf tab gsL) (fnOfT tab) (xfOf gsL) (HandSHeadRun.getT s)
theorem ob_eq (s : PySem.W.SharedT) : ob s = hk.obs s.abs := obsEG_eq (HandSHeadRun.getT_eq s)
theorem run (w : World) : HandSHeadRun.RunEq Rw qv hk ob 3000 loose w := by
  intro os
  kernel_rfl
end K18
set_option Elab.async false
set_option linter.all false
set_option maxRecDepth 100000
set_option maxHeartbeats 4000000
namespace K18
open PySem PySem.Spec PyProof.Rows L2 FH Gl
local macro_rules | `(tactic| decreasing_trivial) => `(tactic| first | assumption | exact of_decide_eq_true (by assumption) | rfl | omega | (unfold LIM; omega) | (simp only [cS_len, List.length_map, List.length_range, List.length_zipIdx, List.length_append, List.length_cons, List.length_nil, LIM]; omega) | (simp only [List.mem_range] at *; omega) | decide)
local macro_rules | `(tactic| array_get_dec) => `(tactic| first
  | with_reducible exact Ev.litI | with_reducible exact Ev.litT | with_reducible exact Ev.litB | with_reducible exact Ev.litN | with_reducible exact Ev.glbI | with_reducible exact Ev.glbT | ((with_reducible apply Ev.var); rfl)
  | with_reducible exact EvA.nil | with_reducible exact EvN.nil | with_reducible exact EvD.nil
  | ((with_reducible apply EvA.consX); (· array_get_dec); (· array_get_dec); (· rfl))
  | ((with_reducible apply EvN.consX); (· array_get_dec); (· array_get_dec); (· rfl))
  | ((with_reducible apply EvD.consX); (· array_get_dec); (· array_get_dec); (· rfl); (· rfl))
  | ((with_reducible apply EvA.mv); (· rfl); (· array_get_dec); (· decide))
  | ((with_reducible apply Ev.one); array_get_dec) | ((with_reducible apply Ev.not); array_get_dec) | ((with_reducible apply Ev.frzX); (· array_get_dec); (· rfl))
  | ((with_reducible apply Ev.and); (· array_get_dec); (· (intro _; array_get_dec)))
  | ((with_reducible apply Ev.or); (· array_get_dec); (· (intro _; array_get_dec)))
  | ((with_reducible apply Ev.lst); array_get_dec) | ((with_reducible apply Ev.tup); array_get_dec)
  | ((with_reducible apply Ev.prX); (· array_get_dec); (· decreasing_trivial_pre_omega); (· rfl))
  | ((with_reducible apply Ev.mtX); (· array_get_dec); (· array_get_dec); (· rfl); (· rfl); (· decreasing_trivial_pre_omega); (· rfl))
  | ((with_reducible apply Ev.chLL); (· array_get_dec); (· array_get_dec); (· array_get_dec))
  | ((with_reducible apply Ev.chlL); (· array_get_dec); (· array_get_dec); (· array_get_dec))
  | ((with_reducible apply Ev.chLl); (· array_get_dec); (· array_get_dec); (· array_get_dec))
  | ((with_reducible apply Ev.chll); (· array_get_dec); (· array_get_dec); (· array_get_dec))
  | ((with_reducible apply Ev.iteB); (· array_get_dec); (· (intro _; array_get_dec)); (· (intro _; array_get_dec)))
  | ((with_reducible apply Ev.iteI); (· array_get_dec); (· (intro _; array_get_dec)); (· (intro _; array_get_dec)))
  | ((with_reducible apply Ev.iteC); (· array_get_dec); (· (intro _; array_get_dec)); (· (intro _; array_get_dec)))
  | ((with_reducible apply Ev.iteT); (· array_get_dec); (· (intro _; array_get_dec)); (· (intro _; array_get_dec)))
  | ((with_reducible apply EvI.tx); (· array_get_dec); (· decreasing_trivial))
  | ((with_reducible apply EvI.ls); (· array_get_dec); (· decreasing_trivial))
  | ((with_reducible apply EvI.lo); (· array_get_dec); (· decreasing_trivial))
  | ((with_reducible apply EvI.tu); (· array_get_dec); (· decreasing_trivial))
  | ((with_reducible apply EvI.etx); (· array_get_dec); (· decreasing_trivial))
  | ((with_reducible apply EvI.els); (· array_get_dec); (· decreasing_trivial))
  | ((with_reducible apply EvI.rz1); (· array_get_dec); (· rfl); (· decreasing_trivial); (· decreasing_trivial))
  | ((with_reducible apply EvI.rz2); (· array_get_dec); (· array_get_dec); (· rfl); (· rfl); all_goals decreasing_trivial)
  | ((with_reducible apply Ev.comp); (· array_get_dec); (· decreasing_trivial); (· rfl); (· rfl); (· exact fun _ => rfl); (· (intro _ _; array_get_dec)))
  | ((with_reducible apply Ev.compIf); (· rfl); (· array_get_dec); (· decreasing_trivial); (· rfl); (· rfl); (· exact fun _ => rfl); (· (intro _ _; array_get_dec)); (· (intro _ _ _; array_get_dec)))
  | ((with_reducible apply Ev.lkS); (· rfl); (· array_get_dec); (· assumption))
  | ((with_reducible apply Ev.lkR); (· rfl); (· array_get_dec); (· assumption))
  | ((with_reducible apply Ev.lkM); (· rfl); (· array_get_dec); (· assumption))
  | ((with_reducible apply Ev.lkI); (· array_get_dec); (· array_get_dec); (· array_get_dec); (· rfl); (· rfl); (· rfl); (· assumption); all_goals decreasing_trivial)
  | ((with_reducible apply Ev.fvX); (· array_get_dec); (· ((with_reducible apply_assumption) <;> decreasing_trivial))))
local macro_rules | `(tactic| decreasing_trivial_pre_omega) => `(tactic| (dsimp only [List.map, R.d, dV, sh1]; first
  | with_reducible exact sem_gt | with_reducible exact sem_ge | with_reducible exact sem_lt | with_reducible exact sem_le
  | with_reducible exact sem_inS | with_reducible exact sem_ninS | with_reducible exact sem_eqI | with_reducible exact sem_neI | with_reducible exact sem_eqB | with_reducible exact sem_neB | with_reducible exact sem_isB | with_reducible exact sem_nisB | with_reducible exact sem_reprB
  | with_reducible exact sem_eqCC | with_reducible exact sem_neCC | with_reducible exact sem_eqS | with_reducible exact sem_neS | with_reducible exact sem_eqX | with_reducible exact sem_neX | with_reducible exact sem_addI | with_reducible exact sem_subI | with_reducible exact sem_lenL | with_reducible exact sem_lenT
  | with_reducible exact sem_intB | with_reducible exact sem_max2 | with_reducible exact sem_min2 | with_reducible exact mt_countS | with_reducible exact sem_all | with_reducible exact sem_any | with_reducible exact sem_sum
  | with_reducible exact fld_s | with_reducible exact fld_r | with_reducible exact fld_m | with_reducible exact isc_lk | with_reducible exact is_strS | with_reducible exact is_intI | with_reducible exact is_boolI | with_reducible exact is_lstL | with_reducible exact is_tupT | with_reducible exact is_ltL | with_reducible exact is_ltT | with_reducible exact is_dicD
  | ((with_reducible refine sem_isI ?_); first | rfl | decreasing_trivial)
  | ((with_reducible refine sem_intF ?_); decreasing_trivial)
  | ((with_reducible refine sem_lenS ?_); decreasing_trivial)
  | ((with_reducible refine sem_addS ?_); decreasing_trivial)
  | ((with_reducible refine sem_addL ?_); decreasing_trivial)
  | ((with_reducible refine sem_slS ?_ ?_) <;> decreasing_trivial)
  | ((with_reducible refine sem_slS2 ?_ ?_) <;> decreasing_trivial)
  | ((with_reducible refine sem_slS3 ?_ ?_ ?_) <;> decreasing_trivial)
  | ((with_reducible refine sem_slL ?_) <;> decreasing_trivial)
  | ((with_reducible refine sem_slL2 ?_) <;> decreasing_trivial)
  | ((with_reducible refine sem_slL3 ?_ ?_) <;> decreasing_trivial)
  | ((with_reducible refine sem_idxSg ?_ ?_ ?_) <;> decreasing_trivial)
  | ((with_reducible refine sem_idxWs ?_ ?_) <;> decreasing_trivial)
  | ((with_reducible refine sem_idxCs ?_ ?_) <;> decreasing_trivial)
  | ((with_reducible refine sem_strD ?_ ?_) <;> decreasing_trivial)
  | ((with_reducible refine sem_listS ?_); decreasing_trivial)
  | ((with_reducible refine sem_rvS ?_); decreasing_trivial)
  | with_reducible exact mt_startsS
  | rfl))
section
variable {tab : List DT} {n : Nat}
def SLaidR (Φ : FT) : Prop := ∀ m r w (R : Int), 0 ≤ R → R ≤ 9 → Bx (m + 80) r → w.length ≤ 40 → Lw w → ∃ f r', Fo Φ "_law_laid" r [dS w, .int R] (rS f) r' ∧ f.length = w.length ∧ Laid w f ∧ (∀ c, c ∈ f → c ∈ ABC ∨ c ∈ FIG.take R.toNat) ∧ Bx m r'
theorem SLaidR.of (h : findT tab "_law_laid" = some x_law_laidT) (S : STake (PT tab n)) : SLaidR (PT tab (n + 1)) := by
  intro m r w R hR0 hR9 hb hw hl
  have key := fo_ex (r := r) (ds := [dS w, .int R]) (P := fun q r' => ∃ f, q = rS f ∧ f.length = w.length ∧ Laid w f ∧ (∀ c, c ∈ f → c ∈ ABC ∨ c ∈ FIG.take R.toNat) ∧ Bx m r') h rfl rfl (n := n) (by
    refine Wp.asgV (by array_get_dec) (Wp.at_env (e := [_, _, _, _, _, _, _, _]) ?_ rfl)
    refine Wp.forV (enc := fun p : Nat × Nat => FH.D.tup [.int (p.2 : Nat), dC p.1]) (l := w.zipIdx) (fun done e => ∃ f r' a b c, e = [some r', some (rS w), some (rZ R), some (rS f), a, b, c, none] ∧ f.length = done.length ∧ Laid w f ∧ (∀ c, c ∈ f → c ∈ ABC ∨ c ∈ FIG.take R.toNat) ∧ Bx (m + (80 - 2 * done.length)) r') (by array_get_dec) ⟨[], r, _, _, _, rfl, rfl, ⟨Nat.zero_le _, fun i c z => by simp at z⟩, (fun c z => by simp at z), hb⟩ ?_ ?_
    · rintro done p rest e he ⟨f, r', a, b, c, rfl, hf, lf, af, bf⟩
      have hd : done.length < w.length := by
        have := congrArg List.length he
        rw [List.length_zipIdx, List.length_append, List.length_cons] at this
        omega
      have hp : p.2 = done.length ∧ w[p.2]? = some p.1 := by
        have h1 : w.zipIdx[done.length]? = some p := by rw [he, List.getElem?_append_right (Nat.le_refl _), Nat.sub_self] <;> rfl
        have h2 := h1
        rw [List.getElem?_zipIdx] at h2
        cases hq : w[done.length]? with
        | none => rw [hq] at h2; cases h2
        | some x =>
          rw [hq] at h2
          cases h2
          exact ⟨by simp, by simpa using hq⟩
      obtain ⟨hp1, hp2⟩ := hp
      have hABC : p.1 ∈ ABC := hl _ (List.mem_of_getElem? hp2)
      refine ⟨_, rfl, Wp.at_env (e := [_, _, _, _, some (.sh (.int (p.2 : Nat))), some (.sh (dC p.1)), _, _]) ?_ rfl⟩
      have hsome : ∃ q : Nat → Bool, Ev (FH.PT tab n) (.frz (.comp [("k", 7)] (.prim (.fn .str) (.cons (.var 7) .nil)) (.nm 7) (.srng (.cons (.lit (.int 1)) (.cons (.prim (.bin .Add) (.cons (.prim (.fn .min2) (.cons (.var 4) (.cons (.var 2) .nil))) (.cons (.lit (.int 1)) .nil))) .nil))) (.and (.prim (.cmp .Eq) (.cons (.prim .idx (.cons (.var 1) (.cons (.prim (.bin .Sub) (.cons (.var 7) (.cons (.lit (.int 1)) .nil))) .nil))) (.cons (.var 5) .nil))) (.one (.prim (.cmp .NotIn) (.cons (.prim (.fn .str) (.cons (.var 7) .nil)) (.cons (.var 3) .nil)))))))
          [some r', some (rS w), some (rZ R), some (rS f), some (.sh (.int (p.2 : Nat))), some (.sh (dC p.1)), c, none] (.sh (.lst none ((((List.range (min (p.2 : Int) R + 1 - 1).toNat).filter q).map fun k => k + 49).map dC))) ∧ ∀ k, k < (min (p.2 : Int) R + 1 - 1).toNat → q k = true → w.getD k 0 = p.1 ∧ (k + 49) ∉ f := by
        refine ⟨fun k => decide (w.getD ((1 + (k : Int)) - 1).toNat 0 = p.1) && !decide (((1 + (k : Int)).toNat + 48) ∈ f), ?_, fun k hk hq => ?_⟩
        · have : ((((List.range (min (p.2 : Int) R + 1 - 1).toNat).filter fun k : Nat => decide (w.getD ((1 + (k : Int)) - 1).toNat 0 = p.1) && !decide (((1 + (k : Int)).toNat + 48) ∈ f)).map fun k => k + 49).map dC) = (((List.range (min (p.2 : Int) R + 1 - 1).toNat).filter fun k : Nat => decide (w.getD ((1 + (k : Int)) - 1).toNat 0 = p.1) && !decide (((1 + (k : Int)).toNat + 48) ∈ f)).map fun k : Nat => dC ((1 + (k : Int)).toNat + 48)) := by
            rw [List.map_map]
            refine List.map_congr_left fun k _ => ?_
            show dC (k + 49) = dC _
            rw [show (1 + (k : Int)).toNat + 48 = k + 49 by omega]
          rw [this]
          have l3 : w.length ≤ LIM := by unfold LIM; omega
          apply Ev.of
          · array_get_dec
          · rfl
        · simp only [Bool.and_eq_true, decide_eq_true_eq, Bool.not_eq_true', decide_eq_false_iff_not] at hq
          rw [show ((1 + (k : Int)) - 1).toNat = k by omega, show (1 + (k : Int)).toNat + 48 = k + 49 by omega] at hq
          exact hq
      obtain ⟨q, hq1, hq2⟩ := hsome
      refine Wp.asgV hq1 (Wp.at_env (e := [_, _, _, _, _, _, _, _]) ?_ rfl)
      generalize hso : (((List.range (min (p.2 : Int) R + 1 - 1).toNat).filter q).map fun k => k + 49) = so at *
      have hmem : ∀ x, x ∈ so → x ∈ FIG.take R.toNat ∧ x ∈ FIG ∧ x - 48 ≤ p.2 ∧ w[x - 49]? = w[p.2]? ∧ x ∉ f := by
        intro x hx
        rw [← hso] at hx
        obtain ⟨k, hk, rfl⟩ := List.mem_map.mp hx
        obtain ⟨k1, k2⟩ := List.mem_filter.mp hk
        have k3 := List.mem_range.mp k1
        obtain ⟨k4, k5⟩ := hq2 k k3 k2
        have k6 : k < w.length := by
          have := (List.getElem?_eq_some_iff.mp hp2).1
          omega
        refine ⟨take_fig (fig_mem (by omega) (by omega)) (by omega), fig_mem (by omega) (by omega), by omega, ?_, k5⟩
        rw [show k + 49 - 49 = k by omega, hp2, ← k4, List.getD_eq_getElem?_getD, List.getElem?_eq_getElem k6] <;> rfl
      have hso1 : ∀ x, x ∈ so → x < 1114112 := fun x hx => by have := fig_ge (hmem x hx).2.1; omega
      have gx : ∀ v : Int, 0 ≤ v → v < so.length → so.getD v.toNat 0 ∈ so := fun v g0 g1 => by
        rw [List.getD_eq_getElem?_getD, List.getElem?_eq_getElem (by omega)]
        exact List.getElem_mem _
      have hso2 : so.length ≤ 9 := by
        rw [← hso, List.length_map]
        have := List.length_filter_le q (List.range (min (p.2 : Int) R + 1 - 1).toNat)
        rw [List.length_range] at this
        omega
      have bf2 : Bx (m + (78 - 2 * done.length) + 1 + 1) r' := bf.le (by omega)
      have l4 : f.length + 1 ≤ LIM := by unfold LIM; omega
      refine Wp.asg (We.frz (We.primN rfl (Wa.consV (by array_get_dec) (Wa.cons (We.imp (K := fun r0 e => ∃ x r2, r0 = .sh (dC x) ∧ e = [some r2, some (rS w), some (rZ R), some (rS f), some (.sh (.int (p.2 : Nat))), some (.sh (dC p.1)), some (.sh (.lst none (so.map dC))), none] ∧ Bx (m + (78 - 2 * done.length)) r2 ∧ (x ∈ ABC ∨ x ∈ FIG.take R.toNat) ∧ ((w[f.length]? = some x ∧ x ∈ ABC) ∨ (x ∈ FIG ∧ x - 48 ≤ f.length ∧ w[x - 49]? = w[f.length]? ∧ x ∉ f))) ?_ ?_)))))
      · have old : (w[f.length]? = some p.1 ∧ p.1 ∈ ABC) ∨ (p.1 ∈ FIG ∧ p.1 - 48 ≤ f.length ∧ w[p.1 - 49]? = w[f.length]? ∧ p.1 ∉ f) := .inl ⟨by rw [hf, ← hp1]; exact hp2, hABC⟩
        have ne : Ev (FH.PT tab n) (.prim (.cmp .NotEq) (.cons (.var 6) (.cons (.lst .nil) .nil))) [some r', some (rS w), some (rZ R), some (rS f), some (.sh (.int (p.2 : Nat))), some (.sh (dC p.1)), some (.sh (.lst none (so.map dC))), none] (rB (!decide (so = []))) := by
          with_reducible apply Ev.prX
          · array_get_dec
          · exact sem_neC hso1
          · rfl
        refine We.ite (We.and (We.of (r := rB (!decide (so = []))) ne ⟨_, rfl, fun ht => ?_, fun _ => ⟨_, rfl, fun z => (nomatch z), fun _ => We.of (by array_get_dec) ⟨_, _, rfl, rfl, bf2.le (by omega), .inl hABC, old⟩⟩⟩))
        have hne : so ≠ [] := by simpa using ht
        have hpos : 1 ≤ so.length := List.length_pos_iff.mpr hne
        refine We.one (We.primN rfl (Wa.cons (We.take S rfl bf2 rfl (by array_get_dec) (by decide) (by decide) fun v r1 v0 v1 b1 => Wa.consV (r := rZ 0) Ev.litI (Wa.nil ⟨_, sem_gt, rfl, _, rfl, fun _ => ?_, fun _ => We.of (by array_get_dec) ⟨_, _, rfl, rfl, b1.le (by omega), .inl hABC, old⟩⟩))))
        refine We.primN rfl (Wa.consV (r := .sh (.lst none (so.map dC))) (by array_get_dec) (Wa.cons (We.take S (many := so.length) rfl b1 rfl (Ev.prX (rs := [.sh (.lst none (so.map dC))]) (by array_get_dec) (by show M.ok (rZ ((so.map dC).length : Nat)) = _; rw [List.length_map]) rfl) (by omega) (by omega) fun v2 r2 v20 v21 b2 => Wa.nil ⟨_, sem_idxCs v20 v21, rfl, _, _, rfl, rfl, b2.le (by omega), .inr (hmem _ (gx _ v20 v21)).1, .inr ?_⟩)))
        have := (hmem _ (gx _ v20 v21)).2
        rw [hf, ← hp1]
        exact this
      · rintro r0 e0 ⟨x, r2, rfl, rfl, b2, hxa, hx⟩
        refine Wa.nil ⟨_, sem_addS (b := [x]) l4, rfl, Wp.nil ⟨f ++ [x], r2, _, _, _, rfl, ?_, lf.snoc (by omega) hx, (fun y hy => by
          rcases List.mem_append.mp hy with hy | hy
          · exact af y hy
          · rw [List.mem_singleton.mp hy]; exact hxa), b2.le ?_⟩⟩
        · rw [List.length_append, List.length_append, hf] <;> rfl
        · rw [List.length_append, List.length_singleton]; omega
    · rintro e ⟨f, r', a, b, c, rfl, hf, lf, af, bf⟩
      rw [List.length_zipIdx] at hf bf
      exact Wp.retV (by array_get_dec) ⟨_, _, _, rfl, rfl, f, rfl, hf, lf, af, bf.le (by omega)⟩)
  obtain ⟨q, r', h1, f, rfl, h2, h3, h4, h5⟩ := key
  exact ⟨f, r', h1, h2, h3, h4, h5⟩
end
end K18
set_option Elab.async false
set_option linter.all false
set_option maxRecDepth 100000
set_option maxHeartbeats 4000000
namespace K18
open PySem PySem.Spec PyProof.Rows L2 FH Gl
local macro_rules | `(tactic| decreasing_trivial) => `(tactic| first | assumption | exact of_decide_eq_true (by assumption) | rfl | omega | (unfold LIM; omega) | (simp only [cS_len, List.length_map, List.length_range, List.length_zipIdx, List.length_append, List.length_cons, List.length_nil, LIM]; omega) | (simp only [List.mem_range] at *; omega) | decide)
local macro_rules | `(tactic| array_get_dec) => `(tactic| first
  | with_reducible exact Ev.litI | with_reducible exact Ev.litT | with_reducible exact Ev.litB | with_reducible exact Ev.litN | with_reducible exact Ev.glbI | with_reducible exact Ev.glbT | ((with_reducible apply Ev.var); rfl)
  | with_reducible exact EvA.nil | with_reducible exact EvN.nil | with_reducible exact EvD.nil
  | ((with_reducible apply EvA.consX); (· array_get_dec); (· array_get_dec); (· rfl))
  | ((with_reducible apply EvN.consX); (· array_get_dec); (· array_get_dec); (· rfl))
  | ((with_reducible apply EvD.consX); (· array_get_dec); (· array_get_dec); (· rfl); (· rfl))
  | ((with_reducible apply EvA.mv); (· rfl); (· array_get_dec); (· decide))
  | ((with_reducible apply Ev.one); array_get_dec) | ((with_reducible apply Ev.not); array_get_dec) | ((with_reducible apply Ev.frzX); (· array_get_dec); (· rfl))
  | ((with_reducible apply Ev.and); (· array_get_dec); (· (intro _; array_get_dec)))
  | ((with_reducible apply Ev.or); (· array_get_dec); (· (intro _; array_get_dec)))
  | ((with_reducible apply Ev.lst); array_get_dec) | ((with_reducible apply Ev.tup); array_get_dec)
  | ((with_reducible apply Ev.prX); (· array_get_dec); (· decreasing_trivial_pre_omega); (· rfl))
  | ((with_reducible apply Ev.mtX); (· array_get_dec); (· array_get_dec); (· rfl); (· rfl); (· decreasing_trivial_pre_omega); (· rfl))
  | ((with_reducible apply Ev.chLL); (· array_get_dec); (· array_get_dec); (· array_get_dec))
  | ((with_reducible apply Ev.chlL); (· array_get_dec); (· array_get_dec); (· array_get_dec))
  | ((with_reducible apply Ev.chLl); (· array_get_dec); (· array_get_dec); (· array_get_dec))
  | ((with_reducible apply Ev.chll); (· array_get_dec); (· array_get_dec); (· array_get_dec))
  | ((with_reducible apply Ev.iteB); (· array_get_dec); (· (intro _; array_get_dec)); (· (intro _; array_get_dec)))
  | ((with_reducible apply Ev.iteI); (· array_get_dec); (· (intro _; array_get_dec)); (· (intro _; array_get_dec)))
  | ((with_reducible apply Ev.iteC); (· array_get_dec); (· (intro _; array_get_dec)); (· (intro _; array_get_dec)))
  | ((with_reducible apply Ev.iteT); (· array_get_dec); (· (intro _; array_get_dec)); (· (intro _; array_get_dec)))
  | ((with_reducible apply EvI.tx); (· array_get_dec); (· decreasing_trivial))
  | ((with_reducible apply EvI.ls); (· array_get_dec); (· decreasing_trivial))
  | ((with_reducible apply EvI.lo); (· array_get_dec); (· decreasing_trivial))
  | ((with_reducible apply EvI.tu); (· array_get_dec); (· decreasing_trivial))
  | ((with_reducible apply EvI.etx); (· array_get_dec); (· decreasing_trivial))
  | ((with_reducible apply EvI.els); (· array_get_dec); (· decreasing_trivial))
  | ((with_reducible apply EvI.rz1); (· array_get_dec); (· rfl); (· decreasing_trivial); (· decreasing_trivial))
  | ((with_reducible apply EvI.rz2); (· array_get_dec); (· array_get_dec); (· rfl); (· rfl); all_goals decreasing_trivial)
  | ((with_reducible apply Ev.comp); (· array_get_dec); (· decreasing_trivial); (· rfl); (· rfl); (· exact fun _ => rfl); (· (intro _ _; array_get_dec)))
  | ((with_reducible apply Ev.compIf); (· rfl); (· array_get_dec); (· decreasing_trivial); (· rfl); (· rfl); (· exact fun _ => rfl); (· (intro _ _; array_get_dec)); (· (intro _ _ _; array_get_dec)))
  | ((with_reducible apply Ev.lkS); (· rfl); (· array_get_dec); (· assumption))
  | ((with_reducible apply Ev.lkR); (· rfl); (· array_get_dec); (· assumption))
  | ((with_reducible apply Ev.lkM); (· rfl); (· array_get_dec); (· assumption))
  | ((with_reducible apply Ev.lkI); (· array_get_dec); (· array_get_dec); (· array_get_dec); (· rfl); (· rfl); (· rfl); (· assumption); all_goals decreasing_trivial)
  | ((with_reducible apply Ev.fvX); (· array_get_dec); (· ((with_reducible apply_assumption) <;> decreasing_trivial))))
local macro_rules | `(tactic| decreasing_trivial_pre_omega) => `(tactic| (dsimp only [List.map, R.d, dV, sh1]; first
  | with_reducible exact sem_gt | with_reducible exact sem_ge | with_reducible exact sem_lt | with_reducible exact sem_le
  | with_reducible exact sem_inS | with_reducible exact sem_ninS | with_reducible exact sem_eqI | with_reducible exact sem_neI | with_reducible exact sem_eqB | with_reducible exact sem_neB | with_reducible exact sem_isB | with_reducible exact sem_nisB | with_reducible exact sem_reprB
  | with_reducible exact sem_eqCC | with_reducible exact sem_neCC | with_reducible exact sem_eqS | with_reducible exact sem_neS | with_reducible exact sem_eqX | with_reducible exact sem_neX | with_reducible exact sem_addI | with_reducible exact sem_subI | with_reducible exact sem_lenL | with_reducible exact sem_lenT
  | with_reducible exact sem_intB | with_reducible exact sem_max2 | with_reducible exact sem_min2 | with_reducible exact mt_countS | with_reducible exact sem_all | with_reducible exact sem_any | with_reducible exact sem_sum
  | with_reducible exact fld_s | with_reducible exact fld_r | with_reducible exact fld_m | with_reducible exact isc_lk | with_reducible exact is_strS | with_reducible exact is_intI | with_reducible exact is_boolI | with_reducible exact is_lstL | with_reducible exact is_tupT | with_reducible exact is_ltL | with_reducible exact is_ltT | with_reducible exact is_dicD
  | ((with_reducible refine sem_isI ?_); first | rfl | decreasing_trivial)
  | ((with_reducible refine sem_intF ?_); decreasing_trivial)
  | ((with_reducible refine sem_lenS ?_); decreasing_trivial)
  | ((with_reducible refine sem_addS ?_); decreasing_trivial)
  | ((with_reducible refine sem_addL ?_); decreasing_trivial)
  | ((with_reducible refine sem_slS ?_ ?_) <;> decreasing_trivial)
  | ((with_reducible refine sem_slS2 ?_ ?_) <;> decreasing_trivial)
  | ((with_reducible refine sem_slS3 ?_ ?_ ?_) <;> decreasing_trivial)
  | ((with_reducible refine sem_slL ?_) <;> decreasing_trivial)
  | ((with_reducible refine sem_slL2 ?_) <;> decreasing_trivial)
  | ((with_reducible refine sem_slL3 ?_ ?_) <;> decreasing_trivial)
  | ((with_reducible refine sem_idxSg ?_ ?_ ?_) <;> decreasing_trivial)
  | ((with_reducible refine sem_idxWs ?_ ?_) <;> decreasing_trivial)
  | ((with_reducible refine sem_idxCs ?_ ?_) <;> decreasing_trivial)
  | ((with_reducible refine sem_strD ?_ ?_) <;> decreasing_trivial)
  | ((with_reducible refine sem_listS ?_); decreasing_trivial)
  | ((with_reducible refine sem_rvS ?_); decreasing_trivial)
  | with_reducible exact mt_startsS
  | rfl))
/-- a place hidden -/
theorem hide_eq {f : List Nat} {k : Nat} (h : k < f.length) : f.take k ++ [63] ++ f.drop (k + 1) = f.set k 63 := by
  rw [List.set_eq_take_append_cons_drop, if_pos h, List.append_assoc] <;> rfl
theorem hide_count {f : List Nat} {k : Nat} (h : k < f.length) : (f.set k 63).count 63 ≤ f.count 63 + 1 := by
  rw [← hide_eq h]
  have e : f = f.take k ++ [f[k]] ++ f.drop (k + 1) := by
    rw [List.append_assoc]
    show f = f.take k ++ (f[k] :: f.drop (k + 1))
    rw [← List.drop_eq_getElem_cons h, List.take_append_drop]
  have c1 := congrArg (List.count 63) e
  rw [List.count_append, List.count_append] at c1
  rw [List.count_append, List.count_append]
  have : List.count 63 [63] = 1 := rfl
  omega
theorem hide_ok {R : Nat} {f : List Nat} {k : Nat} (h : SeenOk R f) : SeenOk R (f.set k 63) := fun x hx => by
  rcases List.mem_or_eq_of_mem_set hx with z | z
  · exact h x z
  · exact .inr (.inr z)
/-- seen flags of a hoist -/
def Seen (f seen : List Nat) : Prop := seen.length = f.length ∧ ∀ (i x : Nat), f[i]? = some x → seen[i]? = some x ∨ seen[i]? = some 63
theorem Seen.hide {f seen : List Nat} {k : Nat} (h : Seen f seen) : Seen f (seen.set k 63) := ⟨by rw [List.length_set]; exact h.1, fun i x hx => by
  by_cases e : k = i
  · subst e
    right
    have := (List.getElem?_eq_some_iff.mp hx).1
    exact List.getElem?_set_self (by rw [h.1]; exact this)
  · rw [List.getElem?_set_ne e]
    exact h.2 i x hx⟩
theorem seen_wordy {R : Nat} {m : Int} {seen : List Nat} (h : SeenOk R seen) (h1 : 1 ≤ seen.length) (hm : (seen.length : Int) ≤ m) : wordy ((ABC ++ FIG.take R) ++ [63]) m seen = true := by
  unfold wordy
  rw [decide_eq_true (show 1 ≤ (seen.length : Int) by omega), decide_eq_true hm, Bool.true_and, Bool.true_and, List.all_eq_true]
  intro c hc
  refine decide_eq_true ?_
  rcases h c hc with z | z | z
  · exact List.mem_append_left _ (List.mem_append_left _ z)
  · exact List.mem_append_left _ (List.mem_append_right _ z)
  · exact List.mem_append_right _ (List.mem_singleton.mpr z)
theorem word_wordy {w : List Nat} (h : Lw w) (h1 : 1 ≤ w.length) (hm : w.length ≤ 40) : wordy ABC 40 w = true := by
  unfold wordy
  rw [decide_eq_true (show 1 ≤ (w.length : Int) by omega), decide_eq_true (show (w.length : Int) ≤ 40 by omega), Bool.true_and, Bool.true_and, List.all_eq_true]
  exact fun c hc => decide_eq_true (h c hc)
theorem put_ok {w : List Nat} {k c : Nat} (h : Lw w) (hc : c ∈ ABC) (hk : k < w.length) : Lw (w.take k ++ [c] ++ w.drop (k + 1)) ∧ (w.take k ++ [c] ++ w.drop (k + 1)).length = w.length := by
  refine ⟨fun x hx => ?_, ?_⟩
  · rcases List.mem_append.mp hx with z | z
    · rcases List.mem_append.mp z with y | y
      · exact h x (List.mem_of_mem_take y)
      · rw [List.mem_singleton.mp y]; exact hc
    · exact h x (List.mem_of_mem_drop z)
  · rw [List.length_append, List.length_append, List.length_take, List.length_drop, List.length_singleton]
    omega
theorem end_t : couldV 1 1 [97, 63, 63] [97, 98, 97] = true := by
  have f : fitsV [97, 63, 63] [97, 98, 97] = true := fits_true fun p hp => by
    simp only [List.zipIdx_cons, List.zipIdx_nil, List.mem_cons, List.not_mem_nil, or_false] at hp
    rcases hp with rfl | rfl | rfl
    · exact ⟨fun _ => rfl, fun h => absurd h (by decide)⟩
    · exact ⟨fun h => absurd h (by decide), fun h => absurd h (by decide)⟩
    · exact ⟨fun h => absurd h (by decide), fun h => absurd h (by decide)⟩
  unfold couldV
  rw [f]
  decide +kernel
theorem end_f : couldV 1 1 [97, 63, 63] [97, 98, 98] = false := by
  unfold couldV
  have : (ABC.all fun c => decide (lackF (1 : Int).toNat [97, 63, 63] [97, 98, 98] 1 c ≤ 0)) = false := by decide +kernel
  rw [this, Bool.and_false, Bool.and_false]
theorem law_wp {Φ : FT} {ns : List Int} (s1 : SCell Φ) (s2 : SBox Φ) (s3 : STake Φ) (s4 : SNum Φ) (s5 : SLWord Φ) (s6 : SLaidR Φ) (i1 : PLi Φ) (h1 : PCould Φ) (h2 : PDue Φ) (h3 : PIsHoist Φ) :
    Wp Φ lawB NoX [some (.sh (.scr ns)), none, none, none, none, none, none, none, none, none, none, none, none] (Yes (.bl true)) := by
  obtain ⟨j, j1, j2⟩ := turns (Φ := Φ) (ns := ns) (env := [some (.sh (.scr ns)), none, none, none, none, none, none, none, none, none, none, none, none]) (a := 2) (b := 8) (by decide) (by decide) (by decide) (by decide) rfl
  refine Wp.forV (enc := fun i : Nat => FH.D.int (0 + (i : Int))) (l := List.range j) (fun done e => ∃ a b c d f g h u v x y z, e = [some (.sh (.scr ns)), a, b, c, d, f, g, h, u, v, x, y, z]) j2 ⟨_, _, _, _, _, _, _, _, _, _, _, _, rfl⟩ ?_ ?_
  · rintro done i rst e hl ⟨a, b, c, d, f0, g, h, u, v0, x0, y0, z0, rfl⟩
    have hi : i < 100 := by
      have : i ∈ List.range j := by rw [hl]; simp
      have := List.mem_range.mp this
      omega
    refine ⟨_, rfl, Wp.at_env (e := [some (.sh (.scr ns)), some (rZ i), b, c, d, f0, g, h, u, v0, x0, y0, z0]) ?_ (by show [some (.sh (.scr ns)), some (.sh (.int (0 + (i : Int)))), b, c, d, f0, g, h, u, v0, x0, y0, z0] = _; rw [Int.zero_add])⟩
    obtain ⟨v, hv⟩ := s1 ns i hi
    obtain ⟨bx0, hb0, b0⟩ := s2 v
    refine Wp.asgV (Ev.fv hb0 (EvD.cons rfl (Ev.fv hv (EvD.cons rfl (Ev.var rfl) rfl (EvD.cons rfl (Ev.var rfl) rfl EvD.nil))) rfl EvD.nil)) (Wp.at_env (e := [_, _, _, _, _, _, _, _, _, _, _, _, _]) ?_ rfl)
    obtain ⟨S, R, M, r1, n1, ⟨S1, S3⟩, ⟨R0, R9⟩, ⟨M1, M40⟩, b1⟩ := s4 999992 bx0 b0
    refine Wp.asg (We.frz (We.lent n1 rfl EvD.nil (Wp.at_env (e := [_, _, some r1, some (.sh (.lst none [.int S, .int R, .int M])), _, _, _, _, _, _, _, _, _]) ?_ rfl)))
    refine Wp.asgV (v := .sh (lkD S R M)) ?_ (Wp.at_env (e := [_, _, _, _, _, _, _, _, _, _, _, _, _]) ?_ rfl)
    · refine Ev.frzX (r := .ow (lkD S R M)) ?_ rfl
      array_get_dec
    obtain ⟨w, r2, f1, f2, f3, f4, b2⟩ := s5 999942 r1 (min 9 M).toNat b1 (by omega) (by omega)
    refine Wp.asg (We.frz (We.lent f1 rfl (EvD.cons rfl (r := rZ (min 9 M)) (by array_get_dec) (by show FH.D.int (min 9 M) = FH.D.int _; congr 1; omega) EvD.nil) (Wp.at_env (e := [_, _, some r2, _, _, some (rS w), _, _, _, _, _, _, _]) ?_ rfl)))
    obtain ⟨f, r3, g1, g2, g3, g4, b3⟩ := s6 999862 r2 w R R0 R9 b2 (by omega) f4
    refine Wp.asg (We.frz (We.lent g1 rfl (EvD.cons rfl (Ev.var rfl) rfl (EvD.cons rfl (Ev.of (by array_get_dec) rfl) rfl EvD.nil)) (Wp.at_env (e := [_, _, some r3, _, _, _, some (rS f), _, _, _, _, _, _]) ?_ rfl)))
    have hlen : 1 ≤ w.length := List.length_pos_iff.mpr f2
    have hw9 : w.length ≤ 9 := by omega
    have hwM : (w.length : Int) ≤ M := by omega
    refine Wp.asgV (v := rS f) (by array_get_dec) (Wp.at_env (e := [_, _, _, _, _, _, _, _, _, _, _, _, _]) ?_ rfl)
    have hf0 : SeenOk R.toNat f := fun x hx => by
      rcases g4 x hx with z | z
      · exact .inl z
      · exact .inr (.inl z)
    have hf63 : f.count 63 = 0 := by
      rw [List.count_eq_zero]
      intro hm
      rcases g4 63 hm with z | z
      · have := abc_ge z; omega
      · have := fig_ge (List.mem_of_mem_take z); omega
    refine Wp.forE (We.srng1 (Wa.cons (We.take (n := 999861) s3 (i := 2) rfl b3 rfl (by array_get_dec) (by decide) (by decide) fun tn r4 t0 t1 b4 => Wa.nil ⟨tn, rfl, by unfold LIM; omega, by unfold LIM; omega, rngD 0 tn, (fun done e => ∃ (seen : List Nat) (r : FH.R) (p q : Option FH.R), e = [some (.sh (.scr ns)), some (rZ i), some r, some (.sh (.lst none [.int S, .int R, .int M])), some (.sh (lkD S R M)), some (rS w), some (rS f), some (rS seen), p, q, x0, y0, z0] ∧ Seen f seen ∧ SeenOk R.toNat seen ∧ seen.count 63 ≤ done.length ∧ Bx (999861 - done.length) r), rfl, ⟨f, r4, _, _, rfl, ⟨rfl, fun i x hx => .inl hx⟩, hf0, by rw [hf63]; exact Nat.zero_le _, b4⟩, ?_, ?_⟩)))
    · rintro done2 d2 rest2 e he ⟨seen, r, p, q, rfl, q1, q2, q3, q4⟩
      have hd3 : done2.length < 3 := by
        have := congrArg List.length he
        rw [rngD_length, List.length_append, List.length_cons] at this
        omega
      have hsl : seen.length = w.length := by rw [q1.1, g2]
      refine ⟨_, rfl, Wp.at_env (e := [_, _, _, _, _, _, _, _, _, _, _, _, _]) ?_ rfl⟩
      have l1 : seen.length ≤ LIM := by unfold LIM; omega
      refine Wp.asg (We.take (n := 999861 - (done2.length + 1)) s3 (i := 2) (many := seen.length) rfl (q4.le (by omega)) rfl (by array_get_dec) (by omega) (by omega) fun at1 r5 a0 a1 b5 => Wp.at_env (e := [_, _, some r5, _, _, _, _, _, _, some (rZ at1), _, _, _]) ?_ rfl)
      have hat : at1.toNat < seen.length := by omega
      have l2 : (seen.take at1.toNat).length + [63].length ≤ LIM := by rw [List.length_take]; unfold LIM; simp only [List.length_singleton]; omega
      have l3 : (seen.take at1.toNat ++ [63]).length + (seen.drop (at1 + 1).toNat).length ≤ LIM := by rw [List.length_append, List.length_take, List.length_drop]; unfold LIM; simp only [List.length_singleton]; omega
      refine Wp.asgV (v := rS (seen.set at1.toNat 63)) ?_ (Wp.at_env (e := [_, _, _, _, _, _, _, _, _, _, _, _, _]) ?_ rfl)
      · rw [← hide_eq hat]
        apply Ev.of
        · array_get_dec
        · show rS _ = rS _
          rw [show (at1 + 1).toNat = at1.toNat + 1 by omega]
      refine Wp.nil ⟨_, _, _, _, rfl, q1.hide, hide_ok q2, ?_, ?_⟩
      · rw [List.length_append, List.length_singleton]
        have := hide_count hat
        omega
      · rw [List.length_append, List.length_singleton]
        exact b5
    · rintro e ⟨seen, r, p, q, rfl, q1, q2, q3, q4⟩
      rw [rngD_length] at q3 q4
      have q3' : seen.count 63 ≤ 3 := by omega
      have hsl : seen.length = w.length := by rw [q1.1, g2]
      have b5 : Bx (999800 + 1 + 1 + 1 + 50) r := q4.le (by omega)
      have wl : w.length ≤ 5000 := by omega
      have sl : seen.length ≤ 5000 := by omega
      have ok1 : wordy ((ABC ++ FIG.take R.toNat) ++ [63]) M seen = true := seen_wordy q2 (by omega) (by omega)
      refine Wp.asg (We.take (n := 999800 + 1 + 1 + 50) s3 (i := 2) (many := w.length) rfl (b5.le (by omega)) rfl (by array_get_dec) (by omega) (by omega) fun at1 r6 a0 a1 b6 => Wp.at_env (e := [_, _, some r6, _, _, _, _, _, _, some (rZ at1), _, _, _]) ?_ rfl)
      have hat : at1.toNat < w.length := by omega
      have l1 : (w.take at1.toNat).length + 1 ≤ LIM := by rw [List.length_take]; unfold LIM; omega
      have e1 : (at1 + 1).toNat = at1.toNat + 1 := by omega
      have l3 : ∀ c : Nat, (w.take at1.toNat ++ [c]).length + (w.drop (at1.toNat + 1)).length ≤ LIM := fun c => by rw [List.length_append, List.length_take, List.length_drop]; unfold LIM; simp only [List.length_singleton]; omega
      have sl1 : ∀ r : FH.R, Ev Φ (.prim (.sl false true) (.cons (.var 5) (.cons (.var 9) .nil))) [some (.sh (.scr ns)), some (rZ i), some r, some (.sh (.lst none [.int S, .int R, .int M])), some (.sh (lkD S R M)), some (rS w), some (rS f), some (rS seen), p, some (rZ at1), x0, y0, z0] (rS (w.take at1.toNat)) := fun r => by
        array_get_dec
      refine Wp.asg (We.frz (We.primN rfl (Wa.cons (We.primN rfl (Wa.consV (r := rS (w.take at1.toNat)) (by array_get_dec) (Wa.cons (We.primN rfl (Wa.consV (Ev.var rfl) (Wa.cons (We.take (n := 999800 + 1 + 50) s3 (i := 2) (many := w.length) rfl (b6.le (by omega)) rfl (by array_get_dec) (by omega) (by omega) fun k7 r7 k0 k1 b7 => Wa.nil ⟨_, sem_idxSg (by unfold LIM; omega) k0 k1, rfl, Wa.nil ⟨_, sem_addS (a := w.take at1.toNat) (b := [w.getD k7.toNat 0]) l1, rfl, ?_⟩⟩))))))))))
      refine Wa.consV (r := rS (w.drop (at1.toNat + 1))) (by rw [← e1]; array_get_dec) (Wa.nil ⟨_, sem_addS (l3 _), rfl, ?_⟩)
      have hk7 : w.getD k7.toNat 0 ∈ ABC := by
        rw [List.getD_eq_getElem?_getD, List.getElem?_eq_getElem (by omega)]
        exact f4 _ (List.getElem_mem _)
      obtain ⟨near1, near2⟩ := put_ok f4 hk7 hat
      refine Wp.at_env (e := [_, _, some r7, _, _, _, _, _, _, _, some (rS (w.take at1.toNat ++ [w.getD k7.toNat 0] ++ w.drop (at1.toNat + 1))), _, _]) ?_ rfl
      generalize w.take at1.toNat ++ [w.getD k7.toNat 0] ++ w.drop (at1.toNat + 1) = near at *
      refine Wp.asg (We.frz (We.primN rfl (Wa.cons (We.primN rfl (Wa.consV (r := rS (w.take at1.toNat)) (by array_get_dec) (Wa.cons (We.primN rfl (Wa.consV (Ev.litT) (Wa.cons (We.take (n := 999800 + 50) s3 (i := 2) (many := 26) rfl (b7.le (by omega)) rfl (by array_get_dec) (by omega) (by omega) fun k8 r8 k80 k81 b8 => Wa.nil ⟨_, sem_idxSg (by unfold LIM; decide) k80 k81, rfl, Wa.nil ⟨_, sem_addS (a := w.take at1.toNat) (b := [ABC.getD k8.toNat 0]) l1, rfl, ?_⟩⟩))))))))))
      refine Wa.consV (r := rS (w.drop (at1.toNat + 1))) (by rw [← e1]; array_get_dec) (Wa.nil ⟨_, sem_addS (l3 _), rfl, ?_⟩)
      have hk8 : ABC.getD k8.toNat 0 ∈ ABC := by
        rw [List.getD_eq_getElem?_getD, List.getElem?_eq_getElem (show k8.toNat < ABC.length by show _ < 26; omega)]
        exact List.getElem_mem _
      obtain ⟨other1, other2⟩ := put_ok f4 hk8 hat
      refine Wp.at_env (e := [_, _, some r8, _, _, _, _, _, _, _, _, some (rS (w.take at1.toNat ++ [ABC.getD k8.toNat 0] ++ w.drop (at1.toNat + 1))), _]) ?_ rfl
      generalize w.take at1.toNat ++ [ABC.getD k8.toNat 0] ++ w.drop (at1.toNat + 1) = other at *
      obtain ⟨w2, r9, w21, w22, w23, w24, b9⟩ := s5 999800 r8 9 b8 (by decide) (by decide)
      have l4 : w.length + [97].length ≤ LIM := by unfold LIM; simp only [List.length_singleton]; omega
      refine Wp.forE (We.sval (We.lst (Wa.consV (by array_get_dec) (Wa.consV (by array_get_dec) (Wa.consV (by array_get_dec) (Wa.consV (by array_get_dec) (Wa.consV (by array_get_dec) (Wa.cons (We.lent w21 rfl (EvD.cons rfl Ev.lit rfl EvD.nil) (Wa.nil ⟨[w, near, other, w ++ [97], w.reverse, w2].map dS, rfl, by rw [List.length_map]; unfold LIM; simp only [List.length_cons, List.length_nil]; omega, [w, near, other, w ++ [97], w.reverse, w2].map dS, (fun done e => ∃ q, e = [some (.sh (.scr ns)), some (rZ i), some r9, some (.sh (.lst none [.int S, .int R, .int M])), some (.sh (lkD S R M)), some (rS w), some (rS f), some (rS seen), p, some (rZ at1), some (rS near), some (rS other), q]), rfl, ⟨_, rfl⟩, ?_, ?_⟩))))))))))
      · rintro done3 d3 rest3 e he ⟨q, rfl⟩
        obtain ⟨wd, hwd, rfl⟩ : ∃ wd, wd ∈ [w, near, other, w ++ [97], w.reverse, w2] ∧ d3 = dS wd := by
          have : d3 ∈ [w, near, other, w ++ [97], w.reverse, w2].map dS := by rw [he]; simp
          obtain ⟨wd, h1, h2⟩ := List.mem_map.mp this
          exact ⟨wd, h1, h2.symm⟩
        have hwd2 : Lw wd ∧ 1 ≤ wd.length ∧ wd.length ≤ 40 := by
          simp only [List.mem_cons, List.not_mem_nil, or_false] at hwd
          rcases hwd with rfl | rfl | rfl | rfl | rfl | rfl
          · exact ⟨f4, hlen, by omega⟩
          · exact ⟨near1, by omega, by omega⟩
          · exact ⟨other1, by omega, by omega⟩
          · refine ⟨fun c hc => ?_, by rw [List.length_append, List.length_singleton]; omega, by rw [List.length_append, List.length_singleton]; omega⟩
            rcases List.mem_append.mp hc with z | z
            · exact f4 c z
            · rw [List.mem_singleton.mp z]; decide
          · exact ⟨fun c hc => f4 c (List.mem_reverse.mp hc), by rw [List.length_reverse]; omega, by rw [List.length_reverse]; omega⟩
          · exact ⟨w24, List.length_pos_iff.mpr w22, by omega⟩
        obtain ⟨z1, z2, z3⟩ := hwd2
        have z4 := word_wordy z1 z2 z3
        have z5 : wd.length ≤ 5000 := by omega
        refine ⟨_, rfl, Wp.at_env (e := [_, _, _, _, _, _, _, _, _, _, _, _, some (rS wd)]) ?_ rfl⟩
        have hde := due_eq (s := S) (r := R) (m := M) S1 q2 z1 (by omega) (by omega)
        apply Wp.if1
        · array_get_dec
        · intro ht
          rw [hde] at ht
          simp at ht
        · intro _
          exact Wp.nil ⟨_, rfl⟩
      · rintro e ⟨q, rfl⟩
        have z4 := word_wordy f4 hlen (by omega)
        have fl : f.length ≤ 5000 := by omega
        apply Wp.if1
        · array_get_dec
        · intro ht
          exfalso
          simp only [Bool.and_eq_true, Bool.not_eq_true', decide_eq_false_iff_not] at ht
          obtain ⟨t1, t2⟩ := ht
          rw [hoistV_eq S1] at t1
          refine t2 ?_
          rw [← due_eq (m := M) S1 q2 f4 (by omega) (by omega)]
          unfold dueV
          rw [decide_eq_true hsl, Bool.true_and]
          exact @decide_eq_true _ (Classical.propDecidable _) ⟨f, g2, ⟨g3, fun i x hx => ⟨g4 x (List.mem_of_getElem? hx), q1.2 i x hx⟩⟩, t1⟩
        · intro _
          exact Wp.nil ⟨_, _, _, _, _, _, _, _, _, _, _, _, rfl⟩
  · rintro e ⟨a, b, c, d, f, g, h, u, v, x, y, z, rfl⟩
    have t1 : wordy ((ABC ++ FIG.take (1 : Int).toNat) ++ [63]) 3 [97, 63, 63] = true := by decide +kernel
    have t2 : wordy ABC 40 [97, 98, 97] = true := by decide +kernel
    have t3 : wordy ABC 40 [97, 98, 98] = true := by decide +kernel
    refine Wp.retV (v := rB (decide (couldV 1 1 [97, 63, 63] [97, 98, 97] = true) && decide (couldV 1 1 [97, 63, 63] [97, 98, 98] = false))) ?_ ?_
    · array_get_dec
    · rw [end_t, end_f]
      exact ⟨_, rfl⟩
theorem specs (n : Nat) (ns : List Int) : Wp (PT (tab.map (·.1)) (n + 5)) lawB NoX [some (.sh (.scr ns)), none, none, none, none, none, none, none, none, none, none, none, none] (Yes (.bl true)) := by
  have t : ∀ n, STake (PT (tab.map (·.1)) (n + 1)) := fun n => STake.of f_x_law_take (by decide) (by decide)
  have m : ∀ n, PMadeS (PT (tab.map (·.1)) (n + 1)) := fun n => PMadeS.of f_is_made_of
  have rep : ∀ n, PRep (PT (tab.map (·.1)) (n + 2)) := fun n => PRep.of f_repeaters_of (PLr.of f_Locker_repeaters)
  exact law_wp (SCell.of f_x_law_cell) (SBox.of f_x_law_box) (t _) (SNum.of f_x_law_numbers (t _)) (SLWord.of f_x_law_word (t _)) (SLaidR.of f_x_law_laid (t _)) (PLi.of f_Locker_x__init__ (PIntI.of f_is_integer))
    (PCould.of f_could_be (PNeed.of f_need_locker) (PNeedSeen.of f_need_seen (m _) (rep _) (PLm.of f_Locker_most)) (PWord.of f_is_word (m _)) (PFits.of f_fits) (PHidden.of f_hidden_fit (rep _) (PLs.of f_Locker_sets)))
    (PDue.of f_x_law_due (PLShown.of f_x_law_shown) (PIsHoist.of f_x_law_is_hoist)) (PIsHoist.of f_x_law_is_hoist)
theorem law_true (ns : List Int) (h : ns.length ≤ 63) : ∃ outs, dG (PT (tab.map (·.1)) 5) lawT.N.length 1 lawT.io lawT.B [.sh (.scr ns)] = .ok (.sh (.bl true), outs) := by
  have w := specs 0 ns
  have key : OkM (dG (PT (tab.map (·.1)) 5) lawT.N.length 1 lawT.io lawT.B [.sh (.scr ns)]) (fun c => ∃ outs, c = (.sh (.bl true), outs)) NoX := by
    refine dG_ok rfl (Wp.imp w fun o q => ?_)
    obtain ⟨e, rfl⟩ := q
    exact ⟨_, rfl⟩
  obtain ⟨c, e, outs, rfl⟩ := okM_ex key
  exact ⟨outs, e⟩
end K18
set_option Elab.async false
set_option linter.all false
set_option maxRecDepth 100000
set_option maxHeartbeats 0
open PySem PySem.W PySem.Calls PyProof.Rows
theorem PySem.Challenge.cw_flaghoists_k18_what_it_can_be_holds : PySem.Challenge.rw_flaghoists_k18_what_it_can_be.Holds := by
  w_on; o_law
  refine HandSHeadRun.head_any (r := OpenLaw.row PySem.Challenge.rw_flaghoists_k18_what_it_can_be) (q := K18.qv) (H := K18.hk) (ob := K18.ob) (M := 3000) (loose := K18.loose) (d := HandSHeadRun.topDef (OpenLaw.row PySem.Challenge.rw_flaghoists_k18_what_it_can_be).prog 36) (kwd := []) K18.ob_eq
    (by kernel_rfl) (fun s => by kernel_rfl) K18.run (by kernel_rfl) (by kernel_rfl) (by kernel_rfl) (by rfl) (by first | assumption | decide +kernel) (by decide +kernel) ⟨rfl, rfl, rfl, rfl, rfl, by decide +kernel⟩ ?hw ?hc
  case hw => w_witness2
  case hc =>
    refine FH.walk_G (l := PySem.Challenge.rw_flaghoists_k18_what_it_can_be) (n := 63) (k := 2 * 5 + 3) (x := "script") rfl (by decide) (by kernel_rfl) (by decide) ?F
    intro w mg fa h Y G hmg0
    obtain ⟨K, KX, c⟩ := Y
    have hmg : mg ("law" : PySem.Str) = some (.ref fa) := by
      have e : (HandSHeadRun.topDef (OpenLaw.row PySem.Challenge.rw_flaghoists_k18_what_it_can_be).prog 36).name = ("law" : PySem.Str) := by kernel_rfl
      rw [← e]
      exact hmg0
    obtain ⟨fd, hb, hF⟩ := FH.law_facts (P := (PySem.Challenge.rw_flaghoists_k18_what_it_can_be).prog) (w := w) KX G c (by decide +kernel) K18.fits hmg (d := K18.lawT) (st := K18.top 36) (x := "script") (by simp [K18.tab]) rfl (by decide +kernel) rfl rfl 5
    refine ⟨K, fd, _, KX, hb, fun H a ns hl oH sH => ?_, fun base _ _ => hF base⟩
    exact FH.spD_law rfl oH sH (K18.law_true ns hl)
