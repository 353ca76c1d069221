import PyProof.Rows.All
import Wide.All
import OpenK.AllK
import Wide.FinOn
import HandS.ForMost
import HandS.ForExc
import HandS.Walk
import HandS.Wide
import HandS.CallSlots
import HandS.TupAny
import HandS.Deep
import HandS.Codes
import HandS.TupLe
import HandS.Small
import HandS.More
import HandS.SetFor
import HandS.SortInts
import HandS.StrMore
import HandS.Style
import HandS.TupLen
import HandS.WordsDict
import HandS.IsInst
import HandS.Zip
import PySem.Challenge.RW_drawnlayers_k36_kept_and_cost
set_option Elab.async false
set_option linter.all false
set_option maxRecDepth 100000
set_option maxHeartbeats 4000000
set_option maxRecDepth 100000
set_option maxHeartbeats 1000000
namespace VE
open PySem PySem.Spec L2

/-- plain data: a value with all that hangs on it -/
inductive D where
  | non | bl (b : Bool) | int (i : Int) | str (x : Str)
  | tup (xs : List D) | ktup (xs : List D) | lst (xs : List D) | fz (xs : List D) | dk (kvs : List (Key × D)) | dt (kvs : List (List Key × D))
  | obj (C : Addr) (fs : List (Str × D)) | ref (a : Addr) | ty (n : String)

/-- a table of the written part -/
def WDict (K : PySem.W.Frag) (w : World) (a : Addr) (kvs : List (Key × V)) : Prop :=
  ∃ es n, K.lookup a = some ⟨.type "dict", none, .dict es n, #[]⟩ ∧ PySem.W.KeysLit w.params es.toList ∧ (a == sysModules) = false ∧
    (∀ k ∈ kvs, ∃ z, k.1 = Sum.inr z) ∧ ∀ z, ∃ o, PySem.W.nsIn K a z = some o ∧ RelO (valV kvs (Sum.inr z)) o

mutual
inductive Den (K : PySem.W.Frag) (w : World) (H : Hp) : V → D → Prop
  | non : Den K w H .non .non
  | bl (b : Bool) : Den K w H (.bl b) (.bl b)
  | int (i : Int) : Den K w H (.int i) (.int i)
  | str (x : Str) : Den K w H (.str x) (.str x)
  | tup {a : Addr} {vs : List V} {xs : List D} : H a = some (.tup vs) → Dens K w H vs xs → Den K w H (.ref a) (.tup xs)
  | ktup {a : Addr} {vs : List V} {xs : List D} : SqT K H a vs → Dens K w H vs xs → Den K w H (.ref a) (.ktup xs)
  | lst {a : Addr} {vs : List V} {xs : List D} : H a = some (.lst vs) → Dens K w H vs xs → Den K w H (.ref a) (.lst xs)
  | fz {a : Addr} {vs : List V} {xs : List D} : SqL K H a vs → Dens K w H vs xs → Den K w H (.ref a) (.fz xs)
  | dk {a : Addr} {kvs : List (Key × V)} {xs : List (Key × D)} : Rd H a (.dK kvs) → DenA K w H kvs xs → Den K w H (.ref a) (.dk xs)
  | wd {a : Addr} {kvs : List (Key × V)} {xs : List (Key × D)} : WDict K w a kvs → DenA K w H kvs xs → Den K w H (.ref a) (.dk xs)
  | dt {a : Addr} {kvs : List (List Key × V)} {xs : List (List Key × D)} : Rd H a (.dT kvs) → DenA K w H kvs xs → Den K w H (.ref a) (.dt xs)
  | obj {a C dx : Addr} {fs : List (Str × V)} {xs : List (Str × D)} : H a = some (.ins C dx fs) → H dx = some (.own a) → DenA K w H fs xs → Den K w H (.ref a) (.obj C xs)
  | ref (a : Addr) : Den K w H (.ref a) (.ref a)
  | ty (n : String) : Den K w H (.ty n) (.ty n)
inductive Dens (K : PySem.W.Frag) (w : World) (H : Hp) : List V → List D → Prop
  | nil : Dens K w H [] []
  | cons {v : V} {x : D} {vs : List V} {xs : List D} : Den K w H v x → Dens K w H vs xs → Dens K w H (v :: vs) (x :: xs)
inductive DenA (K : PySem.W.Frag) (w : World) (H : Hp) : {κ : Type} → List (κ × V) → List (κ × D) → Prop
  | nil {κ : Type} : DenA K w H (κ := κ) [] []
  | cons {κ : Type} {k : κ} {v : V} {x : D} {vs : List (κ × V)} {xs : List (κ × D)} : Den K w H v x → DenA K w H vs xs → DenA K w H ((k, v) :: vs) ((k, x) :: xs)
end

theorem Rd.mono {H H' : Hp} {a : Addr} {o : HO} (s : Same H H') (r : Rd H a o) : Rd H' a o := by
  rcases r with r | ⟨b, r⟩
  · exact .inl (s _ _ r)
  · exact .inr ⟨b, s _ _ r⟩
theorem SqL.mono {K : PySem.W.Frag} {H H' : Hp} {a : Addr} {xs : List V} (s : Same H H') (r : SqL K H a xs) : SqL K H' a xs := r.imp (Rd.mono s) id
theorem SqT.mono {K : PySem.W.Frag} {H H' : Hp} {a : Addr} {xs : List V} (s : Same H H') (r : SqT K H a xs) : SqT K H' a xs := r.imp (Rd.mono s) id

section
variable {K : PySem.W.Frag} {w : World} {H H' : Hp}
mutual
theorem Den.mono (s : Same H H') : ∀ {v : V} {x : D}, Den K w H v x → Den K w H' v x
  | _, _, .non => .non
  | _, _, .bl b => .bl b
  | _, _, .int i => .int i
  | _, _, .str x => .str x
  | _, _, .tup h r => .tup (s _ _ h) (r.mono s)
  | _, _, .ktup h r => .ktup (SqT.mono s h) (r.mono s)
  | _, _, .lst h r => .lst (s _ _ h) (r.mono s)
  | _, _, .fz h r => .fz (SqL.mono s h) (r.mono s)
  | _, _, .dk h r => .dk (Rd.mono s h) (r.mono s)
  | _, _, .wd h r => .wd h (r.mono s)
  | _, _, .dt h r => .dt (Rd.mono s h) (r.mono s)
  | _, _, .obj h1 h2 r => .obj (s _ _ h1) (s _ _ h2) (r.mono s)
  | _, _, .ref a => .ref a
  | _, _, .ty n => .ty n
theorem Dens.mono (s : Same H H') : ∀ {vs : List V} {xs : List D}, Dens K w H vs xs → Dens K w H' vs xs
  | _, _, .nil => .nil
  | _, _, .cons h r => .cons (h.mono s) (r.mono s)
theorem DenA.mono (s : Same H H') : ∀ {κ : Type} {vs : List (κ × V)} {xs : List (κ × D)}, DenA K w H vs xs → DenA K w H' vs xs
  | _, _, _, .nil => .nil
  | _, _, _, .cons h r => .cons (h.mono s) (r.mono s)
end
end
end VE

set_option maxRecDepth 100000
set_option maxHeartbeats 1000000
namespace VE
open PySem PySem.Spec L2

/-- what a root holds: plain data (frozen), a list, a dict, an instance, a list of owned things -/
inductive O where
  | d (x : D) | lst (xs : List D) | dk (kvs : List (Key × D)) | dt (kvs : List (List Key × D)) | ins (C : Addr) (fs : List (Str × O)) | nst (xs : List O)
/-- a value: plain data, or the root of this number -/
inductive W where
  | d (x : D) | r (n : Nat)
abbrev Sl := List (Option W)

mutual
inductive Own (K : PySem.W.Frag) (w : World) (Hs H : Hp) : V → O → List Addr → Prop
  | d {v : V} {x : D} : Den K w Hs v x → Own K w Hs H v (.d x) []
  | lst {a : Addr} {vs : List V} {xs : List D} : H a = some (.lst vs) → Dens K w Hs vs xs → Own K w Hs H (.ref a) (.lst xs) [a]
  | dk {a : Addr} {vs : List (Key × V)} {xs : List (Key × D)} : H a = some (.dK vs) → DenA K w Hs vs xs → Own K w Hs H (.ref a) (.dk xs) [a]
  | dt {a : Addr} {vs : List (List Key × V)} {xs : List (List Key × D)} : H a = some (.dT vs) → DenA K w Hs vs xs → Own K w Hs H (.ref a) (.dt xs) [a]
  | ins {a C dx : Addr} {fs : List (Str × V)} {xs : List (Str × O)} {A : List Addr} : H a = some (.ins C dx fs) → H dx = some (.own a) → OwnF K w Hs H fs xs A → Own K w Hs H (.ref a) (.ins C xs) (a :: dx :: A)
  | nst {a : Addr} {vs : List V} {xs : List O} {A : List Addr} : H a = some (.lst vs) → Owns K w Hs H vs xs A → Own K w Hs H (.ref a) (.nst xs) (a :: A)
inductive Owns (K : PySem.W.Frag) (w : World) (Hs H : Hp) : List V → List O → List Addr → Prop
  | nil : Owns K w Hs H [] [] []
  | cons {v : V} {x : O} {A B : List Addr} {vs : List V} {xs : List O} : Own K w Hs H v x A → Owns K w Hs H vs xs B → Owns K w Hs H (v :: vs) (x :: xs) (A ++ B)
inductive OwnF (K : PySem.W.Frag) (w : World) (Hs H : Hp) : List (Str × V) → List (Str × O) → List Addr → Prop
  | nil : OwnF K w Hs H [] [] []
  | cons {k : Str} {v : V} {x : O} {A B : List Addr} {vs : List (Str × V)} {xs : List (Str × O)} : Own K w Hs H v x A → OwnF K w Hs H vs xs B → OwnF K w Hs H ((k, v) :: vs) ((k, x) :: xs) (A ++ B)
end

mutual
def O.toD : O → D
  | .d x => x
  | .lst xs => .lst xs
  | .dk kvs => .dk kvs
  | .dt kvs => .dt kvs
  | .ins C fs => .obj C (O.toDF fs)
  | .nst xs => .lst (O.toDs xs)
def O.toDs : List O → List D
  | [] => []
  | x :: xs => x.toD :: O.toDs xs
def O.toDF : List (Str × O) → List (Str × D)
  | [] => []
  | (k, x) :: xs => (k, x.toD) :: O.toDF xs
end

section
variable {K : PySem.W.Frag} {w : World} {Hs Hs' H H' : Hp}
mutual
/-- what is owned stands, where its own objects stand -/
theorem Own.mono (s : Same Hs Hs') : ∀ {v : V} {o : O} {A : List Addr}, Own K w Hs H v o A → (∀ a ∈ A, H' a = H a) → Own K w Hs' H' v o A
  | _, _, _, .d h, _ => .d (h.mono s)
  | _, _, _, .lst h r, e => .lst ((e _ (by simp)).trans h) (r.mono s)
  | _, _, _, .dk h r, e => .dk ((e _ (by simp)).trans h) (r.mono s)
  | _, _, _, .dt h r, e => .dt ((e _ (by simp)).trans h) (r.mono s)
  | _, _, _, .ins h1 h2 r, e => .ins ((e _ (by simp)).trans h1) ((e _ (by simp)).trans h2) (r.mono s fun a ha => e a (by simp [ha]))
  | _, _, _, .nst h r, e => .nst ((e _ (by simp)).trans h) (r.mono s fun a ha => e a (by simp [ha]))
theorem Owns.mono (s : Same Hs Hs') : ∀ {v : List V} {o : List O} {A : List Addr}, Owns K w Hs H v o A → (∀ a ∈ A, H' a = H a) → Owns K w Hs' H' v o A
  | _, _, _, .nil, _ => .nil
  | _, _, _, .cons h r, e => .cons (h.mono s fun a ha => e a (by simp [ha])) (r.mono s fun a ha => e a (by simp [ha]))
theorem OwnF.mono (s : Same Hs Hs') : ∀ {v : List (Str × V)} {o : List (Str × O)} {A : List Addr}, OwnF K w Hs H v o A → (∀ a ∈ A, H' a = H a) → OwnF K w Hs' H' v o A
  | _, _, _, .nil, _ => .nil
  | _, _, _, .cons h r, e => .cons (h.mono s fun a ha => e a (by simp [ha])) (r.mono s fun a ha => e a (by simp [ha]))
end
mutual
/-- what is owned, read as plain data in a heap that has it -/
theorem Own.den (s : Same Hs H') : ∀ {v : V} {o : O} {A : List Addr}, Own K w Hs H v o A → (∀ a ∈ A, H' a = H a) → Den K w H' v o.toD
  | _, _, _, .d h, _ => by rw [O.toD]; exact h.mono s
  | _, _, _, .lst h r, e => by rw [O.toD]; exact .lst ((e _ (by simp)).trans h) (r.mono s)
  | _, _, _, .dk h r, e => by rw [O.toD]; exact .dk (.inl ((e _ (by simp)).trans h)) (r.mono s)
  | _, _, _, .dt h r, e => by rw [O.toD]; exact .dt (.inl ((e _ (by simp)).trans h)) (r.mono s)
  | _, _, _, .ins h1 h2 r, e => by rw [O.toD]; exact .obj ((e _ (by simp)).trans h1) ((e _ (by simp)).trans h2) (r.den s fun a ha => e a (by simp [ha]))
  | _, _, _, .nst h r, e => by rw [O.toD]; exact .lst ((e _ (by simp)).trans h) (r.den s fun a ha => e a (by simp [ha]))
theorem Owns.den (s : Same Hs H') : ∀ {v : List V} {o : List O} {A : List Addr}, Owns K w Hs H v o A → (∀ a ∈ A, H' a = H a) → Dens K w H' v (O.toDs o)
  | _, _, _, .nil, _ => by rw [O.toDs]; exact .nil
  | _, _, _, .cons h r, e => by rw [O.toDs]; exact .cons (h.den s fun a ha => e a (by simp [ha])) (r.den s fun a ha => e a (by simp [ha]))
theorem OwnF.den (s : Same Hs H') : ∀ {v : List (Str × V)} {o : List (Str × O)} {A : List Addr}, OwnF K w Hs H v o A → (∀ a ∈ A, H' a = H a) → DenA K w H' v (O.toDF o)
  | _, _, _, .nil, _ => by rw [O.toDF]; exact .nil
  | _, _, _, .cons h r, e => by rw [O.toDF]; exact .cons (h.den s fun a ha => e a (by simp [ha])) (r.den s fun a ha => e a (by simp [ha]))
end
mutual
/-- its objects stand in the heap -/
theorem Own.there : ∀ {v : V} {o : O} {A : List Addr}, Own K w Hs H v o A → ∀ a ∈ A, H a ≠ none
  | _, _, _, .d _, _, ha => by cases ha
  | _, _, _, .lst h _, _, ha => by rw [List.mem_singleton.mp ha, h]; exact fun z => nomatch z
  | _, _, _, .dk h _, _, ha => by rw [List.mem_singleton.mp ha, h]; exact fun z => nomatch z
  | _, _, _, .dt h _, _, ha => by rw [List.mem_singleton.mp ha, h]; exact fun z => nomatch z
  | _, _, _, .ins h1 h2 r, _, ha => by
    rcases List.mem_cons.mp ha with e | ha
    · rw [e, h1]; exact fun z => nomatch z
    rcases List.mem_cons.mp ha with e | ha
    · rw [e, h2]; exact fun z => nomatch z
    exact r.there _ ha
  | _, _, _, .nst h r, _, ha => by
    rcases List.mem_cons.mp ha with e | ha
    · rw [e, h]; exact fun z => nomatch z
    exact r.there _ ha
theorem Owns.there : ∀ {v : List V} {o : List O} {A : List Addr}, Owns K w Hs H v o A → ∀ a ∈ A, H a ≠ none
  | _, _, _, .nil, _, ha => by cases ha
  | _, _, _, .cons h r, _, ha => (List.mem_append.mp ha).elim (h.there _) (r.there _)
theorem OwnF.there : ∀ {v : List (Str × V)} {o : List (Str × O)} {A : List Addr}, OwnF K w Hs H v o A → ∀ a ∈ A, H a ≠ none
  | _, _, _, .nil, _, ha => by cases ha
  | _, _, _, .cons h r, _, ha => (List.mem_append.mp ha).elim (h.there _) (r.there _)
end
end

/-- where the def came in: its heap, what was plain then, what it may change -/
structure Bnd where
  H0 : Hp
  P : Hp
  M : List Addr
structure Rel (K : PySem.W.Frag) (w : World) (B : Bnd) (Hs : Hp) (ρ : List Addr) (rt : List O) (H : Hp) : Prop where
  same : Same Hs H
  len : ρ.length = rt.length
  own : ∃ F : Nat → List Addr, ∀ i o, rt[i]? = some o → ∃ a, ρ[i]? = some a ∧ Own K w Hs H (.ref a) o (F i) ∧ (F i).Nodup ∧ (∀ b ∈ F i, Hs b = none ∧ (b ∈ B.M ∨ B.H0 b = none)) ∧ ∀ j, j < rt.length → j ≠ i → ∀ b ∈ F i, b ∉ F j
  frame : ∀ b o, B.H0 b = some o → b ∈ B.M ∨ H b = some o
  there : ∀ b, B.H0 b ≠ none → H b ≠ none
  pers : ∀ b, Hs b ≠ none → B.P b ≠ none ∨ B.H0 b = none ∨ b ∈ B.M
def WD (K : PySem.W.Frag) (w : World) (Hs : Hp) (ρ : List Addr) (v : V) : W → Prop
  | .d x => Den K w Hs v x
  | .r n => ∃ a, ρ[n]? = some a ∧ v = .ref a
structure SlD (K : PySem.W.Frag) (w : World) (Hs : Hp) (ρ : List Addr) (σ : St) (sl : Sl) : Prop where
  len : σ.length = sl.length
  at_ : ∀ (i : Nat) (x : W), sl[i]? = some (some x) → ∃ v, σ[i]? = some (some v) ∧ WD K w Hs ρ v x

/-- further on: more is plain, more roots -/
structure Ext (Hs : Hp) (ρ : List Addr) (Hs' : Hp) (ρ' : List Addr) : Prop where
  same : Same Hs Hs'
  pre : ∃ t, ρ' = ρ ++ t
section
variable {K : PySem.W.Frag} {w : World} {B : Bnd} {Hs Hs' Hs2 H H' : Hp} {ρ ρ' ρ2 : List Addr} {rt : List O} {σ : St} {sl : Sl}
theorem Same.rfl' : Same H H := fun _ _ h => h
theorem Same.trans' {H1 H2 H3 : Hp} (a : Same H1 H2) (b : Same H2 H3) : Same H1 H3 := fun x o h => b x o (a x o h)
theorem Ext.refl : Ext Hs ρ Hs ρ := ⟨fun _ _ h => h, [], by simp⟩
theorem Ext.trans (a : Ext Hs ρ Hs' ρ') (b : Ext Hs' ρ' Hs2 ρ2) : Ext Hs ρ Hs2 ρ2 := by
  obtain ⟨s, t, e⟩ := a
  obtain ⟨s', t', e'⟩ := b
  exact ⟨fun x o h => s' x o (s x o h), t ++ t', by rw [e', e, List.append_assoc]⟩
theorem Ext.of_same (a : Same Hs Hs') : Ext Hs ρ Hs' ρ := ⟨a, [], by simp⟩
theorem Ext.at (a : Ext Hs ρ Hs' ρ') {n : Nat} {p : Addr} (h : ρ[n]? = some p) : ρ'[n]? = some p := by
  obtain ⟨_, t, e⟩ := a
  rw [e, List.getElem?_append_left (List.getElem?_eq_some_iff.mp h).1]
  exact h
theorem WD.mono (a : Ext Hs ρ Hs' ρ') {v : V} {x : W} (h : WD K w Hs ρ v x) : WD K w Hs' ρ' v x := by
  cases x with
  | d x => exact Den.mono a.same (show Den K w Hs v x from h)
  | r n =>
    obtain ⟨p, e, rfl⟩ := h
    exact ⟨p, a.at e, rfl⟩
theorem SlD.mono (a : Ext Hs ρ Hs' ρ') (h : SlD K w Hs ρ σ sl) : SlD K w Hs' ρ' σ sl := ⟨h.len, fun i x e => by
  obtain ⟨v, e1, e2⟩ := h.at_ i x e
  exact ⟨v, e1, e2.mono a⟩⟩
theorem SlD.set (h : SlD K w Hs ρ σ sl) (i : Nat) {v : V} {x : W} (d : WD K w Hs ρ v x) : SlD K w Hs ρ (σ.set i (some v)) (sl.set i (some x)) := by
  refine ⟨by simpa using h.len, fun j y e => ?_⟩
  by_cases hj : i = j
  · subst hj
    by_cases hl : i < sl.length
    · rw [List.getElem?_set_self hl] at e
      cases e
      exact ⟨v, by rw [List.getElem?_set_self (by rw [h.len]; exact hl)], d⟩
    · rw [List.getElem?_eq_none (by simp; omega)] at e
      cases e
  · rw [List.getElem?_set_ne hj] at e
    obtain ⟨u, e1, e2⟩ := h.at_ j y e
    exact ⟨u, by rw [List.getElem?_set_ne hj]; exact e1, e2⟩

/-- a root, as it stands -/
theorem Rel.root (R : Rel K w B Hs ρ rt H) {n : Nat} {o : O} {v : V} (e : rt[n]? = some o) (d : WD K w Hs ρ v (.r n)) :
    ∃ F a, v = .ref a ∧ ρ[n]? = some a ∧ Own K w Hs H (.ref a) o F ∧ F.Nodup ∧ ∀ b ∈ F, Hs b = none ∧ (b ∈ B.M ∨ B.H0 b = none) := by
  obtain ⟨F, hF⟩ := R.own
  obtain ⟨a, e1, h1, h2, h3, _⟩ := hF n o e
  obtain ⟨p, e2, rfl⟩ := d
  rw [e1] at e2
  cases e2
  exact ⟨F n, a, rfl, e1, h1, h2, h3⟩
end
end VE

set_option maxRecDepth 100000
set_option maxHeartbeats 1000000
namespace VE
open PySem PySem.Spec L2
section
variable {K : PySem.W.Frag} {w : World} {B : Bnd} {Hs Hs' Hs2 H H' : Hp} {ρ ρ' ρ2 : List Addr} {rt : List O} {σ : L2.St} {sl : Sl}

theorem same_upd {H : Hp} {p : Addr} {o : HO} (h : H p = none) : Same H (upd H p o) := fun b u e => by
  rw [upd_ne (ne_of_none e h)]
  exact e
theorem Rel.fresh (R : Rel K w B Hs ρ rt H) {p : Addr} (h : H p = none) : Hs p = none ∧ B.H0 p = none := by
  refine ⟨?_, ?_⟩
  · cases e : Hs p with
    | none => rfl
    | some o => rw [R.same _ _ e] at h; cases h
  · cases e : B.H0 p with
    | none => rfl
    | some o => exact absurd h (R.there p (by rw [e]; exact fun z => nomatch z))
/-- a new object that stays as it is -/
theorem Rel.alloc (R : Rel K w B Hs ρ rt H) {p : Addr} {o : HO} (h : H p = none) : Rel K w B (upd Hs p o) ρ rt (upd H p o) := by
  obtain ⟨f1, f2⟩ := R.fresh h
  obtain ⟨F, hF⟩ := R.own
  refine ⟨fun b u e => ?_, R.len, ⟨F, fun i x e => ?_⟩, fun b u e => ?_, fun b e => ?_, fun b e => ?_⟩
  · by_cases hb : b = p
    · subst hb
      rw [upd_same] at e ⊢
      exact e
    · rw [upd_ne hb] at e ⊢
      exact R.same _ _ e
  · obtain ⟨a, e1, h1, h2, h3, h4⟩ := hF i x e
    have hne : ∀ b ∈ F i, b ≠ p := fun b hb z => h1.there b hb (by rw [z]; exact h)
    refine ⟨a, e1, h1.mono (same_upd f1) fun b hb => upd_ne (hne b hb), h2, fun b hb => ?_, h4⟩
    rw [upd_ne (hne b hb)]
    exact h3 b hb
  · rcases R.frame b u e with z | z
    · exact .inl z
    · exact .inr (by rw [upd_ne (ne_of_none z h)]; exact z)
  · by_cases hb : b = p
    · subst hb
      rw [upd_same]
      exact fun z => nomatch z
    · rw [upd_ne hb]
      exact R.there b e
  · by_cases hb : b = p
    · subst hb
      exact .inr (.inl f2)
    · rw [upd_ne hb] at e
      exact R.pers b e
def ov (F : Nat → List Addr) (n : Nat) (A : List Addr) : Nat → List Addr := fun i => if i = n then A else F i
theorem ov_same {F : Nat → List Addr} {n : Nat} {A : List Addr} : ov F n A n = A := if_pos rfl
theorem ov_ne {F : Nat → List Addr} {n i : Nat} {A : List Addr} (h : i ≠ n) : ov F n A i = F i := if_neg h
/-- a new root -/
theorem Rel.push (R : Rel K w B Hs ρ rt H) {p : Addr} {o : O} {u : HO} (h : H p = none) (ho : Own K w Hs (upd H p u) (.ref p) o [p]) : Rel K w B Hs (ρ ++ [p]) (rt ++ [o]) (upd H p u) := by
  obtain ⟨f1, f2⟩ := R.fresh h
  obtain ⟨F, hF⟩ := R.own
  refine ⟨fun b u e => ?_, by simp [R.len], ⟨ov F rt.length [p], fun i x e => ?_⟩, fun b u e => ?_, fun b e => ?_, R.pers⟩
  · rw [upd_ne (fun z => by rw [z, f1] at e; cases e)]
    exact R.same _ _ e
  · by_cases hi : i < rt.length
    · rw [List.getElem?_append_left hi] at e
      obtain ⟨a, e1, h1, h2, h3, h4⟩ := hF i x e
      have hne : ∀ b ∈ F i, b ≠ p := fun b hb z => h1.there b hb (by rw [z]; exact h)
      rw [ov_ne (show i ≠ rt.length by omega)]
      refine ⟨a, by rw [List.getElem?_append_left (by rw [R.len]; exact hi)]; exact e1, h1.mono Same.rfl' fun b hb => upd_ne (hne b hb), h2, h3, fun j hj hij b hb => ?_⟩
      by_cases hjn : j = rt.length
      · rw [hjn, ov_same]
        intro z
        exact hne b hb (List.mem_singleton.mp z)
      · rw [ov_ne hjn]
        refine h4 j ?_ hij b hb
        simp only [List.length_append, List.length_singleton] at hj
        omega
    · have hi2 : i = rt.length := by
        have := (List.getElem?_eq_some_iff.mp e).1
        simp only [List.length_append, List.length_singleton] at this
        omega
      subst hi2
      rw [List.getElem?_append_right (Nat.le_refl _), Nat.sub_self] at e
      cases e
      rw [ov_same]
      refine ⟨p, ?_, ho, by simp, fun b hb => ?_, fun j hj hij b hb => ?_⟩
      · rw [← R.len, List.getElem?_append_right (Nat.le_refl _), Nat.sub_self]
        rfl
      · rw [List.mem_singleton.mp hb]
        exact ⟨f1, .inr f2⟩
      · rw [ov_ne hij, List.mem_singleton.mp hb]
        intro z
        simp only [List.length_append, List.length_singleton] at hj
        obtain ⟨o2, ho2⟩ : ∃ o2, rt[j]? = some o2 := ⟨rt[j]'(by omega), by simp [show j < rt.length by omega]⟩
        obtain ⟨_, _, h1, _⟩ := hF j o2 ho2
        exact h1.there p z h
  · rcases R.frame b u e with z | z
    · exact .inl z
    · exact .inr (by rw [upd_ne (ne_of_none z h)]; exact z)
  · by_cases hb : b = p
    · subst hb
      rw [upd_same]
      exact fun z => nomatch z
    · rw [upd_ne hb]
      exact R.there b e
theorem Ext.push {p : Addr} : Ext Hs ρ Hs (ρ ++ [p]) := ⟨fun _ _ h => h, [p], rfl⟩

/-- a root's one object is changed -/
theorem Rel.write (R : Rel K w B Hs ρ rt H) {n : Nat} {a : Addr} {o0 o : O} {u : HO} (ha : ρ[n]? = some a) (ho0 : rt[n]? = some o0) (mem : ∀ F, Own K w Hs H (.ref a) o0 F → a ∈ F)
    (old : ∀ F, Own K w Hs H (.ref a) o0 F → F.Nodup → Own K w Hs (upd H a u) (.ref a) o F) : Rel K w B Hs ρ (rt.set n o) (upd H a u) := by
  obtain ⟨F, hF⟩ := R.own
  obtain ⟨a', ea, g1, g2, g3, g4⟩ := hF n o0 ho0
  rw [ha] at ea
  cases ea
  have hn : n < rt.length := (List.getElem?_eq_some_iff.mp ho0).1
  have haF : a ∈ F n := mem _ g1
  obtain ⟨p1, p2⟩ := g3 a haF
  have hHa : H a ≠ none := g1.there a haF
  refine ⟨fun b v e => ?_, by simp [R.len], ⟨F, fun i x e => ?_⟩, fun b v e => ?_, fun b e => ?_, R.pers⟩
  · rw [upd_ne (fun z => by rw [z, p1] at e; cases e)]
    exact R.same _ _ e
  · by_cases hi : n = i
    · subst hi
      rw [List.getElem?_set_self hn] at e
      cases e
      exact ⟨a, ha, old _ g1 g2, g2, g3, fun j hj hij => g4 j (by simpa using hj) hij⟩
    · rw [List.getElem?_set_ne hi] at e
      obtain ⟨c, e1, h1, h2, h3, h4⟩ := hF i x e
      have hne : ∀ b ∈ F i, b ≠ a := fun b hb z => h4 n hn hi b hb (by rw [z]; exact haF)
      exact ⟨c, e1, h1.mono Same.rfl' fun b hb => upd_ne (hne b hb), h2, h3, fun j hj hij => h4 j (by simpa using hj) hij⟩
  · by_cases hb : b = a
    · subst hb
      rcases p2 with z | z
      · exact .inl z
      · rw [z] at e; cases e
    · rw [upd_ne hb]
      exact R.frame b v e
  · by_cases hb : b = a
    · subst hb
      rw [upd_same]
      exact fun z => nomatch z
    · rw [upd_ne hb]
      exact R.there b e

/-- a root becomes plain -/
theorem Rel.freeze (R : Rel K w B Hs ρ rt H) {n : Nat} {a : Addr} {o : O} (ha : ρ[n]? = some a) (ho : rt[n]? = some o) :
    ∃ Hs', Same Hs Hs' ∧ Den K w Hs' (.ref a) o.toD ∧ Rel K w B Hs' ρ (rt.set n (.d o.toD)) H := by
  obtain ⟨F, hF⟩ := R.own
  obtain ⟨a', ea, g1, g2, g3, g4⟩ := hF n o ho
  rw [ha] at ea
  cases ea
  have hn : n < rt.length := (List.getElem?_eq_some_iff.mp ho).1
  have s1 : Same Hs fun b => if b ∈ F n then H b else Hs b := fun b v e => by
    by_cases hb : b ∈ F n
    · rw [(g3 b hb).1] at e; cases e
    · show (if b ∈ F n then H b else Hs b) = some v
      rw [if_neg hb]; exact e
  have dn := g1.den s1 fun b hb => if_pos hb
  refine ⟨fun b => if b ∈ F n then H b else Hs b, s1, dn, ⟨fun b v e => ?_, by simp [R.len], ⟨ov F n [], fun i x e => ?_⟩, R.frame, R.there, fun b e => ?_⟩⟩
  · by_cases hb : b ∈ F n
    · rw [if_pos hb] at e; exact e
    · rw [if_neg hb] at e; exact R.same _ _ e
  · by_cases hi : n = i
    · subst hi
      rw [List.getElem?_set_self hn] at e
      cases e
      rw [ov_same]
      exact ⟨a, ha, .d dn, by simp, (fun _ hb => by cases hb), (fun _ _ _ _ hb => by cases hb)⟩
    · rw [List.getElem?_set_ne hi] at e
      obtain ⟨c, e1, h1, h2, h3, h4⟩ := hF i x e
      rw [ov_ne (Ne.symm hi)]
      refine ⟨c, e1, h1.mono s1 fun b hb => rfl, h2, fun b hb => ?_, fun j hj hij b hb => ?_⟩
      · have q : b ∉ F n := h4 n hn hi b hb
        show (if b ∈ F n then H b else Hs b) = none ∧ _
        rw [if_neg q]
        exact h3 b hb
      · by_cases hj2 : j = n
        · rw [hj2, ov_same]; exact fun z => nomatch z
        · rw [ov_ne hj2]
          exact h4 j (by simpa using hj) hij b hb
  · by_cases hb : b ∈ F n
    · exact .inr ((g3 b hb).2.symm)
    · rw [if_neg hb] at e
      exact R.pers b e
end
end VE

set_option maxRecDepth 100000
set_option maxHeartbeats 1000000
namespace VE
open PySem PySem.Spec L2

/-- an exception's class -/
inductive XC where
  | own (C : Addr) | bi (n : String)
def XC.val : XC → Value
  | .own C => .ref C
  | .bi n => .type n
/-- what an expression comes to: a value and the roots; an exception; or nothing that is told here -/
inductive Ou (α : Type) where
  | ok (a : α) (rt : List O)
  | ex (c : XC) (fs : List (Str × D)) (rt : List O)
  | no
abbrev Ex (α : Type) := Sl → List O → Ou α
def Ou.bind {α β : Type} (o : Ou α) (k : α → List O → Ou β) : Ou β := match o with
  | .ok a rt => k a rt
  | .ex c fs rt => .ex c fs rt
  | .no => .no
/-- what a statement comes to -/
inductive Os where
  | nx (sl : Sl) (rt : List O)
  | re (x : W) (rt : List O)
  | bk (sl : Sl) (rt : List O)
  | ct (sl : Sl) (rt : List O)
  | ex (c : XC) (fs : List (Str × D)) (sl : Sl) (rt : List O)
  | no
abbrev Sx := Sl → List O → Os
def Ou.seq {α : Type} (o : Ou α) (sl : Sl) (k : α → List O → Os) : Os := match o with
  | .ok a rt => k a rt
  | .ex c fs rt => .ex c fs sl rt
  | .no => .no
/-- where nothing may be raised -/
def Ou.noex {α : Type} (o : Ou α) : Ou α := match o with
  | .ok a rt => .ok a rt
  | _ => .no

/-- an exception's own dict -/
def XD (K : PySem.W.Frag) (w : World) (Hs : Hp) : Option Addr → List (Str × D) → Prop
  | none, fs => fs = []
  | some dx, fs => ∃ vs, Hs dx = some (.xd vs) ∧ DenA K w Hs vs fs

section
variable (K : PySem.W.Frag) (w : World) (B : Bnd) (Wx : WX) (Hs : Hp) (ρ : List Addr) (σ : L2.St)
/-- whatever stands for the result, R holds -/
def PEx {α β : Type} (rel : Hp → List Addr → β → α → Prop) (o : Ou α) (Q : β → Hp → Prop) : Prop := match o with
  | .ok x rt => ∀ v Hs' ρ' H', Ext Hs ρ Hs' ρ' → Rel K w B Hs' ρ' rt H' → rel Hs' ρ' v x → Q v H'
  | .ex c fs rt => ∀ d Hs' ρ' H', Ext Hs ρ Hs' ρ' → Rel K w B Hs' ρ' rt H' → XD K w Hs' d fs → Wx c.val d σ H'
  | .no => False
abbrev PE1 (o : Ou W) (Q : VK) : Prop := PEx K w B Wx Hs ρ σ (fun h r => WD K w h r) o Q
abbrev PT1 (o : Ou Bool) (Q : Bool → Hp → Prop) : Prop := PEx K w B Wx Hs ρ σ (fun _ _ a b => a = b) o Q
inductive WDs (K : PySem.W.Frag) (w : World) (Hs : Hp) (ρ : List Addr) : List V → List W → Prop
  | nil : WDs K w Hs ρ [] []
  | cons {v : V} {x : W} {vs : List V} {xs : List W} : WD K w Hs ρ v x → WDs K w Hs ρ vs xs → WDs K w Hs ρ (v :: vs) (x :: xs)
abbrev PA1 (o : Ou (List W)) (Q : List V → Hp → Prop) : Prop := PEx K w B Wx Hs ρ σ (fun h r => WDs K w h r) o Q
/-- the end of a statement -/
def PSx (n : Nat) (o : Os) (D : Ends) : Prop := match o with
  | .nx sl rt => ∀ Hs' ρ' σ' H', Ext Hs ρ Hs' ρ' → Rel K w B Hs' ρ' rt H' → SlD K w Hs' ρ' σ' sl → σ'.length = n → D.nx σ' H'
  | .bk sl rt => ∀ Hs' ρ' σ' H', Ext Hs ρ Hs' ρ' → Rel K w B Hs' ρ' rt H' → SlD K w Hs' ρ' σ' sl → σ'.length = n → D.bk σ' H'
  | .ct sl rt => ∀ Hs' ρ' σ' H', Ext Hs ρ Hs' ρ' → Rel K w B Hs' ρ' rt H' → SlD K w Hs' ρ' σ' sl → σ'.length = n → D.ct σ' H'
  | .re x rt => ∀ v Hs' ρ' H', Ext Hs ρ Hs' ρ' → Rel K w B Hs' ρ' rt H' → WD K w Hs' ρ' v x → D.rt v H'
  | .ex c fs sl rt => ∀ d Hs' ρ' σ' H', Ext Hs ρ Hs' ρ' → Rel K w B Hs' ρ' rt H' → XD K w Hs' d fs → SlD K w Hs' ρ' σ' sl → σ'.length = n → Wx c.val d σ' H'
  | .no => False
end
theorem WDs.mono {K : PySem.W.Frag} {w : World} {Hs Hs' : Hp} {ρ ρ' : List Addr} (a : Ext Hs ρ Hs' ρ') : ∀ {vs : List V} {xs : List W}, WDs K w Hs ρ vs xs → WDs K w Hs' ρ' vs xs
  | _, _, .nil => .nil
  | _, _, .cons h t => .cons (h.mono a) (t.mono a)

section
variable {K : PySem.W.Frag} {w : World} {B : Bnd} {Wx : WX} {Hs Hs' H : Hp} {ρ ρ' : List Addr} {σ : L2.St}
theorem PEx.ext {α β : Type} {rel : Hp → List Addr → β → α → Prop} {o : Ou α} {Q : β → Hp → Prop} (h : PEx K w B Wx Hs ρ σ rel o Q) (e : Ext Hs ρ Hs' ρ') : PEx K w B Wx Hs' ρ' σ rel o Q := by
  cases o with
  | ok x rt => exact fun v Hs2 ρ2 H2 e2 => h v Hs2 ρ2 H2 (e.trans e2)
  | ex c fs rt => exact fun d Hs2 ρ2 H2 e2 => h d Hs2 ρ2 H2 (e.trans e2)
  | no => exact h
theorem PSx.ext {n : Nat} {o : Os} {D : Ends} (h : PSx K w B Wx Hs ρ n o D) (e : Ext Hs ρ Hs' ρ') : PSx K w B Wx Hs' ρ' n o D := by
  cases o with
  | nx sl rt => exact fun Hs2 ρ2 σ2 H2 e2 => h Hs2 ρ2 σ2 H2 (e.trans e2)
  | bk sl rt => exact fun Hs2 ρ2 σ2 H2 e2 => h Hs2 ρ2 σ2 H2 (e.trans e2)
  | ct sl rt => exact fun Hs2 ρ2 σ2 H2 e2 => h Hs2 ρ2 σ2 H2 (e.trans e2)
  | re x rt => exact fun v Hs2 ρ2 H2 e2 => h v Hs2 ρ2 H2 (e.trans e2)
  | ex c fs sl rt => exact fun d Hs2 ρ2 σ2 H2 e2 => h d Hs2 ρ2 σ2 H2 (e.trans e2)
  | no => exact h
/-- one thing behind another -/
theorem PEx.bind {α β γ δ : Type} {rel : Hp → List Addr → β → α → Prop} {rel2 : Hp → List Addr → δ → γ → Prop} {o : Ou α} {k : α → List O → Ou γ} {Q : β → Hp → Prop} {Q2 : δ → Hp → Prop}
    (h : PEx K w B Wx Hs ρ σ rel2 (o.bind k) Q2) (hk : ∀ x rt v Hs' ρ' H', Ext Hs ρ Hs' ρ' → Rel K w B Hs' ρ' rt H' → rel Hs' ρ' v x → PEx K w B Wx Hs' ρ' σ rel2 (k x rt) Q2 → Q v H') : PEx K w B Wx Hs ρ σ rel o Q := by
  cases o with
  | ok x rt => exact fun v Hs2 ρ2 H2 e2 r2 d2 => hk x rt v Hs2 ρ2 H2 e2 r2 d2 (PEx.ext (o := k x rt) h e2)
  | ex c fs rt => exact h
  | no => exact h
theorem PEx.seq {α β : Type} {rel : Hp → List Addr → β → α → Prop} {o : Ou α} {sl : Sl} {k : α → List O → Os} {Q : β → Hp → Prop} {D : Ends} (S : SlD K w Hs ρ σ sl)
    (h : PSx K w B Wx Hs ρ σ.length (o.seq sl k) D) (hk : ∀ x rt v Hs' ρ' H', Ext Hs ρ Hs' ρ' → Rel K w B Hs' ρ' rt H' → rel Hs' ρ' v x → PSx K w B Wx Hs' ρ' σ.length (k x rt) D → Q v H') : PEx K w B Wx Hs ρ σ rel o Q := by
  cases o with
  | ok x rt => exact fun v Hs2 ρ2 H2 e2 r2 d2 => hk x rt v Hs2 ρ2 H2 e2 r2 d2 (PSx.ext (o := k x rt) h e2)
  | ex c fs rt => exact fun d Hs2 ρ2 H2 e2 r2 x2 => h d Hs2 ρ2 σ H2 e2 r2 x2 (S.mono e2) rfl
  | no => exact h
end

/-! ### the judgements -/
structure VX (X : Cx) (Wx : WX) (e : Expr) (m : Ex W) : Prop where
  ex : ∃ t, PE X e t ∧ ∀ (B : Bnd) (Hs : Hp) (ρ : List Addr) (sl : Sl) (rt : List O) (σ : L2.St) (H : Hp) (Q : VK), Rel X.K X.w B Hs ρ rt H → SlD X.K X.w Hs ρ σ sl → PE1 X.K X.w B Wx Hs ρ σ (m sl rt) Q → t σ H Q
structure VT (X : Cx) (Wx : WX) (e : Expr) (m : Ex Bool) : Prop where
  ex : ∃ t, PT X e t ∧ ∀ (B : Bnd) (Hs : Hp) (ρ : List Addr) (sl : Sl) (rt : List O) (σ : L2.St) (H : Hp) (Q : Bool → Hp → Prop), Rel X.K X.w B Hs ρ rt H → SlD X.K X.w Hs ρ σ sl → PT1 X.K X.w B Wx Hs ρ σ (m sl rt) Q → t σ H Q
structure VA (X : Cx) (Wx : WX) (es : List Expr) (m : Ex (List W)) : Prop where
  ex : ∃ t, PA X es t ∧ ∀ (B : Bnd) (Hs : Hp) (ρ : List Addr) (sl : Sl) (rt : List O) (σ : L2.St) (H : Hp) (Q : List V → Hp → Prop), Rel X.K X.w B Hs ρ rt H → SlD X.K X.w Hs ρ σ sl → PA1 X.K X.w B Wx Hs ρ σ (m sl rt) Q → t σ H Q
structure VS (X : Cx) (Wx : WX) (st : Stmt) (m : Sx) : Prop where
  ex : ∃ t, PS X st t ∧ ∀ (B : Bnd) (Hs : Hp) (ρ : List Addr) (sl : Sl) (rt : List O) (σ : L2.St) (H : Hp) (D : Ends), Rel X.K X.w B Hs ρ rt H → SlD X.K X.w Hs ρ σ sl → PSx X.K X.w B Wx Hs ρ σ.length (m sl rt) D → t D σ H
structure VSs (X : Cx) (Wx : WX) (st : List Stmt) (m : Sx) : Prop where
  ex : ∃ t, PSs X st t ∧ ∀ (B : Bnd) (Hs : Hp) (ρ : List Addr) (sl : Sl) (rt : List O) (σ : L2.St) (H : Hp) (D : Ends), Rel X.K X.w B Hs ρ rt H → SlD X.K X.w Hs ρ σ sl → PSx X.K X.w B Wx Hs ρ σ.length (m sl rt) D → t D σ H

section
variable {X : Cx} {Wx : WX} {a b e : Expr} {pos : Pos} {ma mb : Ex W}

/-! ### names, constants -/
def eVar (i : Nat) : Ex W := fun sl rt => match sl[i]? with
  | some (some x) => .ok x rt
  | _ => .no
def eC (x : D) : Ex W := fun _ rt => .ok (.d x) rt
theorem vx_pe {t : TE} {m : Ex W} (h : PE X e t) (q : ∀ (B : Bnd) (Hs : Hp) (ρ : List Addr) (sl : Sl) (rt : List O) (σ : L2.St) (H : Hp) (Q : VK), Rel X.K X.w B Hs ρ rt H → SlD X.K X.w Hs ρ σ sl → PE1 X.K X.w B Wx Hs ρ σ (m sl rt) Q → t σ H Q) : VX X Wx e m := ⟨⟨t, h, q⟩⟩
theorem vx_var (i : Nat) {x : Str} (hN : X.N[i]? = some x := by rfl) (hv : Vis X.env.scope x := by first | exact Or.inl rfl | exact Or.inr (Or.inl rfl) | exact Or.inr (Or.inr rfl)) (hd : (x == ("__debug__" : Str)) = false := by decide)
    (hcd : (x == ("__classdict__" : Str)) = false := by decide) : VX X Wx (.Name x pos) (eVar i) := vx_pe (pe_var hN hv hd hcd) fun B Hs ρ sl rt σ H Q R S p => by
  unfold eVar at p
  cases h : sl[i]? with
  | none => simp only [h] at p; exact p.elim
  | some o =>
    cases o with
    | none => simp only [h] at p; exact p.elim
    | some x =>
      simp only [h] at p
      obtain ⟨v, e1, e2⟩ := S.at_ i x h
      exact ⟨v, e1, p v Hs ρ H Ext.refl R e2⟩
theorem vx_c {x : D} {v : V} (h : PE X e (tC v)) (d : ∀ Hs, Den X.K X.w Hs v x) : VX X Wx e (eC x) := vx_pe h fun B Hs ρ sl rt σ H Q R S p => p v Hs ρ H Ext.refl R (d Hs)
theorem vx_int {i : Int} {j : Nat} : VX X Wx (.Constant (.int i) j pos) (eC (.int i)) := vx_c pe_int fun _ => .int i
theorem vx_bl {b : Bool} {j : Nat} : VX X Wx (.Constant (.bool b) j pos) (eC (.bl b)) := vx_c pe_bl fun _ => .bl b
theorem vx_non {j : Nat} : VX X Wx (.Constant .none j pos) (eC .non) := vx_c pe_non fun _ => .non
theorem vx_str {x : Str} {j : Nat} : VX X Wx (.Constant (.str x) j pos) (eC (.str x)) := vx_c pe_str fun _ => .str x

/-! ### operators -/
structure OpV (X : Cx) (f : Value → Value → Sem Value) (g : W → W → List O → Ou W) : Prop where
  ex : ∃ r, OpR X f r ∧ ∀ (Wx : WX) (B : Bnd) (Hs : Hp) (ρ : List Addr) (rt : List O) (σ : L2.St) (H : Hp) (Q : VK) (x y : W) (v u : V), Rel X.K X.w B Hs ρ rt H → WD X.K X.w Hs ρ v x → WD X.K X.w Hs ρ u y → PE1 X.K X.w B Wx Hs ρ σ (g x y rt) Q → r v u H Q
def eOp (g : W → W → List O → Ou W) (ma mb : Ex W) : Ex W := fun sl rt => (ma sl rt).bind fun x rt => (mb sl rt).bind fun y rt => g x y rt
/-- two operands, from the left -/
theorem two_op {r : R2} {g : W → W → List O → Ou W} {ta tb : TE} (hr : ∀ (Wx : WX) (B : Bnd) (Hs : Hp) (ρ : List Addr) (rt : List O) (σ : L2.St) (H : Hp) (Q : VK) (x y : W) (v u : V), Rel X.K X.w B Hs ρ rt H → WD X.K X.w Hs ρ v x → WD X.K X.w Hs ρ u y → PE1 X.K X.w B Wx Hs ρ σ (g x y rt) Q → r v u H Q)
    (ha : ∀ (B : Bnd) (Hs : Hp) (ρ : List Addr) (sl : Sl) (rt : List O) (σ : L2.St) (H : Hp) (Q : VK), Rel X.K X.w B Hs ρ rt H → SlD X.K X.w Hs ρ σ sl → PE1 X.K X.w B Wx Hs ρ σ (ma sl rt) Q → ta σ H Q)
    (hb : ∀ (B : Bnd) (Hs : Hp) (ρ : List Addr) (sl : Sl) (rt : List O) (σ : L2.St) (H : Hp) (Q : VK), Rel X.K X.w B Hs ρ rt H → SlD X.K X.w Hs ρ σ sl → PE1 X.K X.w B Wx Hs ρ σ (mb sl rt) Q → tb σ H Q)
    (B : Bnd) (Hs : Hp) (ρ : List Addr) (sl : Sl) (rt : List O) (σ : L2.St) (H : Hp) (Q : VK) (R : Rel X.K X.w B Hs ρ rt H) (S : SlD X.K X.w Hs ρ σ sl) (p : PE1 X.K X.w B Wx Hs ρ σ (eOp g ma mb sl rt) Q) : tOp r ta tb σ H Q := by
  refine ha B Hs ρ sl rt σ H _ R S (PEx.bind p fun x rt1 v Hs1 ρ1 H1 e1 R1 d1 p1 => ?_)
  refine hb B Hs1 ρ1 sl rt1 σ H1 _ R1 (S.mono e1) (PEx.bind p1 fun y rt2 u Hs2 ρ2 H2 e2 R2 d2 p2 => ?_)
  exact hr Wx B Hs2 ρ2 rt2 σ H2 Q x y v u R2 (d1.mono e2) d2 p2
theorem vx_op {op : Operator} {g : W → W → List O → Ou W} (ho : OpV X (binaryOp op) g) (ha : VX X Wx a ma) (hb : VX X Wx b mb) : VX X Wx (.BinOp a op b pos) (eOp g ma mb) := by
  obtain ⟨r, h1, h2⟩ := ho.ex
  obtain ⟨ta, a1, a2⟩ := ha.ex
  obtain ⟨tb, b1, b2⟩ := hb.ex
  exact vx_pe (pe_op h1 a1 b1) (two_op h2 a2 b2)
theorem vx_cmp {op : CmpOp} {g : W → W → List O → Ou W} (ho : OpV X (compareOp op) g) (ha : VX X Wx a ma) (hb : VX X Wx b mb) (hm : behindInMarks op b = false := by first | exact nomark _ | rfl) : VX X Wx (.Compare a [op] [b] pos) (eOp g ma mb) := by
  obtain ⟨r, h1, h2⟩ := ho.ex
  obtain ⟨ta, a1, a2⟩ := ha.ex
  obtain ⟨tb, b1, b2⟩ := hb.ex
  exact vx_pe (pe_cmpR h1 a1 b1 hm) (two_op h2 a2 b2)
/-- a truth value -/
def eB (m : Ex W) : Ex Bool := fun sl rt => (m sl rt).bind fun x rt => match x with
  | .d (.bl b) => .ok b rt
  | _ => .no
theorem bl_of {K : PySem.W.Frag} {w : World} {Hs : Hp} {v : V} {b : Bool} (h : Den K w Hs v (.bl b)) : v = .bl b := by cases h; rfl
theorem test_ok {t : TE} {m : Ex W} (h : ∀ (B : Bnd) (Hs : Hp) (ρ : List Addr) (sl : Sl) (rt : List O) (σ : L2.St) (H : Hp) (Q : VK), Rel X.K X.w B Hs ρ rt H → SlD X.K X.w Hs ρ σ sl → PE1 X.K X.w B Wx Hs ρ σ (m sl rt) Q → t σ H Q)
    (B : Bnd) (Hs : Hp) (ρ : List Addr) (sl : Sl) (rt : List O) (σ : L2.St) (H : Hp) (Q : Bool → Hp → Prop) (R : Rel X.K X.w B Hs ρ rt H) (S : SlD X.K X.w Hs ρ σ sl) (p : PT1 X.K X.w B Wx Hs ρ σ (eB m sl rt) Q) : t σ H (fun x H' => ∃ k, x = .bl k ∧ Q k H') := by
  refine h B Hs ρ sl rt σ H _ R S (PEx.bind p fun x rt1 v Hs1 ρ1 H1 e1 R1 d1 p1 => ?_)
  cases x with
  | r n => exact p1.elim
  | d x =>
    cases x <;> first | exact p1.elim | skip
    rename_i b
    exact ⟨b, bl_of d1, p1 b Hs1 ρ1 H1 Ext.refl R1 rfl⟩
theorem vt_cmp {op : CmpOp} {g : W → W → List O → Ou W} (ho : OpV X (compareOp op) g) (ha : VX X Wx a ma) (hb : VX X Wx b mb) (hm : behindInMarks op b = false := by first | exact nomark _ | rfl) : VT X Wx (.Compare a [op] [b] pos) (eB (eOp g ma mb)) := by
  obtain ⟨r, h1, h2⟩ := ho.ex
  obtain ⟨ta, a1, a2⟩ := ha.ex
  obtain ⟨tb, b1, b2⟩ := hb.ex
  exact ⟨_, pt_cmpR h1 a1 b1 hm, test_ok (two_op h2 a2 b2)⟩
/-- a test by its value (a call, a name that holds a truth value, ..) -/
theorem vt_val (ha : VX X Wx a ma) (he : ∀ whole, isTrue a X.env whole = (do let v ← whole; standAt a.pos; holding [v] (truthy v)) := by intro _; rfl) : VT X Wx a (eB ma) := by
  obtain ⟨ta, a1, a2⟩ := ha.ex
  exact ⟨_, pt_val a1 he, test_ok a2⟩
def eNotT (m : Ex Bool) : Ex Bool := fun sl rt => (m sl rt).bind fun b rt => .ok (!b) rt
theorem vt_not {m : Ex Bool} (ha : VT X Wx a m) : VT X Wx (.UnaryOp .Not a pos) (eNotT m) := by
  obtain ⟨ta, a1, a2⟩ := ha.ex
  refine ⟨_, pt_not a1, fun B Hs ρ sl rt σ H Q R S p => ?_⟩
  refine a2 B Hs ρ sl rt σ H _ R S (PEx.bind p fun x rt1 v Hs1 ρ1 H1 e1 R1 d1 p1 => ?_)
  subst d1
  exact p1 _ Hs1 ρ1 H1 Ext.refl R1 rfl
structure VW (X : Cx) (Wx : WX) (e : Expr) (m : Ex Bool) : Prop where
  ex : ∃ t, PW X e t ∧ ∀ (B : Bnd) (Hs : Hp) (ρ : List Addr) (sl : Sl) (rt : List O) (σ : L2.St) (H : Hp) (Q : Bool → Hp → Prop), Rel X.K X.w B Hs ρ rt H → SlD X.K X.w Hs ρ σ sl → PT1 X.K X.w B Wx Hs ρ σ (m sl rt) Q → t σ H Q
def eAndT (m n : Ex Bool) : Ex Bool := fun sl rt => (m sl rt).bind fun b rt => if b = true then n sl rt else .ok false rt
def eOrT (m n : Ex Bool) : Ex Bool := fun sl rt => (m sl rt).bind fun b rt => if b = true then .ok true rt else n sl rt
theorem vw_and1 {m : Ex Bool} (ha : VT X Wx a m) : VW X Wx (.BoolOp .And [a] pos) m := by
  obtain ⟨ta, a1, a2⟩ := ha.ex
  exact ⟨_, pw_and1 a1, a2⟩
theorem vw_or1 {m : Ex Bool} (ha : VT X Wx a m) : VW X Wx (.BoolOp .Or [a] pos) m := by
  obtain ⟨ta, a1, a2⟩ := ha.ex
  exact ⟨_, pw_or1 a1, a2⟩
theorem vw_and {m n : Ex Bool} {rest : List Expr} (ha : VT X Wx a m) (hb : VW X Wx (.BoolOp .And (b :: rest) pos) n) : VW X Wx (.BoolOp .And (a :: b :: rest) pos) (eAndT m n) := by
  obtain ⟨ta, a1, a2⟩ := ha.ex
  obtain ⟨tb, b1, b2⟩ := hb.ex
  refine ⟨_, pw_and a1 b1, fun B Hs ρ sl rt σ H Q R S p => ?_⟩
  refine a2 B Hs ρ sl rt σ H _ R S (PEx.bind p fun x rt1 v Hs1 ρ1 H1 e1 R1 d1 p1 => ?_)
  subst d1
  cases v with
  | true => exact b2 B Hs1 ρ1 sl rt1 σ H1 Q R1 (S.mono e1) p1
  | false => exact p1 _ Hs1 ρ1 H1 Ext.refl R1 rfl
theorem vw_or {m n : Ex Bool} {rest : List Expr} (ha : VT X Wx a m) (hb : VW X Wx (.BoolOp .Or (b :: rest) pos) n) : VW X Wx (.BoolOp .Or (a :: b :: rest) pos) (eOrT m n) := by
  obtain ⟨ta, a1, a2⟩ := ha.ex
  obtain ⟨tb, b1, b2⟩ := hb.ex
  refine ⟨_, pw_or a1 b1, fun B Hs ρ sl rt σ H Q R S p => ?_⟩
  refine a2 B Hs ρ sl rt σ H _ R S (PEx.bind p fun x rt1 v Hs1 ρ1 H1 e1 R1 d1 p1 => ?_)
  subst d1
  cases v with
  | true => exact p1 _ Hs1 ρ1 H1 Ext.refl R1 rfl
  | false => exact b2 B Hs1 ρ1 sl rt1 σ H1 Q R1 (S.mono e1) p1
theorem VW.vt {m : Ex Bool} (h : VW X Wx e m) : VT X Wx e m := by
  obtain ⟨t, h1, h2⟩ := h.ex
  exact ⟨t, h1.pt, h2⟩
/-- the same as values, of truth values -/
def eTv (m : Ex Bool) : Ex W := fun sl rt => (m sl rt).bind fun b rt => .ok (.d (.bl b)) rt
def eAnd (m n : Ex W) : Ex W := fun sl rt => (m sl rt).bind fun x rt => match x with
  | .d (.bl true) => n sl rt
  | .d (.bl false) => .ok (.d (.bl false)) rt
  | _ => .no
def eOr (m n : Ex W) : Ex W := fun sl rt => (m sl rt).bind fun x rt => match x with
  | .d (.bl true) => .ok (.d (.bl true)) rt
  | .d (.bl false) => n sl rt
  | _ => .no
def eNot (m : Ex W) : Ex W := fun sl rt => (m sl rt).bind fun x rt => match x with
  | .d (.bl b) => .ok (.d (.bl (!b))) rt
  | _ => .no
theorem vx_one {op : BoolOp} {m : Ex W} (h : VX X Wx a m) : VX X Wx (.BoolOp op [a] pos) m := by
  obtain ⟨t, h1, h2⟩ := h.ex
  exact vx_pe (pe_one h1) h2
theorem vx_and {rest : List Expr} {m n : Ex W} (ha : VX X Wx a m) (hb : VX X Wx (.BoolOp .And (b :: rest) pos) n) : VX X Wx (.BoolOp .And (a :: b :: rest) pos) (eAnd m n) := by
  obtain ⟨ta, a1, a2⟩ := ha.ex
  obtain ⟨tb, b1, b2⟩ := hb.ex
  refine vx_pe (pe_and a1 b1) fun B Hs ρ sl rt σ H Q R S p => ?_
  refine a2 B Hs ρ sl rt σ H _ R S (PEx.bind p fun x rt1 v Hs1 ρ1 H1 e1 R1 d1 p1 => ?_)
  cases x with
  | r n => exact p1.elim
  | d x =>
    cases x <;> first | exact p1.elim | skip
    rename_i b
    refine ⟨b, bl_of d1, ?_⟩
    cases b with
    | true => exact b2 B Hs1 ρ1 sl rt1 σ H1 Q R1 (S.mono e1) p1
    | false => exact p1 _ Hs1 ρ1 H1 Ext.refl R1 (.bl false)
theorem vx_or {rest : List Expr} {m n : Ex W} (ha : VX X Wx a m) (hb : VX X Wx (.BoolOp .Or (b :: rest) pos) n) : VX X Wx (.BoolOp .Or (a :: b :: rest) pos) (eOr m n) := by
  obtain ⟨ta, a1, a2⟩ := ha.ex
  obtain ⟨tb, b1, b2⟩ := hb.ex
  refine vx_pe (pe_or a1 b1) fun B Hs ρ sl rt σ H Q R S p => ?_
  refine a2 B Hs ρ sl rt σ H _ R S (PEx.bind p fun x rt1 v Hs1 ρ1 H1 e1 R1 d1 p1 => ?_)
  cases x with
  | r n => exact p1.elim
  | d x =>
    cases x <;> first | exact p1.elim | skip
    rename_i b
    refine ⟨b, bl_of d1, ?_⟩
    cases b with
    | true => exact p1 _ Hs1 ρ1 H1 Ext.refl R1 (.bl true)
    | false => exact b2 B Hs1 ρ1 sl rt1 σ H1 Q R1 (S.mono e1) p1
theorem vx_not {m : Ex W} (ha : VX X Wx a m) : VX X Wx (.UnaryOp .Not a pos) (eNot m) := by
  obtain ⟨ta, a1, a2⟩ := ha.ex
  refine vx_pe (pe_not a1) fun B Hs ρ sl rt σ H Q R S p => ?_
  refine a2 B Hs ρ sl rt σ H _ R S (PEx.bind p fun x rt1 v Hs1 ρ1 H1 e1 R1 d1 p1 => ?_)
  cases x with
  | r n => exact p1.elim
  | d x =>
    cases x <;> first | exact p1.elim | skip
    rename_i b
    exact ⟨b, bl_of d1, p1 _ Hs1 ρ1 H1 Ext.refl R1 (.bl (!b))⟩
def eIf (c : Ex Bool) (m n : Ex W) : Ex W := fun sl rt => (c sl rt).bind fun b rt => if b = true then m sl rt else n sl rt
theorem vx_if {c : Expr} {mc : Ex Bool} (hc : VT X Wx c mc) (ha : VX X Wx a ma) (hb : VX X Wx b mb) : VX X Wx (.IfExp c a b pos) (eIf mc ma mb) := by
  obtain ⟨tc, c1, c2⟩ := hc.ex
  obtain ⟨ta, a1, a2⟩ := ha.ex
  obtain ⟨tb, b1, b2⟩ := hb.ex
  refine vx_pe (pe_ifExp c1 a1 b1) fun B Hs ρ sl rt σ H Q R S p => ?_
  refine c2 B Hs ρ sl rt σ H _ R S (PEx.bind p fun x rt1 v Hs1 ρ1 H1 e1 R1 d1 p1 => ?_)
  subst d1
  cases v with
  | true => exact a2 B Hs1 ρ1 sl rt1 σ H1 Q R1 (S.mono e1) p1
  | false => exact b2 B Hs1 ρ1 sl rt1 σ H1 Q R1 (S.mono e1) p1
end
end VE

set_option maxRecDepth 100000
set_option maxHeartbeats 1000000
namespace VE
open PySem PySem.Spec L2

/-! ### statements -/
def Os.andThen (o : Os) (k : Sx) : Os := match o with
  | .nx sl rt => k sl rt
  | o => o
def sNil : Sx := fun sl rt => .nx sl rt
def sSeq (m n : Sx) : Sx := fun sl rt => (m sl rt).andThen n
def sSet (i : Nat) (m : Ex W) : Sx := fun sl rt => (m sl rt).seq sl fun x rt => .nx (sl.set i (some x)) rt
def sDrop (m : Ex W) : Sx := fun sl rt => (m sl rt).seq sl fun _ rt => .nx sl rt
def sRet (m : Ex W) : Sx := fun sl rt => (m sl rt).seq sl fun x rt => .re x rt
def sRetN : Sx := fun _ rt => .re (.d .non) rt
def sBrk : Sx := fun sl rt => .bk sl rt
def sCont : Sx := fun sl rt => .ct sl rt
def sIf (c : Ex Bool) (m n : Sx) : Sx := fun sl rt => (c sl rt).seq sl fun b rt => if b = true then m sl rt else n sl rt

section
variable {X : Cx} {Wx : WX} {a b e : Expr} {st : Stmt} {rest : List Stmt} {pos : Pos} {ma mb : Ex W} {m n : Sx}
theorem vss_nil : VSs X Wx [] sNil := ⟨_, pss_nil, fun B Hs ρ sl rt σ H D R S p => p Hs ρ σ H Ext.refl R S rfl⟩
theorem vs_pass : VS X Wx (.Pass pos) sNil := ⟨_, ps_pass, fun B Hs ρ sl rt σ H D R S p => p Hs ρ σ H Ext.refl R S rfl⟩
theorem vs_break : VS X Wx (.Break pos) sBrk := ⟨_, ps_break, fun B Hs ρ sl rt σ H D R S p => p Hs ρ σ H Ext.refl R S rfl⟩
theorem vs_continue : VS X Wx (.Continue pos) sCont := ⟨_, ps_continue, fun B Hs ρ sl rt σ H D R S p => p Hs ρ σ H Ext.refl R S rfl⟩
theorem PSx.then {K : PySem.W.Frag} {w : World} {B : Bnd} {Hs : Hp} {ρ : List Addr} {l : Nat} {o : Os} {k : Sx} {D : Ends} {Nx : L2.St → Hp → Prop} (h : PSx K w B Wx Hs ρ l (o.andThen k) D)
    (hk : ∀ sl rt Hs' ρ' σ' H', Ext Hs ρ Hs' ρ' → Rel K w B Hs' ρ' rt H' → SlD K w Hs' ρ' σ' sl → σ'.length = l → PSx K w B Wx Hs' ρ' σ'.length (k sl rt) D → Nx σ' H') : PSx K w B Wx Hs ρ l o { D with nx := Nx } := by
  cases o with
  | nx sl rt => exact fun Hs2 ρ2 σ2 H2 e2 R2 S2 l2 => hk sl rt Hs2 ρ2 σ2 H2 e2 R2 S2 l2 (by rw [l2]; exact PSx.ext (o := k sl rt) h e2)
  | bk sl rt => exact h
  | ct sl rt => exact h
  | re x rt => exact h
  | ex c fs sl rt => exact h
  | no => exact h
theorem vss_cons (h1 : VS X Wx st m) (h2 : VSs X Wx rest n) : VSs X Wx (st :: rest) (sSeq m n) := by
  obtain ⟨t, a1, a2⟩ := h1.ex
  obtain ⟨u, b1, b2⟩ := h2.ex
  refine ⟨_, pss_cons a1 b1, fun B Hs ρ sl rt σ H D R S p => ?_⟩
  refine a2 B Hs ρ sl rt σ H _ R S (PSx.then (k := n) p fun sl1 rt1 Hs1 ρ1 σ1 H1 e1 R1 S1 l1 p1 => ?_)
  exact b2 B Hs1 ρ1 sl1 rt1 σ1 H1 D R1 S1 p1
theorem vss_one (h1 : VS X Wx st m) : VSs X Wx [st] m := by
  obtain ⟨t, a1, a2⟩ := h1.ex
  exact ⟨_, pss_one a1, a2⟩
theorem vs_set (i : Nat) {x : Str} {pos' : Pos} (hN : X.N.Nodup) (hi : X.N[i]? = some x) (hx : Loc X.env.scope x) (ha : VX X Wx e ma) (hs : swapsWith e (some (.Name x pos')) pos.line X.env = pure false := by rfl)
    (hf : X.fn x = true ∨ X.env.scope.names.lookup x = some .local := by first | exact .inl rfl | exact .inr rfl | assumption) : VS X Wx (.Assign [.Name x pos'] e pos) (sSet i ma) := by
  obtain ⟨ta, a1, a2⟩ := ha.ex
  refine ⟨_, ps_set hN hi hx a1 hs hf, fun B Hs ρ sl rt σ H D R S p => ?_⟩
  refine a2 B Hs ρ sl rt σ H _ R S (PEx.seq S p fun y rt1 v Hs1 ρ1 H1 e1 R1 d1 p1 => ?_)
  exact p1 Hs1 ρ1 _ H1 Ext.refl R1 ((S.mono e1).set i d1) (by simp)
theorem vs_expr (ha : VX X Wx e ma) (hs : swapsWith e none pos.line X.env = pure false := by rfl) : VS X Wx (.Expr e pos) (sDrop ma) := by
  obtain ⟨ta, a1, a2⟩ := ha.ex
  refine ⟨_, ps_expr a1 hs, fun B Hs ρ sl rt σ H D R S p => ?_⟩
  refine a2 B Hs ρ sl rt σ H _ R S (PEx.seq S p fun y rt1 v Hs1 ρ1 H1 e1 R1 d1 p1 => ?_)
  exact p1 Hs1 ρ1 _ H1 Ext.refl R1 (S.mono e1) rfl
theorem vs_ret (ha : VX X Wx e ma) : VS X Wx (.Return (some e) pos) (sRet ma) := by
  obtain ⟨ta, a1, a2⟩ := ha.ex
  refine ⟨_, ps_ret a1, fun B Hs ρ sl rt σ H D R S p => ?_⟩
  refine a2 B Hs ρ sl rt σ H _ R S (PEx.seq S p fun y rt1 v Hs1 ρ1 H1 e1 R1 d1 p1 => ?_)
  exact p1 v Hs1 ρ1 H1 Ext.refl R1 d1
theorem vs_retN : VS X Wx (.Return none pos) sRetN := ⟨_, ps_retN, fun B Hs ρ sl rt σ H D R S p => p _ Hs ρ H Ext.refl R .non⟩
theorem vs_if {c : Expr} {mc : Ex Bool} {sa sb : List Stmt} (hc : VT X Wx c mc) (ha : VSs X Wx sa m) (hb : VSs X Wx sb n) : VS X Wx (.If c sa sb pos) (sIf mc m n) := by
  obtain ⟨tc, c1, c2⟩ := hc.ex
  obtain ⟨ta, a1, a2⟩ := ha.ex
  obtain ⟨tb, b1, b2⟩ := hb.ex
  refine ⟨_, ps_if c1 a1 b1, fun B Hs ρ sl rt σ H D R S p => ?_⟩
  refine c2 B Hs ρ sl rt σ H _ R S (PEx.seq S p fun x rt1 v Hs1 ρ1 H1 e1 R1 d1 p1 => ?_)
  subst d1
  cases v with
  | true => exact a2 B Hs1 ρ1 sl rt1 σ H1 D R1 (S.mono e1) p1
  | false => exact b2 B Hs1 ρ1 sl rt1 σ H1 D R1 (S.mono e1) p1
end

/-! ### targets -/
abbrev Gx := W → Ex Sl
abbrev PG1 (K : PySem.W.Frag) (w : World) (B : Bnd) (Wx : WX) (Hs : Hp) (ρ : List Addr) (σ : L2.St) (o : Ou Sl) (Q : L2.St → Hp → Prop) : Prop :=
  PEx K w B Wx Hs ρ σ (fun h r σ' sl' => SlD K w h r σ' sl' ∧ σ'.length = σ.length) o Q
structure VG (X : Cx) (Wx : WX) (tg : Expr) (m : Gx) : Prop where
  ex : ∃ g, PG X tg g ∧ ∀ (B : Bnd) (Hs : Hp) (ρ : List Addr) (x : W) (v : V) (sl : Sl) (rt : List O) (σ : L2.St) (H : Hp) (Q : L2.St → Hp → Prop), Rel X.K X.w B Hs ρ rt H → SlD X.K X.w Hs ρ σ sl → WD X.K X.w Hs ρ v x →
    PG1 X.K X.w B Wx Hs ρ σ (m x sl rt) Q → g v σ H Q
structure VGs (X : Cx) (Wx : WX) (tgs : List Expr) (m : List D → Ex Sl) : Prop where
  ex : ∃ g, PGs X tgs g ∧ ∀ (B : Bnd) (Hs : Hp) (ρ : List Addr) (xs : List D) (vs : List V) (sl : Sl) (rt : List O) (σ : L2.St) (H : Hp) (Q : L2.St → Hp → Prop), Rel X.K X.w B Hs ρ rt H → SlD X.K X.w Hs ρ σ sl → Dens X.K X.w Hs vs xs →
    PG1 X.K X.w B Wx Hs ρ σ (m xs sl rt) Q → g vs σ H Q
def gN (i : Nat) : Gx := fun x sl rt => .ok (sl.set i (some x)) rt
def gNil' : List D → Ex Sl := fun xs sl rt => match xs with
  | [] => .ok sl rt
  | _ => .no
def gCons' (m : Gx) (ms : List D → Ex Sl) : List D → Ex Sl := fun xs sl rt => match xs with
  | x :: xs => (m (.d x) sl rt).bind fun sl rt => (ms xs sl rt).noex
  | [] => .no
def gT (n : Nat) (ms : List D → Ex Sl) : Gx := fun x sl rt => match x with
  | .d (.tup xs) => if xs.length = n then ms xs sl rt else .no
  | .d (.ktup xs) => if xs.length = n then ms xs sl rt else .no
  | _ => .no
theorem Dens.length {K : PySem.W.Frag} {w : World} {H : Hp} : ∀ {vs : List V} {xs : List D}, Dens K w H vs xs → vs.length = xs.length
  | _, _, .nil => rfl
  | _, _, .cons _ t => by simp [Dens.length t]
theorem Dens.get {K : PySem.W.Frag} {w : World} {H : Hp} : ∀ {vs : List V} {xs : List D} {i : Nat} {x : D}, Dens K w H vs xs → xs[i]? = some x → ∃ v, vs[i]? = some v ∧ Den K w H v x
  | _, _, _, _, .nil, e => by simp at e
  | _, _, 0, _, .cons h _, e => by simp at e; subst e; exact ⟨_, rfl, h⟩
  | _, _, i + 1, _, .cons _ t, e => by
    obtain ⟨v, h1, h2⟩ := Dens.get (i := i) t (by simpa using e)
    exact ⟨v, by simpa using h1, h2⟩
section
variable {X : Cx} {Wx : WX} {e : Expr} {es : List Expr} {pos : Pos} {m : Gx} {ms : List D → Ex Sl}
theorem vg_name (i : Nat) {x : Str} (hN : X.N.Nodup) (hi : X.N[i]? = some x) (hx : Loc X.env.scope x) (hf : X.fn x = true ∨ X.env.scope.names.lookup x = some .local := by first | exact .inl rfl | exact .inr rfl | assumption) : VG X Wx (.Name x pos) (gN i) :=
  ⟨_, pg_name hN hi hx hf, fun B Hs ρ x v sl rt σ H Q R S d p => p _ Hs ρ H Ext.refl R ⟨S.set i d, by simp⟩⟩
theorem vgs_nil : VGs X Wx [] gNil' := ⟨_, pgs_nil, fun B Hs ρ xs vs sl rt σ H Q R S d p => by
  cases d with
  | nil => exact ⟨rfl, p _ Hs ρ H Ext.refl R ⟨S, rfl⟩⟩
  | cons _ _ => exact p.elim⟩
theorem vgs_cons (h1 : VG X Wx e m) (h2 : VGs X Wx es ms) (hs : (assignEach (e :: es) X.env).map (·.2) = assign e X.env :: (assignEach es X.env).map (·.2) := by rfl) : VGs X Wx (e :: es) (gCons' m ms) := by
  obtain ⟨g, a1, a2⟩ := h1.ex
  obtain ⟨u, b1, b2⟩ := h2.ex
  refine ⟨_, pgs_cons a1 b1 hs, fun B Hs ρ xs vs sl rt σ H Q R S d p => ?_⟩
  cases d with
  | nil => exact p.elim
  | @cons v x vs xs d ds =>
    refine ⟨v, vs, rfl, a2 B Hs ρ (.d x) v sl rt σ H _ R S d (PEx.bind p fun sl1 rt1 σ1 Hs1 ρ1 H1 e1 R1 d1 p1 => ?_)⟩
    refine b2 B Hs1 ρ1 xs vs sl1 rt1 σ1 H1 Q R1 d1.1 (ds.mono e1.same) ?_
    cases o : ms xs sl1 rt1 with
    | no => rw [o] at p1; exact p1
    | ex c fs rt => rw [o] at p1; exact p1.elim
    | ok sl2 rt2 => rw [o] at p1; exact fun σ2 Hs2 ρ2 H2 e2 R2 d2 => p1 σ2 Hs2 ρ2 H2 e2 R2 ⟨d2.1, d2.2.trans d1.2⟩
theorem vg_tup {k : Nat} {n : Nat} (hc : X.calm = true) (h : VGs X Wx es ms) (hn : (assignEach es X.env).length = n := by rfl) (hst : (assignEach es X.env).findIdx? (·.1) = none := by rfl) : VG X Wx (.Tuple es k pos) (gT n ms) := by
  obtain ⟨g, a1, a2⟩ := h.ex
  refine ⟨_, pg_tup hc a1 hn hst, fun B Hs ρ x v sl rt σ H Q R S d p => ?_⟩
  cases x with
  | r _ => exact p.elim
  | d x =>
    cases x <;> first | exact p.elim | skip
    · rename_i xs
      cases d with
      | @tup a vs _ h1 h2 =>
        unfold gT at p
        by_cases hl : xs.length = n
        · simp only [hl, if_true] at p
          exact ⟨a, vs, rfl, SqT.of (R.same _ _ h1), h2.length.trans hl, a2 B Hs ρ xs vs sl rt σ H Q R S h2 p⟩
        · simp only [hl, if_false] at p
          exact p.elim
    · rename_i xs
      cases d with
      | @ktup a vs _ h1 h2 =>
        unfold gT at p
        by_cases hl : xs.length = n
        · simp only [hl, if_true] at p
          exact ⟨a, vs, rfl, SqT.mono R.same h1, h2.length.trans hl, a2 B Hs ρ xs vs sl rt σ H Q R S h2 p⟩
        · simp only [hl, if_false] at p
          exact p.elim
end
end VE

set_option maxRecDepth 100000
set_option maxHeartbeats 1000000
namespace VE
open PySem PySem.Spec L2

/-! ### some of the roots -/
def pk {α : Type} (js : List Nat) (l : List α) (d : α) : List α := js.map fun j => l.getD j d
theorem pk_get {α : Type} {js : List Nat} {l : List α} {d : α} {i j : Nat} {x : α} (h : js[i]? = some j) (e : l[j]? = some x) : (pk js l d)[i]? = some x := by
  unfold pk
  rw [List.getElem?_map, h]
  simp [List.getD_eq_getElem?_getD, e]
theorem pk_of {α : Type} {js : List Nat} {l : List α} {d : α} {i : Nat} {x : α} (h : (pk js l d)[i]? = some x) (hr : ∀ j ∈ js, j < l.length) : ∃ j, js[i]? = some j ∧ l[j]? = some x := by
  unfold pk at h
  rw [List.getElem?_map] at h
  cases e : js[i]? with
  | none => rw [e] at h; cases h
  | some j =>
    rw [e] at h
    have hj := hr j (List.mem_of_getElem? e)
    refine ⟨j, rfl, ?_⟩
    simp [List.getD_eq_getElem?_getD, hj] at h
    simp [hj, h]
theorem pk_length {α : Type} {js : List Nat} {l : List α} {d : α} : (pk js l d).length = js.length := by simp [pk]
theorem nodup_at {js : List Nat} (h : js.Nodup) {i k j : Nat} (a : js[i]? = some j) (b : js[k]? = some j) : i = k := by
  obtain ⟨h1, e1⟩ := List.getElem?_eq_some_iff.mp a
  obtain ⟨h2, e2⟩ := List.getElem?_eq_some_iff.mp b
  exact (List.getElem_inj h).mp (e1.trans e2.symm)

section
variable {K : PySem.W.Frag} {w : World} {B : Bnd} {Hs Hs' H H' : Hp} {ρ : List Addr} {rt : List O}
def fat (F : Nat → List Addr) (js : List Nat) : Nat → List Addr := fun i => F (js.getD i 0)
theorem fat_at {F : Nat → List Addr} {js : List Nat} {i j : Nat} (h : js[i]? = some j) : fat F js i = F j := by simp [fat, List.getD_eq_getElem?_getD, h]
theorem Rel.picked (R : Rel K w B Hs ρ rt H) {js : List Nat} (hn : js.Nodup) (hr : ∀ j ∈ js, j < rt.length) : Rel K w B Hs (pk js ρ 0) (pk js rt (.d .non)) H := by
  obtain ⟨F, hF⟩ := R.own
  refine ⟨R.same, by rw [pk_length, pk_length], ⟨fat F js, fun i o e => ?_⟩, R.frame, R.there, R.pers⟩
  obtain ⟨j, hj, ho⟩ := pk_of e hr
  obtain ⟨a, e1, h1, h2, h3, h4⟩ := hF j o ho
  rw [fat_at hj]
  refine ⟨a, pk_get hj e1, h1, h2, h3, fun k hk hki b hb => ?_⟩
  rw [pk_length] at hk
  obtain ⟨j2, hj2⟩ : ∃ j2, js[k]? = some j2 := ⟨js[k], by simp [hk]⟩
  rw [fat_at hj2]
  exact h4 j2 (hr j2 (List.mem_of_getElem? hj2)) (fun z => hki (nodup_at hn hj2 (by rw [z]; exact hj))) b hb

end
theorem pk_range {α : Type} {l : List α} {d : α} {k : Nat} (h : k ≤ l.length) : pk (List.range k) l d = l.take k := by
  refine List.ext_getElem? fun i => ?_
  unfold pk
  rw [List.getElem?_map]
  by_cases hi : i < k
  · rw [List.getElem?_take, if_pos hi]
    simp [hi, List.getD_eq_getElem?_getD, show i < l.length by omega]
  · rw [List.getElem?_take, if_neg hi]
    simp [hi]
end VE

set_option maxRecDepth 100000
set_option maxHeartbeats 1000000
namespace VE
open PySem PySem.Spec L2

/-! ### a value made plain -/
def vOf (x : W) (rt : List O) : Ou D := match x with
  | .d x => .ok x rt
  | .r n => match rt[n]? with
    | some o => .ok o.toD (rt.set n (.d o.toD))
    | none => .no
theorem vOf_ok {K : PySem.W.Frag} {w : World} {B : Bnd} {Hs H : Hp} {ρ : List Addr} {rt : List O} {v : V} {x : W} (R : Rel K w B Hs ρ rt H) (d : WD K w Hs ρ v x) :
    ∀ y rt', vOf x rt = .ok y rt' → ∃ Hs', Ext Hs ρ Hs' ρ ∧ Rel K w B Hs' ρ rt' H ∧ Den K w Hs' v y := by
  intro y rt' e
  cases x with
  | d x =>
    cases e
    exact ⟨Hs, Ext.refl, R, d⟩
  | r n =>
    unfold vOf at e
    cases h : rt[n]? with
    | none => simp only [h] at e; cases e
    | some o =>
      simp only [h] at e
      cases e
      obtain ⟨a, ea, rfl⟩ := d
      obtain ⟨Hs', s, d', R'⟩ := R.freeze ea h
      exact ⟨Hs', Ext.of_same s, R', d'⟩
theorem vOf_noex {x : W} {rt : List O} {c : XC} {fs : List (Str × D)} {rt' : List O} : vOf x rt ≠ .ex c fs rt' := by
  cases x with
  | d x => intro h; cases h
  | r n =>
    intro h
    unfold vOf at h
    cases e : rt[n]? <;> simp [e] at h
/-- make it plain, go on -/
theorem PEx.val {K : PySem.W.Frag} {w : World} {B : Bnd} {Wx : WX} {Hs H : Hp} {ρ : List Addr} {σ : L2.St} {rt : List O} {v : V} {x : W} {γ δ : Type} {rel2 : Hp → List Addr → δ → γ → Prop} {k : D → List O → Ou γ} {Q2 : δ → Hp → Prop} {P : Prop}
    (R : Rel K w B Hs ρ rt H) (d : WD K w Hs ρ v x) (h : PEx K w B Wx Hs ρ σ rel2 ((vOf x rt).bind k) Q2)
    (hk : ∀ y rt' Hs', Ext Hs ρ Hs' ρ → Rel K w B Hs' ρ rt' H → Den K w Hs' v y → PEx K w B Wx Hs' ρ σ rel2 (k y rt') Q2 → P) : P := by
  cases e : vOf x rt with
  | ok y rt' =>
    obtain ⟨Hs', e1, R1, d1⟩ := vOf_ok R d y rt' e
    rw [e] at h
    exact hk y rt' Hs' e1 R1 d1 (PEx.ext (o := k y rt') h e1)
  | ex c fs rt' => exact (vOf_noex e).elim
  | no => rw [e] at h; exact h.elim

/-! ### between two turns of a loop: names forgotten, roots that no name holds dropped -/
def ixOf (n : Nat) : List Nat → Nat
  | [] => 0
  | m :: l => if n = m then 0 else ixOf n l + 1
theorem ixOf_at {n : Nat} : ∀ {l : List Nat}, n ∈ l → l[ixOf n l]? = some n
  | [], h => by cases h
  | m :: l, h => by
    unfold ixOf
    by_cases e : n = m
    · rw [if_pos e]; simp [e]
    · rw [if_neg e]
      rcases List.mem_cons.mp h with h | h
      · exact absurd h e
      · simpa using ixOf_at h
def kill : List Nat → Sl → Sl
  | [], sl => sl
  | k :: ks, sl => kill ks (sl.set k none)
def news (L : Nat) : Sl → List Nat
  | [] => []
  | some (.r n) :: sl => if n < L ∨ n ∈ news L sl then news L sl else n :: news L sl
  | _ :: sl => news L sl
def gcW (L : Nat) (ns : List Nat) : W → W
  | .d x => .d x
  | .r n => if n < L then .r n else .r (L + ixOf n ns)
def gcSl (L : Nat) (sl : Sl) : Sl := sl.map (Option.map (gcW L (news L sl)))
def gcRt (L : Nat) (sl : Sl) (rt : List O) : List O := rt.take L ++ (news L sl).map fun n => rt.getD n (.d .non)
section
variable {K : PySem.W.Frag} {w : World} {B : Bnd} {Hs H : Hp} {ρ : List Addr} {rt : List O} {σ : L2.St} {sl : Sl}
theorem SlD.kill : ∀ (ks : List Nat) {sl : Sl}, SlD K w Hs ρ σ sl → SlD K w Hs ρ σ (VE.kill ks sl)
  | [], _, h => h
  | k :: ks, sl, h => by
    refine SlD.kill ks ⟨by simpa using h.len, fun i x e => ?_⟩
    by_cases hk : k = i
    · subst hk
      by_cases hl : k < sl.length
      · rw [List.getElem?_set_self hl] at e; cases e
      · rw [List.getElem?_eq_none (by simp; omega)] at e; cases e
    · rw [List.getElem?_set_ne hk] at e
      exact h.at_ i x e
theorem news_ge {L : Nat} : ∀ {sl : Sl} {n : Nat}, n ∈ news L sl → L ≤ n
  | [], _, h => by cases h
  | none :: sl, n, h => news_ge (sl := sl) h
  | some (.d x) :: sl, n, h => news_ge (sl := sl) h
  | some (.r m) :: sl, n, h => by
    unfold news at h
    split at h
    · exact news_ge (sl := sl) h
    · rename_i q
      rcases List.mem_cons.mp h with h | h
      · subst h
        exact Nat.le_of_not_lt fun z => q (.inl z)
      · exact news_ge (sl := sl) h
theorem news_nodup {L : Nat} : ∀ {sl : Sl}, (news L sl).Nodup
  | [] => List.nodup_nil
  | none :: sl => news_nodup (sl := sl)
  | some (.d x) :: sl => news_nodup (sl := sl)
  | some (.r m) :: sl => by
    unfold news
    split
    · exact news_nodup (sl := sl)
    · rename_i q
      exact List.nodup_cons.mpr ⟨fun z => q (.inr z), news_nodup (sl := sl)⟩
theorem news_mem {L : Nat} : ∀ {sl : Sl} {i n : Nat}, sl[i]? = some (some (.r n)) → L ≤ n → n ∈ news L sl
  | [], _, _, h, _ => by simp at h
  | none :: sl, 0, n, h, _ => by simp at h
  | some (.d x) :: sl, 0, n, h, _ => by simp at h
  | some (.r m) :: sl, 0, n, h, hl => by
    simp at h
    subst h
    unfold news
    split
    · rename_i q
      rcases q with q | q
      · omega
      · exact q
    · exact List.mem_cons_self
  | none :: sl, i + 1, n, h, hl => news_mem (sl := sl) (i := i) (by simpa using h) hl
  | some (.d x) :: sl, i + 1, n, h, hl => news_mem (sl := sl) (i := i) (by simpa using h) hl
  | some (.r m) :: sl, i + 1, n, h, hl => by
    have q := news_mem (sl := sl) (i := i) (L := L) (n := n) (by simpa using h) hl
    unfold news
    split
    · exact q
    · exact List.mem_cons_of_mem _ q
theorem news_in {L : Nat} : ∀ {sl : Sl} {n : Nat}, n ∈ news L sl → ∃ i : Nat, sl[i]? = some (some (W.r n))
  | [], _, h => by cases h
  | none :: sl, n, h => let ⟨i, e⟩ := news_in (sl := sl) h; ⟨i + 1, by simpa using e⟩
  | some (.d x) :: sl, n, h => let ⟨i, e⟩ := news_in (sl := sl) h; ⟨i + 1, by simpa using e⟩
  | some (.r m) :: sl, n, h => by
    unfold news at h
    split at h
    · obtain ⟨i, e⟩ := news_in (sl := sl) h
      exact ⟨i + 1, by simpa using e⟩
    · rcases List.mem_cons.mp h with h | h
      · subst h; exact ⟨0, rfl⟩
      · obtain ⟨i, e⟩ := news_in (sl := sl) h
        exact ⟨i + 1, by simpa using e⟩
theorem gc_ok {L : Nat} (R : Rel K w B Hs ρ rt H) (S : SlD K w Hs ρ σ sl) (hL : L ≤ rt.length) : ∃ t, Rel K w B Hs (ρ.take L ++ t) (gcRt L sl rt) H ∧ SlD K w Hs (ρ.take L ++ t) σ (gcSl L sl) := by
  have rng : ∀ n ∈ news L sl, n < rt.length := fun n hn => by
    obtain ⟨i, e⟩ := news_in hn
    obtain ⟨v, _, a, ha, _⟩ := S.at_ i _ e
    rw [← R.len]
    exact (List.getElem?_eq_some_iff.mp ha).1
  have q := R.picked (js := List.range L ++ news L sl)
    (by rw [List.nodup_append]; exact ⟨List.nodup_range, news_nodup, fun x hx y hy => by have := List.mem_range.mp hx; have := news_ge hy; omega⟩)
    (fun i hi => by
      rcases List.mem_append.mp hi with hi | hi
      · have := List.mem_range.mp hi; omega
      · exact rng i hi)
  have e1 : pk (List.range L ++ news L sl) ρ 0 = ρ.take L ++ (news L sl).map fun n => ρ.getD n 0 := by
    have := pk_range (d := (0 : Addr)) (l := ρ) (k := L) (by rw [R.len]; omega)
    unfold pk at this ⊢
    rw [List.map_append, this]
  have e2 : pk (List.range L ++ news L sl) rt (.d .non) = gcRt L sl rt := by
    have := pk_range (d := O.d .non) (l := rt) (k := L) hL
    unfold pk gcRt at *
    rw [List.map_append, this]
  rw [e1, e2] at q
  refine ⟨_, q, ⟨by simpa [gcSl] using S.len, fun i x e => ?_⟩⟩
  unfold gcSl at e
  rw [List.getElem?_map] at e
  obtain ⟨o, ho, e⟩ := Option.map_eq_some_iff.mp e
  cases o with
  | none => cases e
  | some y =>
    cases e
    obtain ⟨v, e3, d⟩ := S.at_ i y ho
    refine ⟨v, e3, ?_⟩
    cases y with
    | d y => exact d
    | r n =>
      obtain ⟨a, ha, rfl⟩ := d
      show WD K w Hs _ (V.ref a) (if n < L then W.r n else W.r (L + ixOf n (news L sl)))
      have hl : (ρ.take L).length = L := by rw [List.length_take, R.len]; omega
      by_cases hn : n < L
      · rw [if_pos hn]
        exact ⟨a, by rw [List.getElem?_append_left (by omega), List.getElem?_take, if_pos hn]; exact ha, rfl⟩
      · rw [if_neg hn]
        refine ⟨a, ?_, rfl⟩
        have hm := ixOf_at (news_mem (L := L) ho (Nat.le_of_not_lt hn))
        rw [List.getElem?_append_right (by omega), hl, Nat.add_sub_cancel_left, List.getElem?_map, hm]
        simp [List.getD_eq_getElem?_getD, ha]
end

/-- the same, the end told at a base behind -/
theorem PEx.seqB {K : PySem.W.Frag} {w : World} {B : Bnd} {Wx : WX} {Hs0 Hs : Hp} {ρ0 ρ : List Addr} {σ : L2.St} {α β : Type} {rel : Hp → List Addr → β → α → Prop} {o : Ou α} {sl : Sl} {k : α → List O → Os} {Q : β → Hp → Prop} {D : Ends} (S : SlD K w Hs ρ σ sl) (e : Ext Hs0 ρ0 Hs ρ)
    (h : PSx K w B Wx Hs0 ρ0 σ.length (o.seq sl k) D) (hk : ∀ x rt v Hs' ρ' H', Ext Hs ρ Hs' ρ' → Rel K w B Hs' ρ' rt H' → rel Hs' ρ' v x → PSx K w B Wx Hs0 ρ0 σ.length (k x rt) D → Q v H') : PEx K w B Wx Hs ρ σ rel o Q := by
  cases o with
  | ok x rt => exact fun v Hs2 ρ2 H2 e2 r2 d2 => hk x rt v Hs2 ρ2 H2 e2 r2 d2 h
  | ex c fs rt => exact fun d Hs2 ρ2 H2 e2 r2 x2 => h d Hs2 ρ2 σ H2 (e.trans e2) r2 x2 (S.mono e2) rfl
  | no => exact h
/-! ### what a for walks -/
/-- the items of J are these -/
structure ItOk (K : PySem.W.Frag) (w : World) (Hs : Hp) (J : It) (xs : List D) : Prop where
  ex : ∃ G Y, Walk J xs.length G Y ∧ (∀ H, Same Hs H → G H) ∧ ∀ i H v H', i < xs.length → Y i H v H' → ∀ Hs1, Same Hs Hs1 → Same Hs1 H →
    ∃ x, xs[i]? = some x ∧ ((H' = H ∧ Den K w Hs1 v x) ∨ ∃ T o, H T = none ∧ H' = upd H T o ∧ Den K w (upd Hs1 T o) v x)
structure VI (X : Cx) (Wx : WX) (tg iter : Expr) (m : Ex (List D)) : Prop where
  ex : ∃ wi, PI X tg iter wi ∧ ∀ (B : Bnd) (Hs : Hp) (ρ : List Addr) (sl : Sl) (rt : List O) (σ : L2.St) (H : Hp) (Q : It → Hp → Prop), Rel X.K X.w B Hs ρ rt H → SlD X.K X.w Hs ρ σ sl →
    PEx X.K X.w B Wx Hs ρ σ (fun h _ J xs => ItOk X.K X.w h J xs) (m sl rt) Q → wi σ H Q
/-- behind a turn -/
def turnEnd (ks : List Nat) (L : Nat) (k : Sl → List O → Os) (sl : Sl) (rt : List O) : Os := k (gcSl L (kill ks sl)) (gcRt L (kill ks sl) rt)
def forL (ks : List Nat) (L : Nat) (g : Gx) (body : Sx) : List D → Sx
  | [], sl, rt => .nx sl rt
  | x :: xs, sl, rt => (g (.d x) sl rt).noex.seq sl fun sl rt => match body sl rt with
    | .nx sl rt => turnEnd ks L (forL ks L g body xs) sl rt
    | .ct sl rt => turnEnd ks L (forL ks L g body xs) sl rt
    | .bk sl rt => turnEnd ks L .nx sl rt
    | .re x rt => .re x rt
    | .ex c fs sl rt => .ex c fs sl rt
    | .no => .no
/-- a for; ks: the names that no later turn reads -/
def sFor (ks : List Nat) (it : Ex (List D)) (g : Gx) (body : Sx) : Sx := fun sl rt => (it sl rt).seq sl fun xs rt => forL ks rt.length g body xs sl rt
/-- the state of a walk -/
def Stt (X : Cx) (B : Bnd) (Hs : Hp) (ρ : List Addr) (n : Nat) (σ : L2.St) (H : Hp) (P : Sl → List O → Prop) : Prop :=
  ∃ Hs' ρ' sl rt, Ext Hs ρ Hs' ρ' ∧ Rel X.K X.w B Hs' ρ' rt H ∧ SlD X.K X.w Hs' ρ' σ sl ∧ σ.length = n ∧ P sl rt
theorem turn_ok {X : Cx} {B : Bnd} {Hs Hs' : Hp} {ρ ρ' : List Addr} {n : Nat} {σ : L2.St} {H : Hp} {sl : Sl} {rt : List O} {ks : List Nat} {P : Sl → List O → Prop} (e : Ext Hs ρ Hs' ρ') (R : Rel X.K X.w B Hs' ρ' rt H) (S : SlD X.K X.w Hs' ρ' σ sl) (l : σ.length = n)
    (p : P (gcSl ρ.length (kill ks sl)) (gcRt ρ.length (kill ks sl) rt)) : Stt X B Hs ρ n σ H P := by
  obtain ⟨s, t, rfl⟩ := e
  obtain ⟨t2, R2, S2⟩ := gc_ok (L := ρ.length) R (S.kill ks) (by rw [← R.len]; simp)
  rw [List.take_left] at R2 S2
  exact ⟨Hs', _, _, _, ⟨s, t2, rfl⟩, R2, S2, l, p⟩
theorem vs_for {X : Cx} {Wx : WX} {tg iter : Expr} {body : List Stmt} {it : Ex (List D)} {g : Gx} {m : Sx} {pos : Pos} (ks : List Nat) (hp : PassesOwn (model X.prog X.w) X.A X.env X.xe) (hc : X.calm = true) (hi : VI X Wx tg iter it) (hg : VG X Wx tg g) (hb : VSs X Wx body m)
    (hs : ∀ x, foldedSetIterable iter X.env x = pure x := by intro _; rfl) : VS X Wx (.For tg iter body [] pos) (sFor ks it g m) := by
  obtain ⟨wi, i1, i2⟩ := hi.ex
  obtain ⟨tg', g1, g2⟩ := hg.ex
  obtain ⟨tb, b1, b2⟩ := hb.ex
  refine ⟨_, ps_for hp hc i1 g1 b1 hs, fun B Hs ρ sl rt σ H D R S p => ?_⟩
  refine i2 B Hs ρ sl rt σ H _ R S (PEx.seq S p fun xs rt1 J Hs1 ρ1 H1 e1 R1 d1 p1 => ?_)
  obtain ⟨G, Y, hw, hG, hY⟩ := d1.ex
  rw [← R1.len] at p1
  refine for_it hw (fun i σ' H' => Stt X B Hs1 ρ1 σ.length σ' H' fun sl' rt' => PSx X.K X.w B Wx Hs1 ρ1 σ.length (forL ks ρ1.length g m (xs.drop i) sl' rt') D)
    ⟨Hs1, ρ1, sl, rt1, Ext.refl, R1, S.mono e1, rfl, p1⟩ (fun i σ' H' _ ⟨Hs', ρ', sl', rt', e2, R2, _⟩ => hG H' (Same.trans' e2.same R2.same)) ?_ ?_
  · rintro i v σ' H' H2 hi ⟨Hs', ρ', sl', rt', e2, R2, S2, l2, p2⟩ y
    obtain ⟨x, hx, hd⟩ := hY i H' v H2 hi y Hs' e2.same R2.same
    have hdrop : xs.drop i = x :: xs.drop (i + 1) := by
      obtain ⟨q1, q2⟩ := List.getElem?_eq_some_iff.mp hx
      rw [List.drop_eq_getElem_cons q1, q2]
    obtain ⟨Hs3, e3, R3, d3⟩ : ∃ Hs3, Ext Hs' ρ' Hs3 ρ' ∧ Rel X.K X.w B Hs3 ρ' rt' H2 ∧ Den X.K X.w Hs3 v x := by
      rcases hd with ⟨rfl, hd⟩ | ⟨T, o, hT, rfl, hd⟩
      · exact ⟨Hs', Ext.refl, R2, hd⟩
      · exact ⟨upd Hs' T o, Ext.of_same (same_upd (R2.fresh hT).1), R2.alloc hT, hd⟩
    rw [hdrop] at p2
    unfold forL at p2
    refine g2 B Hs3 ρ' (.d x) v sl' rt' σ' H2 _ R3 (S2.mono e3) d3 ?_
    cases hgo : g (.d x) sl' rt' with
    | no => rw [hgo] at p2; exact p2.elim
    | ex c fs rt4 => rw [hgo] at p2; exact p2.elim
    | ok sl4 rt4 =>
      rw [hgo] at p2
      intro σ4 Hs4 ρ4 H4 e4 R4 d4
      have l4 : σ4.length = σ.length := d4.2.trans l2
      refine b2 B Hs4 ρ4 sl4 rt4 σ4 H4 _ R4 d4.1 ?_
      have e14 := (e2.trans e3).trans e4
      rw [l4]
      simp only [Ou.noex, Ou.seq] at p2
      cases hbo : m sl4 rt4 with
      | nx sl5 rt5 =>
        rw [hbo] at p2
        exact fun Hs5 ρ5 σ5 H5 e5 R5 S5 l5 => turn_ok (e14.trans e5) R5 S5 l5 p2
      | ct sl5 rt5 =>
        rw [hbo] at p2
        exact fun Hs5 ρ5 σ5 H5 e5 R5 S5 l5 => turn_ok (e14.trans e5) R5 S5 l5 p2
      | bk sl5 rt5 =>
        rw [hbo] at p2
        intro Hs5 ρ5 σ5 H5 e5 R5 S5 l5
        obtain ⟨Hs6, ρ6, sl6, rt6, e6, R6, S6, l6, p6⟩ := turn_ok (ks := ks) (P := fun sl rt => PSx X.K X.w B Wx Hs1 ρ1 σ.length (.nx sl rt) D) (e14.trans e5) R5 S5 l5 p2
        exact p6 Hs6 ρ6 σ5 H5 e6 R6 S6 l6
      | re x5 rt5 => rw [hbo] at p2; exact PSx.ext (o := .re x5 rt5) p2 e14
      | ex c fs sl5 rt5 => rw [hbo] at p2; exact PSx.ext (o := .ex c fs sl5 rt5) p2 e14
      | no => rw [hbo] at p2; exact p2.elim
  · rintro σ' H' ⟨Hs', ρ', sl', rt', e2, R2, S2, l2, p2⟩
    rw [List.drop_eq_nil_of_le (Nat.le_refl _)] at p2
    exact p2 Hs' ρ' σ' H' e2 R2 S2 l2

/-! ### while -/
def whileN (ks : List Nat) (L : Nat) (c : Ex Bool) (body : Sx) : Nat → Sx
  | 0, _, _ => .no
  | n + 1, sl, rt => (c sl rt).seq sl fun b rt => if b = true then (match body sl rt with
    | .nx sl rt => turnEnd ks L (whileN ks L c body n) sl rt
    | .ct sl rt => turnEnd ks L (whileN ks L c body n) sl rt
    | .bk sl rt => turnEnd ks L .nx sl rt
    | .re x rt => .re x rt
    | .ex c fs sl rt => .ex c fs sl rt
    | .no => .no) else .nx sl rt
open Classical in
/-- a while that ends -/
noncomputable def whileX (ks : List Nat) (L : Nat) (c : Ex Bool) (body : Sx) : Sx := fun sl rt => if h : ∃ n, whileN ks L c body n sl rt ≠ .no then whileN ks L c body (choose h) sl rt else .no
noncomputable def sWhile (ks : List Nat) (c : Ex Bool) (body : Sx) : Sx := fun sl rt => whileX ks rt.length c body sl rt
theorem whileN_mono {ks : List Nat} {L : Nat} {c : Ex Bool} {body : Sx} : ∀ {n k : Nat} {sl : Sl} {rt : List O}, whileN ks L c body n sl rt ≠ .no → n ≤ k → whileN ks L c body k sl rt = whileN ks L c body n sl rt
  | 0, _, _, _, h, _ => (h rfl).elim
  | n + 1, 0, _, _, _, hk => by omega
  | n + 1, k + 1, sl, rt, h, hk => by
    unfold whileN at h ⊢
    cases hc : c sl rt with
    | no => rfl
    | ex e fs rt1 => rfl
    | ok b rt1 =>
      simp only [hc, Ou.seq] at h ⊢
      cases b with
      | false => rfl
      | true =>
        simp only [if_true] at h ⊢
        cases hb : body sl rt1 <;> simp only [hb] at h ⊢
        · exact whileN_mono h (by omega)
        · exact whileN_mono h (by omega)
theorem whileX_of {ks : List Nat} {L : Nat} {c : Ex Bool} {body : Sx} {n : Nat} {sl : Sl} {rt : List O} {o : Os} (h : whileN ks L c body n sl rt = o) (ho : o ≠ .no) : whileX ks L c body sl rt = o := by
  have hx : ∃ n, whileN ks L c body n sl rt ≠ .no := ⟨n, by rw [h]; exact ho⟩
  unfold whileX
  rw [dif_pos hx]
  have h1 := Classical.choose_spec hx
  have h2 : whileN ks L c body n sl rt ≠ .no := by rw [h]; exact ho
  rw [← h]
  rcases Nat.le_total (Classical.choose hx) n with q | q
  · exact (whileN_mono h1 q).symm
  · exact whileN_mono h2 q
/-- one turn -/
theorem whileX_step {ks : List Nat} {L : Nat} {c : Ex Bool} {body : Sx} {sl sl2 : Sl} {rt rt1 rt2 : List O} {o : Os} (hc : c sl rt = .ok true rt1) (hb : body sl rt1 = .nx sl2 rt2) (h : whileX ks L c body (gcSl L (kill ks sl2)) (gcRt L (kill ks sl2) rt2) = o) (ho : o ≠ .no) : whileX ks L c body sl rt = o := by
  unfold whileX at h
  split at h
  · rename_i hx
    refine whileX_of (n := Classical.choose hx + 1) ?_ ho
    unfold whileN
    simp only [hc, Ou.seq, if_true, hb, turnEnd]
    exact h
  · exact (ho h.symm).elim
theorem whileX_end {ks : List Nat} {L : Nat} {c : Ex Bool} {body : Sx} {sl : Sl} {rt rt1 : List O} (hc : c sl rt = .ok false rt1) : whileX ks L c body sl rt = .nx sl rt1 := by
  refine whileX_of (n := 1) ?_ (fun h => nomatch h)
  unfold whileN
  simp only [hc, Ou.seq]
  rfl
theorem vs_while {X : Cx} {Wx : WX} {c : Expr} {body : List Stmt} {mc : Ex Bool} {m : Sx} {pos : Pos} (ks : List Nat) (hp : PassesOwn (model X.prog X.w) X.A X.env X.xe) (hc : VT X Wx c mc) (hb : VSs X Wx body m) : VS X Wx (.While c body [] pos) (sWhile ks mc m) := by
  obtain ⟨tc, c1, c2⟩ := hc.ex
  obtain ⟨tb, b1, b2⟩ := hb.ex
  refine ⟨_, ps_while hp c1 b1, fun B Hs ρ sl rt σ H D R S p => ?_⟩
  unfold sWhile whileX at p
  rw [← R.len] at p
  by_cases hx : ∃ n, whileN ks ρ.length mc m n sl rt ≠ .no
  · rw [dif_pos hx] at p
    refine ⟨fun k σ' H' => Stt X B Hs ρ σ.length σ' H' fun sl' rt' => PSx X.K X.w B Wx Hs ρ σ.length (whileN ks ρ.length mc m k sl' rt') D, ⟨_, Hs, ρ, sl, rt, Ext.refl, R, S, rfl, p⟩, ?_⟩
    rintro k σ' H' ⟨Hs1, ρ1, sl1, rt1, e1, R1, S1, l1, p1⟩
    cases k with
    | zero => exact p1.elim
    | succ k =>
      unfold whileN at p1
      rw [← l1] at p1
      refine c2 B Hs1 ρ1 sl1 rt1 σ' H' _ R1 S1 (PEx.seqB S1 e1 p1 fun b rt2 v Hs2 ρ2 H2 e2 R2 d2 p2 => ?_)
      subst d2
      cases v with
      | false => exact p2 Hs2 ρ2 σ' H2 (e1.trans e2) R2 (S1.mono e2) rfl
      | true =>
        refine ⟨fun σ' H' => Stt X B Hs ρ σ.length σ' H' fun sl' rt' => PSx X.K X.w B Wx Hs ρ σ.length (whileN ks ρ.length mc m k sl' rt') D, fun σ' H' h => ⟨k, Nat.lt_succ_self k, h⟩, ?_⟩
        refine b2 B Hs2 ρ2 sl1 rt2 σ' H2 _ R2 (S1.mono e2) ?_
        simp only [if_true] at p2
        rw [l1] at p2 ⊢
        have e02 := e1.trans e2
        cases hbo : m sl1 rt2 with
        | nx sl5 rt5 =>
          rw [hbo] at p2
          exact fun Hs5 ρ5 σ5 H5 e5 R5 S5 l5 => turn_ok (e02.trans e5) R5 S5 l5 p2
        | ct sl5 rt5 =>
          rw [hbo] at p2
          exact fun Hs5 ρ5 σ5 H5 e5 R5 S5 l5 => turn_ok (e02.trans e5) R5 S5 l5 p2
        | bk sl5 rt5 =>
          rw [hbo] at p2
          intro Hs5 ρ5 σ5 H5 e5 R5 S5 l5
          obtain ⟨Hs6, ρ6, sl6, rt6, e6, R6, S6, l6, p6⟩ := turn_ok (ks := ks) (P := fun sl rt => PSx X.K X.w B Wx Hs ρ σ.length (.nx sl rt) D) (e02.trans e5) R5 S5 l5 p2
          exact p6 Hs6 ρ6 σ5 H5 e6 R6 S6 l6
        | re x5 rt5 => rw [hbo] at p2; exact PSx.ext (o := .re x5 rt5) p2 e02
        | ex c fs sl5 rt5 => rw [hbo] at p2; exact PSx.ext (o := .ex c fs sl5 rt5) p2 e02
        | no => rw [hbo] at p2; exact p2.elim
  · rw [dif_neg hx] at p
    exact p.elim
end VE

set_option maxRecDepth 100000
set_option maxHeartbeats 1000000
namespace VE
open PySem PySem.Spec L2

section
variable {K : PySem.W.Frag} {w : World} {B : Bnd} {Hs Hs' H H' : Hp} {ρ : List Addr} {rt : List O}
/-- the roots at js, changed -/
def put : List Nat → List O → List O → List O
  | j :: js, r :: rs, rt => put js rs (rt.set j r)
  | _, _, rt => rt
theorem put_length : ∀ {js : List Nat} {rs rt : List O}, (put js rs rt).length = rt.length
  | [], _, _ => by simp [put]
  | _ :: _, [], _ => by simp [put]
  | j :: js, r :: rs, rt => by rw [put, put_length]; simp
theorem put_out : ∀ {js : List Nat} {rs rt : List O} {i : Nat}, i ∉ js → (put js rs rt)[i]? = rt[i]?
  | [], _, _, _, _ => by simp [put]
  | _ :: _, [], _, _, _ => by simp [put]
  | j :: js, r :: rs, rt, i, h => by
    rw [put, put_out (fun z => h (List.mem_cons_of_mem _ z)), List.getElem?_set_ne (fun z => h (by rw [z]; exact List.mem_cons_self))]
theorem put_at : ∀ {js : List Nat} {rs rt : List O} {k j : Nat}, js.Nodup → js[k]? = some j → j < rt.length → k < rs.length → (put js rs rt)[j]? = rs[k]?
  | [], _, _, _, _, _, h, _, _ => by simp at h
  | _ :: _, [], _, _, _, _, _, _, h => by simp at h
  | j0 :: js, r :: rs, rt, 0, j, hn, h, hl, _ => by
    simp at h
    subst h
    rw [put, put_out (List.nodup_cons.mp hn).1, List.getElem?_set_self hl]
    rfl
  | j0 :: js, r :: rs, rt, k + 1, j, hn, h, hl, hk => by
    rw [put, put_at (k := k) (List.nodup_cons.mp hn).2 (by simpa using h) (by simpa using hl) (by simpa using hk)]
    simp

/-- into a call with some of the roots, and back -/
theorem Rel.enter (R : Rel K w B Hs ρ rt H) {js : List Nat} (hn : js.Nodup) (hr : ∀ j ∈ js, j < rt.length) :
    ∃ M, Rel K w ⟨H, Hs, M⟩ Hs (pk js ρ 0) (pk js rt (.d .non)) H ∧
      ∀ Hs' t rs H', Same Hs Hs' → Rel K w ⟨H, Hs, M⟩ Hs' (pk js ρ 0 ++ t) rs H' → Rel K w B Hs' (ρ ++ t) (put js rs rt ++ rs.drop js.length) H' := by
  obtain ⟨F, hF⟩ := id R.own
  have RS := R.picked hn hr
  have mM : ∀ b, b ∈ (js.map F).flatten ↔ ∃ j ∈ js, b ∈ F j := fun b => by
    rw [List.mem_flatten]
    exact ⟨fun ⟨l, h1, h2⟩ => let ⟨j, hj, e⟩ := List.mem_map.mp h1; ⟨j, hj, by rw [e]; exact h2⟩, fun ⟨j, hj, hb⟩ => ⟨F j, List.mem_map_of_mem hj, hb⟩⟩
  refine ⟨(js.map F).flatten, ⟨RS.same, RS.len, ⟨fat F js, fun i o e => ?_⟩, fun b o e => .inr e, fun b e => e, fun b e => .inl e⟩, fun Hs' t rs H' ss R' => ?_⟩
  · obtain ⟨j, hj, ho⟩ := pk_of e hr
    obtain ⟨a, e1, h1, h2, h3, h4⟩ := hF j o ho
    rw [fat_at hj]
    refine ⟨a, pk_get hj e1, h1, h2, fun b hb => ⟨(h3 b hb).1, .inl ((mM b).mpr ⟨j, List.mem_of_getElem? hj, hb⟩)⟩, fun k hk hki b hb => ?_⟩
    rw [pk_length] at hk
    obtain ⟨j2, hj2⟩ : ∃ j2, js[k]? = some j2 := ⟨js[k], by simp [hk]⟩
    rw [fat_at hj2]
    exact h4 j2 (hr j2 (List.mem_of_getElem? hj2)) (fun z => hki (nodup_at hn hj2 (by rw [z]; exact hj))) b hb
  · obtain ⟨F', hF'⟩ := R'.own
    have hM : ∀ b, b ∈ (js.map F).flatten → H b ≠ none ∧ Hs b = none ∧ (b ∈ B.M ∨ B.H0 b = none) := fun b hb => by
      obtain ⟨j, hj, hb⟩ := (mM b).mp hb
      obtain ⟨o, ho⟩ : ∃ o, rt[j]? = some o := ⟨rt[j]'(hr j hj), by simp [hr j hj]⟩
      obtain ⟨a, e1, h1, h2, h3, h4⟩ := hF j o ho
      exact ⟨h1.there b hb, h3 b hb⟩
    have hlen : rs.length = js.length + t.length := by
      have := R'.len
      rw [List.length_append, pk_length] at this
      omega
    have same' : Same Hs' H' := R'.same
    -- what is not at js
    have outM : ∀ i o, rt[i]? = some o → i ∉ js → ∀ b ∈ F i, b ∉ (js.map F).flatten := fun i o ho hi b hb hm => by
      obtain ⟨j, hj, hb2⟩ := (mM b).mp hm
      obtain ⟨a, e1, h1, h2, h3, h4⟩ := hF i o ho
      exact h4 j (hr j hj) (fun z => hi (by rw [← z]; exact hj)) b hb hb2
    have newF : ∀ k o, rs[k]? = some o → ∀ b ∈ F' k, b ∈ (js.map F).flatten ∨ H b = none := fun k o ho b hb => by
      obtain ⟨a, e1, h1, h2, h3, h4⟩ := hF' k o ho
      exact (h3 b hb).2
    have cls : ∀ i, (∃ k, js[k]? = some i) ∨ i ∉ js := fun i => by
      by_cases h : i ∈ js
      · exact .inl (List.mem_iff_getElem?.mp h)
      · exact .inr h
    let G : Nat → List Addr := fun i => if i < rt.length then (if i ∈ js then F' (js.idxOf i) else F i) else F' (js.length + (i - rt.length))
    have G1 : ∀ i k, i < rt.length → js[k]? = some i → G i = F' k := fun i k hi hk => by
      show (if i < rt.length then (if i ∈ js then F' (js.idxOf i) else F i) else F' (js.length + (i - rt.length))) = F' k
      have hm := List.mem_of_getElem? hk
      rw [if_pos hi, if_pos hm]
      have : js[js.idxOf i]? = some i := by
        rw [List.getElem?_eq_some_iff]
        exact ⟨List.idxOf_lt_length_iff.mpr hm, by simp⟩
      rw [nodup_at hn this hk]
    have G2 : ∀ i, i < rt.length → i ∉ js → G i = F i := fun i hi hm => by
      show (if i < rt.length then (if i ∈ js then F' (js.idxOf i) else F i) else F' (js.length + (i - rt.length))) = F i
      rw [if_pos hi, if_neg hm]
    have G3 : ∀ i, ¬ i < rt.length → G i = F' (js.length + (i - rt.length)) := fun i hi => by
      show (if i < rt.length then (if i ∈ js then F' (js.idxOf i) else F i) else F' (js.length + (i - rt.length))) = _
      rw [if_neg hi]
    -- each index by its kind
    have kinds : ∀ i, i < rt.length + t.length → (∃ k, js[k]? = some i ∧ i < rt.length ∧ G i = F' k ∧ k < js.length) ∨ (i ∉ js ∧ i < rt.length ∧ G i = F i) ∨ (rt.length ≤ i ∧ G i = F' (js.length + (i - rt.length))) := fun i hi => by
      by_cases hlt : i < rt.length
      · rcases cls i with ⟨k, hk⟩ | hm
        · exact .inl ⟨k, hk, hlt, G1 i k hlt hk, (List.getElem?_eq_some_iff.mp hk).1⟩
        · exact .inr (.inl ⟨hm, hlt, G2 i hlt hm⟩)
      · exact .inr (.inr ⟨by omega, G3 i hlt⟩)
    have lenN : (put js rs rt ++ rs.drop js.length).length = rt.length + t.length := by
      rw [List.length_append, put_length, List.length_drop]; omega
    refine ⟨same', ?_, ⟨G, fun i o e => ?_⟩, fun b o e => ?_, fun b e => ?_, fun b e => ?_⟩
    · rw [lenN, List.length_append, R.len]
    · have hi : i < rt.length + t.length := by rw [← lenN]; exact (List.getElem?_eq_some_iff.mp e).1
      -- the footprint of another index is elsewhere
      have apart : ∀ k o, rs[k]? = some o → (∀ j, j < rt.length + t.length → j ≠ i → (∀ k', js[k']? = some j → k' ≠ k) → (rt.length ≤ j → js.length + (j - rt.length) ≠ k) → ∀ b ∈ F' k, b ∉ G j) := fun k o ho j hj hji hk1 hk2 b hb hbj => by
        obtain ⟨a, e1, h1, h2, h3, h4⟩ := hF' k o ho
        rcases kinds j hj with ⟨k', q1, q2, q3, q4⟩ | ⟨q1, q2, q3⟩ | ⟨q1, q2⟩
        · rw [q3] at hbj
          exact h4 k' (by omega) (hk1 k' q1) b hb hbj
        · rw [q3] at hbj
          obtain ⟨o2, ho2⟩ : ∃ o2, rt[j]? = some o2 := ⟨rt[j], by simp [q2]⟩
          obtain ⟨_, _, g1, _⟩ := hF j o2 ho2
          rcases newF k o ho b hb with z | z
          · exact outM j o2 ho2 q1 b hbj z
          · exact g1.there b hbj z
        · rw [q2] at hbj
          exact h4 (js.length + (j - rt.length)) (by omega) (hk2 q1) b hb hbj
      rcases kinds i hi with ⟨k, q1, q2, q3, q4⟩ | ⟨q1, q2, q3⟩ | ⟨q1, q2⟩
      · rw [List.getElem?_append_left (by rw [put_length]; exact q2), put_at hn q1 q2 (by omega)] at e
        obtain ⟨a, e1, h1, h2, h3, h4⟩ := hF' k o e
        rw [q3]
        obtain ⟨a2, ha2⟩ : ∃ a2, ρ[i]? = some a2 := ⟨ρ[i]'(by rw [R.len]; exact q2), by simp [R.len, q2]⟩
        rw [List.getElem?_append_left (by rw [pk_length]; exact q4), pk_get q1 ha2] at e1
        refine ⟨a, by rw [List.getElem?_append_left (by rw [R.len]; exact q2), ha2]; exact e1, h1, h2, fun b hb => ⟨(h3 b hb).1, ?_⟩, fun j hj hji => ?_⟩
        · rcases (h3 b hb).2 with z | z
          · exact (hM b z).2.2
          · exact .inr (R.fresh z).2
        · rw [lenN] at hj
          refine apart k o e j hj hji (fun k' hk' z => ?_) fun hl => by omega
          subst z
          rw [q1] at hk'
          exact hji (Option.some.inj hk').symm
      · rw [List.getElem?_append_left (by rw [put_length]; exact q2), put_out q1] at e
        obtain ⟨a, e1, h1, h2, h3, h4⟩ := hF i o e
        rw [q3]
        have keep : ∀ b ∈ F i, H' b = H b := fun b hb => by
          cases hh : H b with
          | none => exact absurd hh (h1.there b hb)
          | some u =>
            rcases R'.frame b u hh with z | z
            · exact (outM i o e q1 b hb z).elim
            · exact z
        refine ⟨a, by rw [List.getElem?_append_left (by rw [R.len]; exact q2)]; exact e1, h1.mono ss keep, h2, fun b hb => ⟨?_, (h3 b hb).2⟩, fun j hj hji b hb hbj => ?_⟩
        · cases hh : Hs' b with
          | none => rfl
          | some u =>
            rcases R'.pers b (by rw [hh]; exact fun z => nomatch z) with z | z | z
            · exact absurd (h3 b hb).1 z
            · exact absurd z (h1.there b hb)
            · exact (outM i o e q1 b hb z).elim
        · rw [lenN] at hj
          rcases kinds j hj with ⟨k', r1, r2, r3, r4⟩ | ⟨r1, r2, r3⟩ | ⟨r1, r2⟩
          · rw [r3] at hbj
            obtain ⟨o2, ho2⟩ : ∃ o2, rs[k']? = some o2 := ⟨rs[k']'(by omega), by simp [show k' < rs.length by omega]⟩
            rcases newF k' o2 ho2 b hbj with z | z
            · exact outM i o e q1 b hb z
            · exact h1.there b hb z
          · rw [r3] at hbj
            exact h4 j r2 hji b hb hbj
          · rw [r2] at hbj
            obtain ⟨o2, ho2⟩ : ∃ o2, rs[js.length + (j - rt.length)]? = some o2 := ⟨rs[js.length + (j - rt.length)]'(by omega), by simp [show js.length + (j - rt.length) < rs.length by omega]⟩
            rcases newF _ o2 ho2 b hbj with z | z
            · exact outM i o e q1 b hb z
            · exact h1.there b hb z
      · rw [List.getElem?_append_right (by rw [put_length]; exact q1), put_length, List.getElem?_drop] at e
        obtain ⟨a, e1, h1, h2, h3, h4⟩ := hF' _ o e
        rw [q2]
        rw [List.getElem?_append_right (by rw [pk_length]; omega), pk_length, Nat.add_sub_cancel_left] at e1
        refine ⟨a, by rw [List.getElem?_append_right (by rw [R.len]; exact q1), R.len]; exact e1, h1, h2, fun b hb => ⟨(h3 b hb).1, ?_⟩, fun j hj hji => ?_⟩
        · rcases (h3 b hb).2 with z | z
          · exact (hM b z).2.2
          · exact .inr (R.fresh z).2
        · rw [lenN] at hj
          refine apart _ o e j hj hji (fun k' hk' => ?_) fun hl => by omega
          have := (List.getElem?_eq_some_iff.mp hk').1
          omega
    · rcases R.frame b o e with z | z
      · exact .inl z
      · rcases R'.frame b o z with y | y
        · rcases (hM b y).2.2 with x | x
          · exact .inl x
          · rw [x] at e; cases e
        · exact .inr y
    · exact R'.there b (R.there b e)
    · rcases R'.pers b e with z | z | z
      · exact R.pers b z
      · exact .inr (.inl (R.fresh z).2)
      · exact .inr ((hM b z).2.2.symm)
end
end VE

set_option maxRecDepth 100000
set_option maxHeartbeats 1000000
namespace VE
open PySem PySem.Spec L2

/-- a def's mirror: its arguments, the roots among them -/
abbrev FM := List W → List O → Ou W
def roots : List W → List Nat
  | [] => []
  | .d _ :: ws => roots ws
  | .r n :: ws => n :: roots ws
def renum (js : List Nat) : W → W
  | .d x => .d x
  | .r n => .r (ixOf n js)
def back (js : List Nat) (l : Nat) : W → W
  | .d x => .d x
  | .r j => if j < js.length then .r (js.getD j 0) else .r (l + (j - js.length))
def callR (js : List Nat) (rt : List O) (o : Ou W) : Ou W := match o with
  | .ok x rs => .ok (back js rt.length x) (put js rs rt ++ rs.drop js.length)
  | .ex c fs rs => .ex c fs (put js rs rt ++ rs.drop js.length)
  | .no => .no
def okRoots (js : List Nat) (l : Nat) : Bool := decide js.Nodup && js.all fun j => decide (j < l)
def callF (f : FM) (ws : List W) (rt : List O) : Ou W :=
  if okRoots (roots ws) rt.length = true then callR (roots ws) rt (f (ws.map (renum (roots ws))) (pk (roots ws) rt (.d .non))) else .no

/-- the promise of a def with this mirror -/
def spV (K : PySem.W.Frag) (w : World) (m : FM) (np : Nat) : Sp := fun vs H Q E => vs.length = np ∧
  ∃ M Hs ρ rt ws, Rel K w ⟨H, Hs, M⟩ Hs ρ rt H ∧ WDs K w Hs ρ vs ws ∧ PE1 K w ⟨H, Hs, M⟩ (fun c d _ H => E c d H) Hs ρ [] (m ws rt) Q

/-- the end of a def: the roots that came in, and the root that is handed back -/
def ret (k : Nat) (x : W) (rt : List O) : Ou W := match x with
  | .d x => .ok (.d x) (rt.take k)
  | .r j => if j < k then .ok (.r j) (rt.take k) else match rt[j]? with
    | some o => .ok (.r k) (rt.take k ++ [o])
    | none => .no
def mkF (n : Nat) (body : Sx) : FM := fun ws rt => match body (ws.map some ++ List.replicate (n - ws.length) none) rt with
  | .nx _ rt' => .ok (.d .non) (rt'.take rt.length)
  | .re x rt' => ret rt.length x rt'
  | .ex c fs _ rt' => .ex c fs (rt'.take rt.length)
  | _ => .no

section
variable {K : PySem.W.Frag} {w : World} {B : Bnd} {Hs Hs' H H' : Hp} {ρ ρ' : List Addr} {rt : List O}
theorem Rel.take (R : Rel K w B Hs ρ rt H) {k : Nat} (h : k ≤ rt.length) : Rel K w B Hs (ρ.take k) (rt.take k) H := by
  have q := R.picked (js := List.range k) List.nodup_range (fun j hj => by have := List.mem_range.mp hj; omega)
  rw [pk_range (by rw [R.len]; exact h), pk_range h] at q
  exact q
theorem Rel.take1 (R : Rel K w B Hs ρ rt H) {k j : Nat} {a : Addr} {o : O} (h : k ≤ j) (ha : ρ[j]? = some a) (ho : rt[j]? = some o) : Rel K w B Hs (ρ.take k ++ [a]) (rt.take k ++ [o]) H := by
  have hj : j < rt.length := (List.getElem?_eq_some_iff.mp ho).1
  have q := R.picked (js := List.range k ++ [j]) (by rw [List.nodup_append]; exact ⟨List.nodup_range, by simp, fun x hx y hy => by have := List.mem_range.mp hx; have := List.mem_singleton.mp hy; omega⟩)
    (fun i hi => by
      rcases List.mem_append.mp hi with hi | hi
      · have := List.mem_range.mp hi; omega
      · have := List.mem_singleton.mp hi; omega)
  have e1 : pk (List.range k ++ [j]) ρ 0 = ρ.take k ++ [a] := by
    have := pk_range (d := (0 : Addr)) (l := ρ) (k := k) (by rw [R.len]; omega)
    unfold pk at this ⊢
    rw [List.map_append, this]
    simp [List.getD_eq_getElem?_getD, ha]
  have e2 : pk (List.range k ++ [j]) rt (.d .non) = rt.take k ++ [o] := by
    have := pk_range (d := O.d .non) (l := rt) (k := k) (by omega)
    unfold pk at this ⊢
    rw [List.map_append, this]
    simp [List.getD_eq_getElem?_getD, ho]
  rw [e1, e2] at q
  exact q
end

theorem WDs.length {K : PySem.W.Frag} {w : World} {Hs : Hp} {ρ : List Addr} : ∀ {vs : List V} {xs : List W}, WDs K w Hs ρ vs xs → vs.length = xs.length
  | _, _, .nil => rfl
  | _, _, .cons _ t => by simp [WDs.length t]
theorem WDs.get {K : PySem.W.Frag} {w : World} {Hs : Hp} {ρ : List Addr} : ∀ {vs : List V} {xs : List W} {i : Nat} {x : W}, WDs K w Hs ρ vs xs → xs[i]? = some x → ∃ v, vs[i]? = some v ∧ WD K w Hs ρ v x
  | _, _, _, _, .nil, e => by simp at e
  | _, _, 0, _, .cons h _, e => by simp at e; subst e; exact ⟨_, rfl, h⟩
  | _, _, i + 1, _, .cons _ t, e => by
    obtain ⟨v, h1, h2⟩ := WDs.get (i := i) t (by simpa using e)
    exact ⟨v, by simpa using h1, h2⟩
theorem start_ok {K : PySem.W.Frag} {w : World} {Hs : Hp} {ρ : List Addr} {N : List Str} {vs : List V} {ws : List W} (h : WDs K w Hs ρ vs ws) : SlD K w Hs ρ (L2.start N vs) (ws.map some ++ List.replicate (N.length - ws.length) none) := by
  refine ⟨by simp only [L2.start, List.length_append, List.length_map, List.length_replicate, h.length], fun i x e => ?_⟩
  by_cases hi : i < ws.length
  · rw [List.getElem?_append_left (by simpa using hi), List.getElem?_map] at e
    obtain ⟨y, hy, e⟩ := Option.map_eq_some_iff.mp e
    cases e
    obtain ⟨v, h1, h2⟩ := h.get hy
    refine ⟨v, ?_, h2⟩
    unfold L2.start
    rw [List.getElem?_append_left (by simpa [h.length] using hi), List.getElem?_map, h1]
    rfl
  · rw [List.getElem?_append_right (by simpa using Nat.le_of_not_lt hi)] at e
    exact absurd (List.mem_of_getElem? e) (by simp)

/-- a def keeps its mirror's promise -/
theorem fn_v {P : Program} {w : World} {K : PySem.W.Frag} {mg : Str → Option Value} {base : Heap} {x qual : Str} {st : Stmt} {f : Addr} {fd : FuncData} {N ps : List Str} {k : Nat} {body : Sx} (F : Fun K x qual st f fd) (S : FnScope N ps (defScope st))
    (hbody : ∀ (cdv : Value) (A : Around) (outer : List Env) (s : Shared) (H : Hp) (E : XK), Room k (A.deeper (PyProof.Rows.envOfC qual (defScope st) s.heap.objs.size f cdv)) →
      VSs (cxOf (L2.CX P w) P w K mg base N qual (defScope st) f cdv A outer s H E) (fun c d _ H => E c d H) (defBody st) body) : FnOk P w K mg base (L2.CX P w) (k + 1) f fd ps (spV K w (mkF N.length body) ps.length) := by
  refine F.okX S (fun vs H Q E h => h.1) (fun cdv A outer s H vs Q E hr h => ?_)
  obtain ⟨t, h1, h2⟩ := (hbody cdv A outer s H E hr).ex
  obtain ⟨hl, M, Hs, ρ, rt, ws, R, hw, p⟩ := h
  refine ⟨t, h1, h2 ⟨H, Hs, M⟩ Hs ρ _ rt _ H _ R (start_ok hw) ?_⟩
  unfold mkF at p
  have take_ext : ∀ {Hs' : Hp} {ρ' : List Addr}, Ext Hs ρ Hs' ρ' → ρ'.take rt.length = ρ := fun e => by
    obtain ⟨_, t, rfl⟩ := e
    rw [← R.len, List.take_left]
  have le_ext : ∀ {Hs' : Hp} {ρ' : List Addr} {rt' : List O} {H' : Hp}, Ext Hs ρ Hs' ρ' → Rel K w ⟨H, Hs, M⟩ Hs' ρ' rt' H' → rt.length ≤ rt'.length := fun e R' => by
    obtain ⟨_, t, rfl⟩ := e
    rw [← R'.len, ← R.len]; simp
  cases hb : body (ws.map some ++ List.replicate (N.length - ws.length) none) rt with
  | nx sl' rt' =>
    rw [hb] at p
    intro Hs' ρ' σ' H' e1 R1 S1 _
    exact p _ Hs' _ H' ⟨e1.same, [], by rw [take_ext e1]; simp⟩ (R1.take (le_ext e1 R1)) .non
  | re y rt' =>
    rw [hb] at p
    intro v Hs' ρ' H' e1 R1 d1
    cases y with
    | d y => exact p _ Hs' _ H' ⟨e1.same, [], by rw [take_ext e1]; simp⟩ (R1.take (le_ext e1 R1)) d1
    | r j =>
      obtain ⟨a, ha, rfl⟩ := d1
      have hj : j < rt'.length := by rw [← R1.len]; exact (List.getElem?_eq_some_iff.mp ha).1
      by_cases hk : j < rt.length
      · simp only [ret, hk, if_true] at p
        exact p _ Hs' _ H' ⟨e1.same, [], by rw [take_ext e1]; simp⟩ (R1.take (le_ext e1 R1)) ⟨a, by rw [List.getElem?_take, if_pos hk]; exact ha, rfl⟩
      · obtain ⟨o, ho⟩ : ∃ o, rt'[j]? = some o := ⟨rt'[j], by simp [hj]⟩
        simp only [ret, hk, if_false, ho] at p
        refine p _ Hs' _ H' ⟨e1.same, [a], by rw [take_ext e1]⟩ (R1.take1 (Nat.le_of_not_lt hk) ha ho) ⟨a, ?_, rfl⟩
        rw [take_ext e1, ← R.len, List.getElem?_append_right (Nat.le_refl _), Nat.sub_self]
        rfl
  | ex c fs sl' rt' =>
    rw [hb] at p
    intro d Hs' ρ' σ' H' e1 R1 x1 _ _
    exact p d Hs' _ H' ⟨e1.same, [], by rw [take_ext e1]; simp⟩ (R1.take (le_ext e1 R1)) x1
  | bk sl' rt' => rw [hb] at p; exact p.elim
  | ct sl' rt' => rw [hb] at p; exact p.elim
  | no => rw [hb] at p; exact p.elim

section
variable {X : Cx} {Wx : WX}
theorem roots_mem : ∀ {ws : List W} {n : Nat}, W.r n ∈ ws → n ∈ roots ws
  | [], _, h => by cases h
  | .d _ :: ws, n, h => by
    rcases List.mem_cons.mp h with h | h
    · cases h
    · exact roots_mem (ws := ws) h
  | .r m :: ws, n, h => by
    rcases List.mem_cons.mp h with h | h
    · cases h; exact List.mem_cons_self
    · exact List.mem_cons_of_mem _ (roots_mem (ws := ws) h)
theorem renum_ok {K : PySem.W.Frag} {w : World} {Hs : Hp} {ρ : List Addr} {js : List Nat} {vs : List V} {ws : List W} (h : WDs K w Hs ρ vs ws) (hm : ∀ n, W.r n ∈ ws → n ∈ js) : WDs K w Hs (pk js ρ 0) vs (ws.map (renum js)) := by
  induction h with
  | nil => exact .nil
  | @cons v x vs xs h t ih =>
    refine .cons ?_ (ih fun n hn => hm n (List.mem_cons_of_mem _ hn))
    cases x with
    | d x => exact h
    | r n =>
      obtain ⟨a, ha, rfl⟩ := h
      exact ⟨a, pk_get (ixOf_at (hm n List.mem_cons_self)) ha, rfl⟩
/-- a call's reading -/
theorem call_ok {K : PySem.W.Frag} {w : World} {B : Bnd} {Hs H : Hp} {ρ : List Addr} {rt : List O} {σ : L2.St} {np : Nat} {m : FM} {vs : List V} {ws : List W} {Q : VK} (R : Rel K w B Hs ρ rt H) (d : WDs K w Hs ρ vs ws) (hl : ws.length = np)
    (p : PE1 K w B Wx Hs ρ σ (callF m ws rt) Q) : spV K w m np vs H Q (fun c d H => Wx c d σ H) := by
  unfold callF at p
  by_cases hok : okRoots (roots ws) rt.length = true
  · rw [if_pos hok] at p
    have h1 := Bool.and_eq_true_iff.mp hok
    have hn : (roots ws).Nodup := of_decide_eq_true h1.1
    have hr : ∀ j ∈ roots ws, j < rt.length := fun j hj => of_decide_eq_true (List.all_eq_true.mp h1.2 j hj)
    obtain ⟨M, R1, lv⟩ := R.enter hn hr
    refine ⟨d.length.trans hl, M, Hs, _, _, _, R1, renum_ok d (fun n hn => roots_mem hn), ?_⟩
    cases hm : m (ws.map (renum (roots ws))) (pk (roots ws) rt (.d .non)) with
    | no => rw [hm] at p; exact p.elim
    | ex c fs rs =>
      rw [hm] at p
      intro dd Hs' ρ' H' e2 R2 x2
      obtain ⟨s2, t, rfl⟩ := e2
      exact p dd Hs' (ρ ++ t) H' ⟨s2, t, rfl⟩ (lv Hs' t rs H' s2 R2) x2
    | ok x rs =>
      rw [hm] at p
      intro v Hs' ρ' H' e2 R2 d2
      obtain ⟨s2, t, rfl⟩ := e2
      refine p v Hs' (ρ ++ t) H' ⟨s2, t, rfl⟩ (lv Hs' t rs H' s2 R2) ?_
      cases x with
      | d x => exact d2
      | r j =>
        obtain ⟨a, ha, rfl⟩ := d2
        show WD K w Hs' (ρ ++ t) (V.ref a) (if j < (roots ws).length then W.r ((roots ws).getD j 0) else W.r (rt.length + (j - (roots ws).length)))
        by_cases hj : j < (roots ws).length
        · rw [if_pos hj]
          refine ⟨a, ?_, rfl⟩
          rw [List.getElem?_append_left (by rw [pk_length]; exact hj)] at ha
          obtain ⟨i, hi, e⟩ := pk_of ha (fun j hj => by rw [R.len]; exact hr j hj)
          rw [List.getD_eq_getElem?_getD, hi]
          exact Ext.at (Hs := Hs) (Hs' := Hs) ⟨Same.rfl', t, rfl⟩ e
        · rw [if_neg hj]
          refine ⟨a, ?_, rfl⟩
          rw [List.getElem?_append_right (by rw [pk_length]; omega), pk_length] at ha
          rw [List.getElem?_append_right (by rw [R.len]; omega), R.len, Nat.add_sub_cancel_left]
          exact ha
  · rw [if_neg hok] at p
    exact p.elim

/-! ### arguments -/
def aNil : Ex (List W) := fun _ rt => .ok [] rt
def aCons (m : Ex W) (ms : Ex (List W)) : Ex (List W) := fun sl rt => (m sl rt).bind fun x rt => (ms sl rt).bind fun xs rt => .ok (x :: xs) rt
/-- an argument, made plain -/
def eVal (m : Ex W) : Ex W := fun sl rt => (m sl rt).bind fun x rt => (vOf x rt).bind fun y rt => .ok (.d y) rt
variable {e : Expr} {es : List Expr} {m : Ex W} {ms : Ex (List W)} {pos : Pos}
theorem va_nil : VA X Wx [] aNil := ⟨_, pa_nil, fun B Hs ρ sl rt σ H Q R S p => p _ Hs ρ H Ext.refl R .nil⟩
theorem va_cons (h1 : VX X Wx e m) (h2 : VA X Wx es ms) (hs : starEach (e :: es) X.env = (false, eval e X.env) :: starEach es X.env := by rfl) : VA X Wx (e :: es) (aCons m ms) := by
  obtain ⟨t, a1, a2⟩ := h1.ex
  obtain ⟨u, b1, b2⟩ := h2.ex
  refine ⟨_, pa_cons a1 b1 hs, fun B Hs ρ sl rt σ H Q R S p => ?_⟩
  refine a2 B Hs ρ sl rt σ H _ R S (PEx.bind p fun x rt1 v Hs1 ρ1 H1 e1 R1 d1 p1 => ?_)
  refine b2 B Hs1 ρ1 sl rt1 σ H1 _ R1 (S.mono e1) (PEx.bind p1 fun xs rt2 vs Hs2 ρ2 H2 e2 R2 d2 p2 => ?_)
  exact p2 _ Hs2 ρ2 H2 Ext.refl R2 (.cons (d1.mono e2) d2)
theorem vx_val (h1 : VX X Wx e m) : VX X Wx e (eVal m) := by
  obtain ⟨t, a1, a2⟩ := h1.ex
  refine ⟨t, a1, fun B Hs ρ sl rt σ H Q R S p => ?_⟩
  refine a2 B Hs ρ sl rt σ H _ R S (PEx.bind p fun x rt1 v Hs1 ρ1 H1 e1 R1 d1 p1 => ?_)
  exact PEx.val R1 d1 p1 fun y rt2 Hs2 e2 R2 d2 p2 => p2 v Hs2 ρ1 H1 Ext.refl R2 d2
def eCall (f : FM) (np : Nat) (ms : Ex (List W)) : Ex W := fun sl rt => (ms sl rt).bind fun ws rt => if ws.length = np then callF f ws rt else .no
def eCall0 (f : FM) : Ex W := fun _ rt => (callF f [] rt).noex
/-- a def of the module is called, every parameter by place -/
theorem vx_call {k : Nat} {f : Addr} {fd : FuncData} {ps : List Str} {x : Str} {p : Pos} {fm : FM} (F : FnOk X.prog X.w X.K X.mg X.base (L2.CX X.prog X.w) k f fd ps (spV X.K X.w fm ps.length)) (hr : Room k X.A) (hg : Gl X x) (hm : X.mg x = some (.ref f)) (hk : PySem.W.keepIn X.K (.ref f) = true) (hb : Binds X.K fd ps [])
    (tk : Takes X Wx) (ha : VA X Wx (e :: es) ms) (hdb : (x == ("__debug__" : Str)) = false := by decide) (he : starEach (e :: es) X.env = (false, eval e X.env) :: starEach es X.env := by rfl) (hpl : (backTo pos (starEach es X.env)).any (·.1) = false := by rfl) :
    VX X Wx (.Call (.Name x p) (e :: es) [] pos) (eCall fm ps.length ms) := by
  obtain ⟨t, a1, a2⟩ := ha.ex
  refine vx_pe (pe_callS F hr hg hm hk hb (fun σ => passAt tk σ) a1 hdb he hpl) fun B Hs ρ sl rt σ H Q R S p => ?_
  refine a2 B Hs ρ sl rt σ H _ R S (PEx.bind p fun ws rt1 vs Hs1 ρ1 H1 e1 R1 d1 p1 => ?_)
  by_cases hl : ws.length = ps.length
  · rw [if_pos hl] at p1
    exact call_ok R1 d1 hl p1
  · rw [if_neg hl] at p1
    exact p1.elim
theorem vx_call0 {k : Nat} {f : Addr} {fd : FuncData} {x : Str} {p : Pos} {fm : FM} (F : FnOk X.prog X.w X.K X.mg X.base (L2.CX X.prog X.w) k f fd [] (spV X.K X.w fm 0)) (hr : Room k X.A) (hg : Gl X x) (hm : X.mg x = some (.ref f)) (hk : PySem.W.keepIn X.K (.ref f) = true) (hb : Binds X.K fd [] [])
    (hdb : (x == ("__debug__" : Str)) = false := by decide) : VX X Wx (.Call (.Name x p) [] [] pos) (eCall0 fm) := by
  refine vx_pe (pe_call0 F hr hg hm hk hb .nil passL hdb) fun B Hs ρ sl rt σ H Q R S p => ?_
  refine call_ok (Wx := fun _ _ _ _ => False) (σ := []) R .nil rfl ?_
  unfold eCall0 at p
  cases h : callF fm [] rt with
  | ok x rt1 => rw [h] at p; exact p
  | ex c fs rt1 => rw [h] at p; exact p.elim
  | no => rw [h] at p; exact p.elim
end
end VE

set_option maxRecDepth 100000
set_option maxHeartbeats 1000000
namespace VE
open PySem PySem.Spec L2

theorem lim_le {n : Nat} (h : n ≤ 16000000) : n ≤ sizeLine := by rw [sizeLine_eq]; omega
theorem lim_lt {n : Nat} (h : n < 16000000) : n < sizeLine := by rw [sizeLine_eq]; omega

/-! ### reading what stands -/
def lsOf (x : W) (rt : List O) : Option (List D) := match x with
  | .d (.lst xs) => some xs
  | .r n => match rt[n]? with
    | some (.lst xs) => some xs
    | some (.d (.lst xs)) => some xs
    | _ => none
  | _ => none
def tpOf (x : W) : Option (List D) := match x with
  | .d (.tup xs) => some xs
  | .d (.ktup xs) => some xs
  | _ => none
section
variable {K : PySem.W.Frag} {w : World} {B : Bnd} {Wx : WX} {Hs H : Hp} {ρ : List Addr} {rt : List O} {σ : L2.St} {v : V} {x : W} {xs : List D} {vs : List V} {Q : VK}
theorem lsOf_ok (R : Rel K w B Hs ρ rt H) (d : WD K w Hs ρ v x) (e : lsOf x rt = some xs) : ∃ a vs, v = .ref a ∧ H a = some (.lst vs) ∧ Dens K w Hs vs xs := by
  cases x with
  | d x =>
    cases x <;> first | cases e | skip
    cases d with
    | @lst a vs _ h1 h2 => exact ⟨a, vs, rfl, R.same _ _ h1, h2⟩
  | r n =>
    unfold lsOf at e
    cases ho : rt[n]? with
    | none => simp only [ho] at e; cases e
    | some o =>
      obtain ⟨F, a, rfl, h1, h2, h3, h4⟩ := R.root ho d
      cases o <;> simp only [ho] at e <;> first | cases e | skip
      · rename_i y
        cases y <;> simp only at e <;> first | cases e | skip
        cases h2 with
        | d h2 => cases h2 with
          | @lst _ vs _ h1 h2 => exact ⟨a, vs, rfl, R.same _ _ h1, h2⟩
      · cases h2 with
        | @lst _ vs _ h1 h2 => exact ⟨a, vs, rfl, h1, h2⟩
theorem tpOf_ok (R : Rel K w B Hs ρ rt H) (d : WD K w Hs ρ v x) (e : tpOf x = some xs) : ∃ a vs, v = .ref a ∧ SqT K Hs a vs ∧ SqT K H a vs ∧ Dens K w Hs vs xs := by
  cases x with
  | r n => cases e
  | d x =>
    cases x <;> first | cases e | skip
    · cases d with
      | @tup a vs _ h1 h2 => exact ⟨a, vs, rfl, SqT.of h1, SqT.of (R.same _ _ h1), h2⟩
    · cases d with
      | @ktup a vs _ h1 h2 => exact ⟨a, vs, rfl, h1, SqT.mono R.same h1, h2⟩
/-- a new list -/
theorem new_list (R : Rel K w B Hs ρ rt H) (d : Dens K w Hs vs xs) (p : PE1 K w B Wx Hs ρ σ (.ok (.r rt.length) (rt ++ [.lst xs])) Q) : ∀ q, H q = none → Q (.ref q) (upd H q (.lst vs)) := fun q hq =>
  p _ Hs _ _ Ext.push (R.push hq (.lst upd_same d)) ⟨q, by rw [← R.len, List.getElem?_append_right (Nat.le_refl _), Nat.sub_self]; rfl, rfl⟩
theorem new_tup (R : Rel K w B Hs ρ rt H) (d : Dens K w Hs vs xs) (p : PE1 K w B Wx Hs ρ σ (.ok (.d (.tup xs)) rt) Q) : ∀ q, H q = none → Q (.ref q) (upd H q (.tup vs)) := fun q hq =>
  p _ _ ρ _ (Ext.of_same (same_upd (R.fresh hq).1)) (R.alloc hq) (.tup upd_same (d.mono (same_upd (R.fresh hq).1)))
theorem Dens.append : ∀ {vs us : List V} {xs ys : List D}, Dens K w H vs xs → Dens K w H us ys → Dens K w H (vs ++ us) (xs ++ ys)
  | _, _, _, _, .nil, h => h
  | _, _, _, _, .cons a b, h => .cons a (b.append h)
theorem Dens.take : ∀ {vs : List V} {xs : List D} (n : Nat), Dens K w H vs xs → Dens K w H (vs.take n) (xs.take n)
  | _, _, 0, _ => .nil
  | _, _, _ + 1, .nil => .nil
  | _, _, n + 1, .cons a b => .cons a (b.take n)
theorem Dens.drop : ∀ {vs : List V} {xs : List D} (n : Nat), Dens K w H vs xs → Dens K w H (vs.drop n) (xs.drop n)
  | _, _, 0, h => h
  | _, _, _ + 1, .nil => .nil
  | _, _, n + 1, .cons a b => b.drop n
theorem Dens.rev : ∀ {vs : List V} {xs : List D}, Dens K w H vs xs → Dens K w H vs.reverse xs.reverse
  | _, _, .nil => .nil
  | _, _, .cons a b => by rw [List.reverse_cons, List.reverse_cons]; exact b.rev.append (.cons a .nil)
theorem Dens.set {v : V} {x : D} (d : Den K w H v x) : ∀ {vs : List V} {xs : List D} (n : Nat), Dens K w H vs xs → Dens K w H (vs.set n v) (xs.set n x)
  | _, _, _, .nil => .nil
  | _, _, 0, .cons _ b => .cons d b
  | _, _, n + 1, .cons a b => .cons a (b.set d n)
theorem Dens.eraseIdx : ∀ {vs : List V} {xs : List D} (n : Nat), Dens K w H vs xs → Dens K w H (vs.eraseIdx n) (xs.eraseIdx n)
  | _, _, _, .nil => .nil
  | _, _, 0, .cons _ b => b
  | _, _, n + 1, .cons a b => .cons a (b.eraseIdx n)
end

/-! ### numbers, texts, lists, tuples: + - * // % ** -/
def gAdd (x y : W) (rt : List O) : Ou W := match x, y with
  | .d (.int i), .d (.int j) => .ok (.d (.int (i + j))) rt
  | .d (.str i), .d (.str j) => if i.length + j.length ≤ 16000000 then .ok (.d (.str (i ++ j))) rt else .no
  | .d (.tup xs), .d (.tup ys) => if xs.length + ys.length ≤ 16000000 then .ok (.d (.tup (xs ++ ys))) rt else .no
  | x, y => match lsOf x rt, lsOf y rt with
    | some xs, some ys => if xs.length + ys.length ≤ 16000000 then .ok (.r rt.length) (rt ++ [.lst (xs ++ ys)]) else .no
    | _, _ => .no
def gDif (x y : W) (rt : List O) : Ou W := match x, y with
  | .d (.int i), .d (.int j) => .ok (.d (.int (i - j))) rt
  | _, _ => .no
/-- a product: one factor small, or both below a million bits together -/
def mulOk (i j : Int) : Bool := decide (-(2 ^ 64) < i ∧ i < 2 ^ 64) || decide (-(2 ^ 64) < j ∧ j < 2 ^ 64) || decide (i.natAbs.log2 + j.natAbs.log2 < 1000000)
def gMul (x y : W) (rt : List O) : Ou W := match x, y with
  | .d (.int i), .d (.int j) => if mulOk i j = true then .ok (.d (.int (i * j))) rt else .no
  | x, .d (.int k) => match lsOf x rt with
    | some xs => if -1000000 ≤ k ∧ k ≤ 1000000 ∧ xs.length * k.toNat ≤ 16000000 then .ok (.r rt.length) (rt ++ [.lst (List.replicate k.toNat xs).flatten]) else .no
    | none => .no
  | _, _ => .no
def divOk (j : Int) : Bool := decide (0 < j ∧ j.natAbs.log2 < 9000)
def gDiv (x y : W) (rt : List O) : Ou W := match x, y with
  | .d (.int i), .d (.int j) => if divOk j = true then .ok (.d (.int (i / j))) rt else .no
  | _, _ => .no
def gMod (x y : W) (rt : List O) : Ou W := match x, y with
  | .d (.int i), .d (.int j) => if 0 < j then .ok (.d (.int (i % j))) rt else .no
  | _, _ => .no
def gPow (x y : W) (rt : List O) : Ou W := match x, y with
  | .d (.int i), .d (.int j) => if 0 ≤ j ∧ j ≤ 1000000 ∧ i.natAbs < 2 ^ 64 then .ok (.d (.int (i ^ j.toNat))) rt else .no
  | _, _ => .no
section
variable {X : Cx}
theorem opv_add : OpV X (binaryOp .Add) gAdd := by
  refine ⟨_, (op_add.or (op_add_str.or (op_catA.or op_cat))), fun Wx B Hs ρ rt σ H Q x y v u R d1 d2 p => ?_⟩
  unfold gAdd at p
  split at p
  · cases d1; cases d2
    exact .inl ⟨_, _, rfl, rfl, p _ Hs ρ H Ext.refl R (.int _)⟩
  · cases d1; cases d2
    split at p
    · rename_i h
      exact .inr (.inl ⟨_, _, rfl, rfl, lim_le h, p _ Hs ρ H Ext.refl R (.str _)⟩)
    · exact p.elim
  · rename_i xs ys
    obtain ⟨a, vs, rfl, h1, h2, h3⟩ := tpOf_ok (xs := xs) R d1 rfl
    obtain ⟨b, us, rfl, g1, g2, g3⟩ := tpOf_ok (xs := ys) R d2 rfl
    split at p
    · rename_i h
      refine .inr (.inr (.inl ⟨a, b, vs, us, rfl, rfl, h2, g2, lim_le (by rw [h3.length, g3.length]; exact h), fun e => ?_, fun _ e => ?_, fun _ _ => new_tup R (h3.append g3) p⟩))
      · subst e
        cases h3
        exact p _ Hs ρ H Ext.refl R d2
      · subst e
        cases g3
        rw [List.append_nil] at p
        exact p _ Hs ρ H Ext.refl R d1
    · exact p.elim
  · split at p
    · rename_i xs ys e1 e2
      obtain ⟨a, vs, rfl, h1, h2⟩ := lsOf_ok R d1 e1
      obtain ⟨b, us, rfl, g1, g2⟩ := lsOf_ok R d2 e2
      split at p
      · rename_i h
        exact .inr (.inr (.inr ⟨a, b, vs, us, rfl, rfl, h1, g1, lim_le (by rw [h2.length, g2.length]; exact h), new_list R (h2.append g2) p⟩))
      · exact p.elim
    · exact p.elim
theorem opv_sub : OpV X (binaryOp .Sub) gDif := by
  refine ⟨_, op_sub, fun Wx B Hs ρ rt σ H Q x y v u R d1 d2 p => ?_⟩
  unfold gDif at p
  split at p
  · cases d1; cases d2
    exact ⟨_, _, rfl, rfl, p _ Hs ρ H Ext.refl R (.int _)⟩
  · exact p.elim
theorem Dens.rep {K : PySem.W.Frag} {w : World} {H : Hp} {vs : List V} {xs : List D} (h : Dens K w H vs xs) : ∀ k : Nat, Dens K w H (List.replicate k vs).flatten (List.replicate k xs).flatten
  | 0 => .nil
  | k + 1 => by rw [List.replicate_succ, List.replicate_succ, List.flatten_cons, List.flatten_cons]; exact h.append (h.rep k)
theorem opv_mul : OpV X (binaryOp .Mult) gMul := by
  refine ⟨_, (op_mul.or (op_mulW.or op_rep)), fun Wx B Hs ρ rt σ H Q x y v u R d1 d2 p => ?_⟩
  unfold gMul at p
  split at p
  · cases d1; cases d2
    split at p
    · rename_i i j h
      unfold mulOk at h
      simp only [Bool.or_eq_true, decide_eq_true_eq] at h
      rcases h with (h | h) | h
      · exact .inl ⟨_, _, rfl, rfl, .inl h, p _ Hs ρ H Ext.refl R (.int _)⟩
      · exact .inl ⟨_, _, rfl, rfl, .inr h, p _ Hs ρ H Ext.refl R (.int _)⟩
      · exact .inr (.inl ⟨_, _, rfl, rfl, h, p _ Hs ρ H Ext.refl R (.int _)⟩)
    · exact p.elim
  · cases d2
    split at p
    · rename_i xs e1
      obtain ⟨a, vs, rfl, h1, h2⟩ := lsOf_ok R d1 e1
      split at p
      · rename_i h
        exact .inr (.inr ⟨a, _, vs, rfl, rfl, h1, by omega, by omega, lim_le (by rw [h2.length]; exact h.2.2), new_list R (h2.rep _) p⟩)
      · exact p.elim
    · exact p.elim
  · exact p.elim
theorem opv_div : OpV X (binaryOp .FloorDiv) gDiv := by
  refine ⟨_, op_fdivW, fun Wx B Hs ρ rt σ H Q x y v u R d1 d2 p => ?_⟩
  unfold gDiv at p
  split at p
  · cases d1; cases d2
    split at p
    · rename_i h
      unfold divOk at h
      have h' := of_decide_eq_true h
      exact ⟨_, _, rfl, rfl, h', p _ Hs ρ H Ext.refl R (.int _)⟩
    · exact p.elim
  · exact p.elim
theorem opv_mod : OpV X (binaryOp .Mod) gMod := by
  refine ⟨_, op_mod, fun Wx B Hs ρ rt σ H Q x y v u R d1 d2 p => ?_⟩
  unfold gMod at p
  split at p
  · cases d1; cases d2
    split at p
    · rename_i h
      exact ⟨_, _, rfl, rfl, h, p _ Hs ρ H Ext.refl R (.int _)⟩
    · exact p.elim
  · exact p.elim
theorem opv_pow : OpV X (binaryOp .Pow) gPow := by
  refine ⟨_, op_pow, fun Wx B Hs ρ rt σ H Q x y v u R d1 d2 p => ?_⟩
  unfold gPow at p
  split at p
  · cases d1; cases d2
    split at p
    · rename_i h
      exact ⟨_, _, rfl, rfl, h, p _ Hs ρ H Ext.refl R (.int _)⟩
    · exact p.elim
  · exact p.elim
end

/-! ### comparisons -/
mutual
def pyOf : D → Option PyData
  | .non => some .none
  | .bl b => some (.bool b)
  | .int i => some (.int i)
  | .str x => some (.str x)
  | .tup xs => (pyAll xs).map .tuple
  | .ktup xs => (pyAll xs).map .tuple
  | .lst xs => (pyAll xs).map .list
  | _ => none
def pyAll : List D → Option (List PyData)
  | [] => some []
  | x :: xs => match pyOf x, pyAll xs with
    | some p, some ps => some (p :: ps)
    | _, _ => none
end
section
variable {K : PySem.W.Frag} {w : World} {H : Hp}
mutual
theorem dp_of : ∀ {v : V} {x : D} {p : PyData}, Den K w H v x → pyOf x = some p → Dp K H v p
  | _, _, _, .non, e => by cases e; exact .non
  | _, _, _, .bl b, e => by cases e; exact .bl b
  | _, _, _, .int b, e => by cases e; exact .int b
  | _, _, _, .str b, e => by cases e; exact .str b
  | _, _, _, .tup (xs := xs) h r, e => by
    rw [pyOf] at e
    obtain ⟨ps, h1, rfl⟩ := Option.map_eq_some_iff.mp e
    exact .tup (SqT.of h) (dps_of r h1)
  | _, _, _, .ktup (xs := xs) h r, e => by
    rw [pyOf] at e
    obtain ⟨ps, h1, rfl⟩ := Option.map_eq_some_iff.mp e
    exact .tup h (dps_of r h1)
  | _, _, _, .lst (xs := xs) h r, e => by
    rw [pyOf] at e
    obtain ⟨ps, h1, rfl⟩ := Option.map_eq_some_iff.mp e
    exact .lst (SqL.of h) (dps_of r h1)
  | _, _, _, .fz _ _, e => by cases e
  | _, _, _, .dk _ _, e => by cases e
  | _, _, _, .wd _ _, e => by cases e
  | _, _, _, .dt _ _, e => by cases e
  | _, _, _, .obj _ _ _, e => by cases e
  | _, _, _, .ref _, e => by cases e
  | _, _, _, .ty _, e => by cases e
theorem dps_of : ∀ {vs : List V} {xs : List D} {ps : List PyData}, Dens K w H vs xs → pyAll xs = some ps → DpAll K H vs ps
  | _, _, _, .nil, e => by cases e; exact .nil
  | _, _, _, .cons (x := x) (xs := xs) h r, e => by
    rw [pyAll] at e
    cases h1 : pyOf x with
    | none => simp only [h1] at e; cases e
    | some p =>
      cases h2 : pyAll xs with
      | none => simp only [h1, h2] at e; cases e
      | some ps =>
        simp only [h1, h2] at e
        cases e
        exact .cons (dp_of h h1) (dps_of r h2)
end
end
/-- a value as it stands now -/
def lkD (x : W) (rt : List O) : D := match x with
  | .d x => x
  | .r n => (rt.getD n (.d .non)).toD
theorem lk_ok {K : PySem.W.Frag} {w : World} {B : Bnd} {Hs H : Hp} {ρ : List Addr} {rt : List O} {v : V} {x : W} (R : Rel K w B Hs ρ rt H) (d : WD K w Hs ρ v x) : Den K w H v (lkD x rt) := by
  cases x with
  | d x => exact Den.mono R.same d
  | r n =>
    obtain ⟨a, ha, rfl⟩ := d
    have hn : n < rt.length := by rw [← R.len]; exact (List.getElem?_eq_some_iff.mp ha).1
    have ho : rt[n]? = some rt[n] := by simp [hn]
    obtain ⟨F, a', e, h1, h2, h3, h4⟩ := R.root ho ⟨a, ha, rfl⟩
    cases e
    have e : rt.getD n (.d .non) = rt[n] := by rw [List.getD_eq_getElem?_getD, ho]; rfl
    show Den K w H (V.ref a) (rt.getD n (.d .non)).toD
    rw [e]
    exact h2.den R.same fun _ _ => rfl
def eqD (x y : D) : Option Bool := match pyOf x, pyOf y with
  | some p, some q => if SeqAt.shaped p = true ∧ SeqAt.shaped q = true then some (PyData.eqv p q) else none
  | _, _ => none
def gEq (x y : W) (rt : List O) : Ou W := match eqD (lkD x rt) (lkD y rt) with
  | some b => .ok (.d (.bl b)) rt
  | none => .no
def gNe (x y : W) (rt : List O) : Ou W := match eqD (lkD x rt) (lkD y rt) with
  | some b => .ok (.d (.bl (!b))) rt
  | none => .no
def cmpI (f : Int → Int → Bool) (x y : W) (rt : List O) : Ou W := match x, y with
  | .d (.int i), .d (.int j) => .ok (.d (.bl (f i j))) rt
  | _, _ => .no
def gLt (x y : W) (rt : List O) : Ou W := cmpI (fun i j => decide (i < j)) x y rt
def gLe (x y : W) (rt : List O) : Ou W := cmpI (fun i j => decide (i ≤ j)) x y rt
def gGt (x y : W) (rt : List O) : Ou W := cmpI (fun i j => decide (j < i)) x y rt
def gGe (x y : W) (rt : List O) : Ou W := cmpI (fun i j => decide (j ≤ i)) x y rt
section
variable {X : Cx}
theorem eqD_ok {x y : D} {b : Bool} (e : eqD x y = some b) : ∃ p q, pyOf x = some p ∧ pyOf y = some q ∧ SeqAt.shaped p = true ∧ SeqAt.shaped q = true ∧ PyData.eqv p q = b := by
  unfold eqD at e
  cases h1 : pyOf x with
  | none => simp only [h1] at e; cases e
  | some p =>
    cases h2 : pyOf y with
    | none => simp only [h1, h2] at e; cases e
    | some q =>
      simp only [h1, h2] at e
      split at e
      · rename_i h
        cases e
        exact ⟨p, q, rfl, rfl, h.1, h.2, rfl⟩
      · cases e
theorem opv_eq (hu : X.A.units + 64 < cLine) : OpV X (compareOp .Eq) gEq := by
  refine ⟨_, op_eqD hu, fun Wx B Hs ρ rt σ H Q x y v u R d1 d2 p => ?_⟩
  unfold gEq at p
  split at p
  · rename_i b e
    obtain ⟨p1, q1, h1, h2, h3, h4, rfl⟩ := eqD_ok e
    exact ⟨p1, q1, dp_of (lk_ok R d1) h1, dp_of (lk_ok R d2) h2, h3, h4, p _ Hs ρ H Ext.refl R (.bl _)⟩
  · exact p.elim
theorem opv_ne (hu : X.A.units + 64 < cLine) : OpV X (compareOp .NotEq) gNe := by
  refine ⟨_, op_neD hu, fun Wx B Hs ρ rt σ H Q x y v u R d1 d2 p => ?_⟩
  unfold gNe at p
  split at p
  · rename_i b e
    obtain ⟨p1, q1, h1, h2, h3, h4, rfl⟩ := eqD_ok e
    exact ⟨p1, q1, dp_of (lk_ok R d1) h1, dp_of (lk_ok R d2) h2, h3, h4, p _ Hs ρ H Ext.refl R (.bl _)⟩
  · exact p.elim
theorem cmpI_ok {f : Int → Int → Bool} {op : CmpOp} (h : OpR X (compareOp op) (rI0 fun i j => .bl (f i j))) : OpV X (compareOp op) (cmpI f) := by
  refine ⟨_, h, fun Wx B Hs ρ rt σ H Q x y v u R d1 d2 p => ?_⟩
  unfold cmpI at p
  split at p
  · cases d1; cases d2
    exact ⟨_, _, rfl, rfl, p _ Hs ρ H Ext.refl R (.bl _)⟩
  · exact p.elim
theorem opv_lt : OpV X (compareOp .Lt) gLt := cmpI_ok op_lt
theorem opv_le : OpV X (compareOp .LtE) gLe := cmpI_ok op_le
theorem opv_gt : OpV X (compareOp .Gt) gGt := cmpI_ok op_gt
theorem opv_ge : OpV X (compareOp .GtE) gGe := cmpI_ok op_ge
end
/-- x is None, x is not None -/
def W.isN : W → Bool
  | .d .non => true
  | _ => false
def eIsN (m : Ex W) : Ex W := fun sl rt => (m sl rt).bind fun x rt => .ok (.d (.bl x.isN)) rt
def eNotN (m : Ex W) : Ex W := fun sl rt => (m sl rt).bind fun x rt => .ok (.d (.bl (!x.isN))) rt
section
variable {X : Cx} {Wx : WX} {a : Expr} {ma : Ex W} {pos : Pos}
theorem non_iff {K : PySem.W.Frag} {w : World} {Hs : Hp} {ρ : List Addr} {v : V} {x : W} (d : WD K w Hs ρ v x) : decide (v = .non) = x.isN := by
  cases x with
  | r n => obtain ⟨a, _, rfl⟩ := d; rfl
  | d x => cases d <;> rfl
theorem pe_isN {j : Nat} {pos' : Pos} (ha : VX X Wx a ma) : ∃ t, PC X .Is a (.Constant .none j pos') t ∧ ∀ (B : Bnd) (Hs : Hp) (ρ : List Addr) (sl : Sl) (rt : List O) (σ : L2.St) (H : Hp) (Q : VK), Rel X.K X.w B Hs ρ rt H → SlD X.K X.w Hs ρ σ sl → PE1 X.K X.w B Wx Hs ρ σ (eIsN ma sl rt) Q → t σ H Q := by
  obtain ⟨ta, a1, a2⟩ := ha.ex
  refine ⟨_, pc_isN a1, fun B Hs ρ sl rt σ H Q R S p => ?_⟩
  refine a2 B Hs ρ sl rt σ H _ R S (PEx.bind p fun x rt1 v Hs1 ρ1 H1 e1 R1 d1 p1 => ?_)
  rw [non_iff d1]
  exact p1 _ Hs1 ρ1 H1 Ext.refl R1 (.bl _)
theorem pe_notN {j : Nat} {pos' : Pos} (ha : VX X Wx a ma) : ∃ t, PC X .IsNot a (.Constant .none j pos') t ∧ ∀ (B : Bnd) (Hs : Hp) (ρ : List Addr) (sl : Sl) (rt : List O) (σ : L2.St) (H : Hp) (Q : VK), Rel X.K X.w B Hs ρ rt H → SlD X.K X.w Hs ρ σ sl → PE1 X.K X.w B Wx Hs ρ σ (eNotN ma sl rt) Q → t σ H Q := by
  obtain ⟨ta, a1, a2⟩ := ha.ex
  refine ⟨_, pc_notN a1, fun B Hs ρ sl rt σ H Q R S p => ?_⟩
  refine a2 B Hs ρ sl rt σ H _ R S (PEx.bind p fun x rt1 v Hs1 ρ1 H1 e1 R1 d1 p1 => ?_)
  rw [non_iff d1]
  exact p1 _ Hs1 ρ1 H1 Ext.refl R1 (.bl _)
theorem vx_isN {j : Nat} {pos' : Pos} (ha : VX X Wx a ma) : VX X Wx (.Compare a [.Is] [.Constant .none j pos'] pos) (eIsN ma) := by
  obtain ⟨t, h1, h2⟩ := pe_isN (j := j) (pos' := pos') ha
  exact vx_pe (pe_cmp h1) h2
theorem vx_notN {j : Nat} {pos' : Pos} (ha : VX X Wx a ma) : VX X Wx (.Compare a [.IsNot] [.Constant .none j pos'] pos) (eNotN ma) := by
  obtain ⟨t, h1, h2⟩ := pe_notN (j := j) (pos' := pos') ha
  exact vx_pe (pe_cmp h1) h2
theorem vt_isN {j : Nat} {pos' : Pos} (ha : VX X Wx a ma) : VT X Wx (.Compare a [.Is] [.Constant .none j pos'] pos) (eB (eIsN ma)) := by
  obtain ⟨t, h1, h2⟩ := pe_isN (j := j) (pos' := pos') ha
  exact ⟨_, pt_cmp h1, test_ok h2⟩
theorem vt_notN {j : Nat} {pos' : Pos} (ha : VX X Wx a ma) : VT X Wx (.Compare a [.IsNot] [.Constant .none j pos'] pos) (eB (eNotN ma)) := by
  obtain ⟨t, h1, h2⟩ := pe_notN (j := j) (pos' := pos') ha
  exact ⟨_, pt_cmp h1, test_ok h2⟩
end
end VE

set_option maxRecDepth 100000
set_option maxHeartbeats 1000000
namespace VE
open PySem PySem.Spec L2

/-! ### displays -/
def valsOf : List W → List O → Ou (List D)
  | [], rt => .ok [] rt
  | x :: xs, rt => (vOf x rt).bind fun y rt => (valsOf xs rt).bind fun ys rt => .ok (y :: ys) rt
theorem valsOf_ok {K : PySem.W.Frag} {w : World} {B : Bnd} {H : Hp} {ρ : List Addr} : ∀ {Hs : Hp} {rt : List O} {vs : List V} {ws : List W}, Rel K w B Hs ρ rt H → WDs K w Hs ρ vs ws →
    ∀ ys rt', valsOf ws rt = .ok ys rt' → ∃ Hs', Ext Hs ρ Hs' ρ ∧ Rel K w B Hs' ρ rt' H ∧ Dens K w Hs' vs ys
  | Hs, rt, _, _, R, .nil, ys, rt', e => by
    cases e
    exact ⟨Hs, Ext.refl, R, .nil⟩
  | Hs, rt, _, _, R, .cons (x := x) (xs := xs) d ds, ys, rt', e => by
    unfold valsOf at e
    cases h : vOf x rt with
    | no => rw [h] at e; cases e
    | ex c fs rt1 => rw [h] at e; cases e
    | ok y rt1 =>
      rw [h] at e
      obtain ⟨Hs1, e1, R1, d1⟩ := vOf_ok R d y rt1 h
      simp only [Ou.bind] at e
      cases h2 : valsOf xs rt1 with
      | no => rw [h2] at e; cases e
      | ex c fs rt2 => rw [h2] at e; cases e
      | ok zs rt2 =>
        rw [h2] at e
        cases e
        obtain ⟨Hs2, e2, R2, d2⟩ := valsOf_ok R1 (ds.mono e1) zs _ h2
        exact ⟨Hs2, e1.trans e2, R2, .cons (d1.mono e2.same) d2⟩
theorem valsOf_noex : ∀ {ws : List W} {rt : List O} {c : XC} {fs : List (Str × D)} {rt' : List O}, valsOf ws rt ≠ .ex c fs rt'
  | [], rt, c, fs, rt' => by intro h; cases h
  | x :: xs, rt, c, fs, rt' => by
    intro h
    unfold valsOf at h
    cases h1 : vOf x rt with
    | no => rw [h1] at h; cases h
    | ex c fs rt1 => exact vOf_noex h1
    | ok y rt1 =>
      rw [h1] at h
      simp only [Ou.bind] at h
      cases h2 : valsOf xs rt1 with
      | no => rw [h2] at h; cases h
      | ex c fs rt2 => exact valsOf_noex h2
      | ok zs rt2 => rw [h2] at h; cases h
theorem PEx.vals {K : PySem.W.Frag} {w : World} {B : Bnd} {Wx : WX} {Hs H : Hp} {ρ : List Addr} {σ : L2.St} {rt : List O} {vs : List V} {ws : List W} {γ δ : Type} {rel2 : Hp → List Addr → δ → γ → Prop} {k : List D → List O → Ou γ} {Q2 : δ → Hp → Prop} {P : Prop}
    (R : Rel K w B Hs ρ rt H) (d : WDs K w Hs ρ vs ws) (h : PEx K w B Wx Hs ρ σ rel2 ((valsOf ws rt).bind k) Q2)
    (hk : ∀ ys rt' Hs', Ext Hs ρ Hs' ρ → Rel K w B Hs' ρ rt' H → Dens K w Hs' vs ys → PEx K w B Wx Hs' ρ σ rel2 (k ys rt') Q2 → P) : P := by
  cases e : valsOf ws rt with
  | ok ys rt' =>
    obtain ⟨Hs', e1, R1, d1⟩ := valsOf_ok R d ys rt' e
    rw [e] at h
    exact hk ys rt' Hs' e1 R1 d1 (PEx.ext (o := k ys rt') h e1)
  | ex c fs rt' => exact (valsOf_noex e).elim
  | no => rw [e] at h; exact h.elim
def mkTup (xs : List D) (rt : List O) : Ou W := if xs.length ≤ 16000000 then .ok (.d (.tup xs)) rt else .no
def mkLst (xs : List D) (rt : List O) : Ou W := if xs.length ≤ 16000000 then .ok (.r rt.length) (rt ++ [.lst xs]) else .no
def eTup (ms : Ex (List W)) : Ex W := fun sl rt => (ms sl rt).bind fun ws rt => (valsOf ws rt).bind fun xs rt => mkTup xs rt
def eLst (ms : Ex (List W)) : Ex W := fun sl rt => (ms sl rt).bind fun ws rt => (valsOf ws rt).bind fun xs rt => mkLst xs rt
section
variable {X : Cx} {Wx : WX} {a b o e : Expr} {es : List Expr} {ma mb m : Ex W} {ms : Ex (List W)} {pos apos : Pos}
theorem vx_tup {k : Nat} (h : VA X Wx es ms) : VX X Wx (.Tuple es k pos) (eTup ms) := by
  obtain ⟨t, a1, a2⟩ := h.ex
  refine vx_pe (pe_tup a1) fun B Hs ρ sl rt σ H Q R S p => ?_
  refine a2 B Hs ρ sl rt σ H _ R S (PEx.bind p fun ws rt1 vs Hs1 ρ1 H1 e1 R1 d1 p1 => ?_)
  refine PEx.vals R1 d1 p1 fun ys rt2 Hs2 e2 R2 d2 p2 => ?_
  unfold mkTup at p2
  split at p2
  · rename_i h
    exact ⟨lim_le (by rw [d2.length]; exact h), new_tup R2 d2 p2⟩
  · exact p2.elim
theorem vx_lst (h : VA X Wx es ms) : VX X Wx (.List es pos) (eLst ms) := by
  obtain ⟨t, a1, a2⟩ := h.ex
  refine vx_pe (pe_lst a1) fun B Hs ρ sl rt σ H Q R S p => ?_
  refine a2 B Hs ρ sl rt σ H _ R S (PEx.bind p fun ws rt1 vs Hs1 ρ1 H1 e1 R1 d1 p1 => ?_)
  refine PEx.vals R1 d1 p1 fun ys rt2 Hs2 e2 R2 d2 p2 => ?_
  unfold mkLst at p2
  split at p2
  · rename_i h
    exact ⟨lim_le (by rw [d2.length]; exact h), new_list R2 d2 p2⟩
  · exact p2.elim

/-! ### subscripts -/
theorem PE.or {t t' : TE} (h : PE X e t) (h' : PE X e t') : PE X e (fun σ H Q => t σ H Q ∨ t' σ H Q) := ⟨fun pins s σ H Q I hw => hw.elim (h.run pins s σ H Q I) (h'.run pins s σ H Q I)⟩
theorem Dens.atI {K : PySem.W.Frag} {w : World} {H : Hp} {vs : List V} {xs : List D} {i : Int} {x : D} (h : Dens K w H vs xs) (e : L2.atI xs i = some x) : ∃ v, L2.atI vs i = some v ∧ Den K w H v x := by
  unfold L2.atI at e ⊢
  rw [h.length]
  cases hn : ixN xs.length i with
  | none => rw [hn] at e; cases e
  | some j =>
    rw [hn] at e
    exact h.get e
def strAt (s : Str) (i : Int) : Option Nat := L2.atI s.cps.toList i
/-- x[y] of a list, a tuple, a text -/
def gIx (x y : W) (rt : List O) : Ou W := match y with
  | .d (.int i) => match lsOf x rt with
    | some xs => match L2.atI xs i with
      | some z => .ok (.d z) rt
      | none => .no
    | none => match tpOf x with
      | some xs => match L2.atI xs i with
        | some z => .ok (.d z) rt
        | none => .no
      | none => match x with
        | .d (.str s) => if s.length ≤ 16000000 then (match strAt s i with
          | some c => .ok (.d (.str ⟨#[c]⟩)) rt
          | none => .no) else .no
        | _ => .no
  | _ => .no
theorem gIx_ok (Wx : WX) (B : Bnd) (Hs : Hp) (ρ : List Addr) (rt : List O) (σ : L2.St) (H : Hp) (Q : VK) (x y : W) (v u : V) (R : Rel X.K X.w B Hs ρ rt H) (d1 : WD X.K X.w Hs ρ v x) (d2 : WD X.K X.w Hs ρ u y)
    (p : PE1 X.K X.w B Wx Hs ρ σ (gIx x y rt) Q) : rIx X.K v u H Q := by
  unfold gIx at p
  split at p
  · rename_i i
    cases d2
    split at p
    · rename_i xs e1
      obtain ⟨a, vs, rfl, h1, h2⟩ := lsOf_ok R d1 e1
      split at p
      · rename_i z e2
        obtain ⟨v, h3, h4⟩ := h2.atI e2
        exact .inl ⟨a, vs, i, v, rfl, rfl, SqL.of h1, h3, p _ Hs ρ H Ext.refl R h4⟩
      · exact p.elim
    · split at p
      · rename_i xs e1
        obtain ⟨a, vs, rfl, h0, h1, h2⟩ := tpOf_ok R d1 e1
        split at p
        · rename_i z e2
          obtain ⟨v, h3, h4⟩ := h2.atI e2
          exact .inr (.inl ⟨a, vs, i, v, rfl, rfl, h1, h3, p _ Hs ρ H Ext.refl R h4⟩)
        · exact p.elim
      · split at p
        · rename_i s
          cases d1
          split at p
          · rename_i h
            split at p
            · rename_i c e2
              exact .inr (.inr ⟨_, i, c, rfl, rfl, lim_le h, e2, p _ Hs ρ H Ext.refl R (.str _)⟩)
            · exact p.elim
          · exact p.elim
        · exact p.elim
  · exact p.elim
theorem vx_ix (ha : VX X Wx a ma) (hb : VX X Wx b mb) (hs : PlainIx b := by intro _ _; rfl) : VX X Wx (.Subscript a b pos) (eOp gIx ma mb) := by
  obtain ⟨ta, a1, a2⟩ := ha.ex
  obtain ⟨tb, b1, b2⟩ := hb.ex
  exact vx_pe (pe_ix ix_seq a1 b1 hs) (two_op (fun Wx => gIx_ok Wx) a2 b2)

/-! ### slices -/
def oNone : Ex (Option Int) := fun _ rt => .ok none rt
def oSome (m : Ex W) : Ex (Option Int) := fun sl rt => (m sl rt).bind fun x rt => match x with
  | .d (.int i) => .ok (some i) rt
  | _ => .no
structure VOp (X : Cx) (Wx : WX) (e : Option Expr) (m : Ex (Option Int)) : Prop where
  ex : ∃ t, PO X e t ∧ ∀ (B : Bnd) (Hs : Hp) (ρ : List Addr) (sl : Sl) (rt : List O) (σ : L2.St) (H : Hp) (Q : Option Int → Hp → Prop), Rel X.K X.w B Hs ρ rt H → SlD X.K X.w Hs ρ σ sl → PEx X.K X.w B Wx Hs ρ σ (fun _ _ a b => a = b) (m sl rt) Q → t σ H Q
theorem vo_none : VOp X Wx none oNone := ⟨_, po_none, fun B Hs ρ sl rt σ H Q R S p => p none Hs ρ H Ext.refl R rfl⟩
theorem vo_some (h : VX X Wx e m) : VOp X Wx (some e) (oSome m) := by
  obtain ⟨t, a1, a2⟩ := h.ex
  refine ⟨_, po_some a1, fun B Hs ρ sl rt σ H Q R S p => ?_⟩
  refine a2 B Hs ρ sl rt σ H _ R S (PEx.bind p fun x rt1 v Hs1 ρ1 H1 e1 R1 d1 p1 => ?_)
  split at p1
  · cases d1
    exact ⟨_, rfl, p1 _ Hs1 ρ1 H1 Ext.refl R1 rfl⟩
  · exact p1.elim
def cut {α : Type} (xs : List α) (lo hi : Option Int) : List α := (xs.drop (HT.sIx xs.length 0 lo)).take (HT.sIx xs.length xs.length hi - HT.sIx xs.length 0 lo)
theorem Dens.cut {K : PySem.W.Frag} {w : World} {H : Hp} {vs : List V} {xs : List D} (h : Dens K w H vs xs) (lo hi : Option Int) : Dens K w H (cutV vs lo hi) (VE.cut xs lo hi) := by
  unfold cutV VE.cut
  rw [h.length]
  exact (h.drop _).take _
def gSl (x : W) (lo hi : Option Int) (rt : List O) : Ou W := match lsOf x rt with
  | some xs => .ok (.r rt.length) (rt ++ [.lst (cut xs lo hi)])
  | none => match tpOf x with
    | some xs => if HT.sIx xs.length 0 lo = 0 ∧ HT.sIx xs.length xs.length hi = xs.length then .ok x rt else .ok (.d (.tup (cut xs lo hi))) rt
    | none => match x with
      | .d (.str s) => if s.length ≤ 16000000 then .ok (.d (.str (Txt.slice s lo hi))) rt else .no
      | _ => .no
def eSl (m : Ex W) (l h : Ex (Option Int)) : Ex W := fun sl rt => (m sl rt).bind fun x rt => (l sl rt).bind fun lo rt => (h sl rt).bind fun hi rt => gSl x lo hi rt
theorem vx_slice {lo hi : Option Expr} {ml mh : Ex (Option Int)} {p2 : Pos} (he : VX X Wx e m) (hl : VOp X Wx lo ml) (hh : VOp X Wx hi mh) : VX X Wx (.Subscript e (.Slice lo hi none p2) pos) (eSl m ml mh) := by
  obtain ⟨t, a1, a2⟩ := he.ex
  obtain ⟨tl, b1, b2⟩ := hl.ex
  obtain ⟨th, c1, c2⟩ := hh.ex
  refine vx_pe (pe_slice (sl_list.or (sl_tupA.or C8.sl_txt)) a1 b1 c1) fun B Hs ρ sl rt σ H Q R S p => ?_
  refine a2 B Hs ρ sl rt σ H _ R S (PEx.bind p fun x rt1 v Hs1 ρ1 H1 e1 R1 d1 p1 => ?_)
  refine b2 B Hs1 ρ1 sl rt1 σ H1 _ R1 (S.mono e1) (PEx.bind p1 fun lo rt2 u Hs2 ρ2 H2 e2 R2 d2 p2 => ?_)
  refine c2 B Hs2 ρ2 sl rt2 σ H2 _ R2 (S.mono (e1.trans e2)) (PEx.bind p2 fun hi rt3 u3 Hs3 ρ3 H3 e3 R3 d3 p3 => ?_)
  subst d2
  subst d3
  have d1' := d1.mono (e2.trans e3)
  unfold gSl at p3
  split at p3
  · rename_i xs e4
    obtain ⟨a, vs, rfl, h1, h2⟩ := lsOf_ok R3 d1' e4
    exact .inl ⟨a, vs, rfl, SqL.of h1, new_list R3 (h2.cut _ _) p3⟩
  · split at p3
    · rename_i xs e4
      obtain ⟨a, vs, rfl, h0, h1, h2⟩ := tpOf_ok R3 d1' e4
      refine .inr (.inl ⟨a, vs, rfl, h1, fun h => ?_, fun h => ?_⟩)
      · rw [h2.length] at h
        rw [if_pos h] at p3
        exact p3 _ Hs3 ρ3 H3 Ext.refl R3 d1'
      · rw [h2.length] at h
        rw [if_neg h] at p3
        exact new_tup R3 (h2.cut _ _) p3
    · split at p3
      · rename_i s
        cases d1'
        split at p3
        · rename_i h
          exact .inr (.inr ⟨_, rfl, lim_le h, p3 _ Hs3 ρ3 H3 Ext.refl R3 (.str _)⟩)
        · exact p3.elim
      · exact p3.elim
end
end VE

set_option maxRecDepth 100000
set_option maxHeartbeats 1000000
namespace VE
open PySem PySem.Spec L2

/-! ### dicts as data -/
def dget {κ : Type} [DecidableEq κ] (kvs : List (κ × D)) (k : κ) : Option D := (kvs.find? fun kv => decide (kv.1 = k)).map (·.2)
def dput {κ : Type} [DecidableEq κ] (kvs : List (κ × D)) (k : κ) (v : D) : List (κ × D) :=
  if (kvs.any fun kv => decide (kv.1 = k)) = true then kvs.map (fun kv => if kv.1 = k then (kv.1, v) else kv) else kvs ++ [(k, v)]
def ddrop {κ : Type} [DecidableEq κ] (kvs : List (κ × D)) (k : κ) : List (κ × D) := kvs.filter fun kv => decide (kv.1 ≠ k)
section
variable {K : PySem.W.Frag} {w : World} {H : Hp}
theorem DenA.length : ∀ {κ : Type} {vs : List (κ × V)} {xs : List (κ × D)}, DenA K w H vs xs → vs.length = xs.length
  | _, _, _, .nil => rfl
  | _, _, _, .cons _ t => by simp [DenA.length t]
theorem DenA.val {κ : Type} [DecidableEq κ] (k : κ) : ∀ {vs : List (κ × V)} {xs : List (κ × D)}, DenA K w H vs xs → (valV vs k = none ∧ dget xs k = none) ∨ ∃ v x, valV vs k = some v ∧ dget xs k = some x ∧ Den K w H v x
  | _, _, .nil => .inl ⟨rfl, rfl⟩
  | _, _, .cons (k := k') (v := v) (x := x) d t => by
    by_cases e : k' = k
    · refine .inr ⟨v, x, valV_pos (p := (k', v)) e, ?_, d⟩
      unfold dget
      rw [List.find?_cons]
      simp [e]
    · have h1 := DenA.val k t
      rw [valV_neg (p := (k', v)) e]
      have h2 : ∀ l : List (κ × D), dget ((k', x) :: l) k = dget l k := fun l => by unfold dget; rw [List.find?_cons]; simp [e]
      rw [h2]
      exact h1
theorem DenA.any {κ : Type} [DecidableEq κ] (k : κ) : ∀ {vs : List (κ × V)} {xs : List (κ × D)}, DenA K w H vs xs → (vs.any fun kv => decide (kv.1 = k)) = xs.any fun kv => decide (kv.1 = k)
  | _, _, .nil => rfl
  | _, _, .cons d t => by rw [List.any_cons, List.any_cons, DenA.any k t]
theorem DenA.repl {κ : Type} [DecidableEq κ] (k : κ) {v : V} {x : D} (dv : Den K w H v x) : ∀ {vs : List (κ × V)} {xs : List (κ × D)}, DenA K w H vs xs →
    DenA K w H (vs.map fun kv => if kv.1 = k then (kv.1, v) else kv) (xs.map fun kv => if kv.1 = k then (kv.1, x) else kv)
  | _, _, .nil => .nil
  | _, _, .cons (k := k') d t => by
    rw [List.map_cons, List.map_cons]
    by_cases e : k' = k
    · simp only [e, if_true]
      exact .cons dv (DenA.repl k dv t)
    · simp only [e, if_false]
      exact .cons d (DenA.repl k dv t)
theorem DenA.append : ∀ {κ : Type} {vs us : List (κ × V)} {xs ys : List (κ × D)}, DenA K w H vs xs → DenA K w H us ys → DenA K w H (vs ++ us) (xs ++ ys)
  | _, _, _, _, _, .nil, h => h
  | _, _, _, _, _, .cons a b, h => .cons a (DenA.append b h)
theorem DenA.put {κ : Type} [DecidableEq κ] (k : κ) {v : V} {x : D} (dv : Den K w H v x) {vs : List (κ × V)} {xs : List (κ × D)} (h : DenA K w H vs xs) : DenA K w H (putK vs k v) (dput xs k x) := by
  unfold putK dput
  rw [h.any k]
  split
  · exact h.repl k dv
  · exact h.append (.cons dv .nil)
end
/-- a key: a number or a text; a tuple of these -/
def keyOf : D → Option Key
  | .int i => some (.inl i)
  | .str s => some (.inr s)
  | _ => none
def keysOf : List D → Option (List Key)
  | [] => some []
  | x :: xs => match keyOf x, keysOf xs with
    | some k, some ks => some (k :: ks)
    | _, _ => none
theorem key_ok {K : PySem.W.Frag} {w : World} {H : Hp} {v : V} {x : D} {k : Key} (d : Den K w H v x) (e : keyOf x = some k) : v = kV k := by
  cases d <;> cases e <;> rfl
theorem keys_ok {K : PySem.W.Frag} {w : World} {H : Hp} : ∀ {vs : List V} {xs : List D} {ks : List Key}, Dens K w H vs xs → keysOf xs = some ks → vs = ks.map kV
  | _, _, _, .nil, e => by cases e; rfl
  | _, _, _, .cons (x := x) (xs := xs) d t, e => by
    unfold keysOf at e
    cases h1 : keyOf x with
    | none => simp only [h1] at e; cases e
    | some k =>
      cases h2 : keysOf xs with
      | none => simp only [h1, h2] at e; cases e
      | some ks =>
        simp only [h1, h2] at e
        cases e
        rw [List.map_cons, key_ok d h1, keys_ok t h2]

section
variable {K : PySem.W.Frag} {w : World} {B : Bnd} {Wx : WX} {Hs H : Hp} {ρ : List Addr} {rt : List O} {σ : L2.St} {v : V} {n : Nat}
/-- a live list: what stands, and what may be put there -/
theorem live_lst {xs : List D} (R : Rel K w B Hs ρ rt H) (d : WD K w Hs ρ v (.r n)) (e : rt[n]? = some (.lst xs)) :
    ∃ a vs, v = .ref a ∧ H a = some (.lst vs) ∧ Dens K w Hs vs xs ∧ ∀ us ys, Dens K w Hs us ys → Rel K w B Hs ρ (rt.set n (.lst ys)) (upd H a (.lst us)) := by
  obtain ⟨F, a, rfl, h1, h2, h3, h4⟩ := R.root e d
  cases h2 with
  | @lst _ vs _ g1 g2 =>
    refine ⟨a, vs, rfl, g1, g2, fun us ys du => R.write h1 e (fun F hF => ?_) fun F hF _ => ?_⟩
    · cases hF; simp
    · cases hF; exact .lst upd_same du
theorem live_dk {xs : List (Key × D)} (R : Rel K w B Hs ρ rt H) (d : WD K w Hs ρ v (.r n)) (e : rt[n]? = some (.dk xs)) :
    ∃ a vs, v = .ref a ∧ H a = some (.dK vs) ∧ DenA K w Hs vs xs ∧ ∀ us ys, DenA K w Hs us ys → Rel K w B Hs ρ (rt.set n (.dk ys)) (upd H a (.dK us)) := by
  obtain ⟨F, a, rfl, h1, h2, h3, h4⟩ := R.root e d
  cases h2 with
  | @dk _ vs _ g1 g2 =>
    refine ⟨a, vs, rfl, g1, g2, fun us ys du => R.write h1 e (fun F hF => ?_) fun F hF _ => ?_⟩
    · cases hF; simp
    · cases hF; exact .dk upd_same du
theorem live_dt {xs : List (List Key × D)} (R : Rel K w B Hs ρ rt H) (d : WD K w Hs ρ v (.r n)) (e : rt[n]? = some (.dt xs)) :
    ∃ a vs, v = .ref a ∧ H a = some (.dT vs) ∧ DenA K w Hs vs xs ∧ ∀ us ys, DenA K w Hs us ys → Rel K w B Hs ρ (rt.set n (.dt ys)) (upd H a (.dT us)) := by
  obtain ⟨F, a, rfl, h1, h2, h3, h4⟩ := R.root e d
  cases h2 with
  | @dt _ vs _ g1 g2 =>
    refine ⟨a, vs, rfl, g1, g2, fun us ys du => R.write h1 e (fun F hF => ?_) fun F hF _ => ?_⟩
    · cases hF; simp
    · cases hF; exact .dt upd_same du
end

/-! ### o[i] = v -/
def setIx (o i : W) (y : D) (rt : List O) : Ou Unit := match o with
  | .r n => match rt[n]? with
    | some (.lst xs) => match i with
      | .d (.int k) => match ixN xs.length k with
        | some j => .ok () (rt.set n (.lst (xs.set j y)))
        | none => .no
      | _ => .no
    | some (.dk kvs) => match i with
      | .d z => match keyOf z with
        | some k => if kvs.length < 16000000 then .ok () (rt.set n (.dk (dput kvs k y))) else .no
        | none => .no
      | _ => .no
    | some (.dt kvs) => match i with
      | .d (.tup zs) => match keysOf zs with
        | some k => if kvs.length < 16000000 then .ok () (rt.set n (.dt (dput kvs k y))) else .no
        | none => .no
      | _ => .no
    | _ => .no
  | _ => .no
def sAsg (m : Ex W) (g : Gx) : Sx := fun sl rt => (m sl rt).seq sl fun x rt => (g x sl rt).seq sl fun sl rt => .nx sl rt
def gSb (mo mi : Ex W) : Gx := fun x sl rt => (mo sl rt).bind fun o rt => (mi sl rt).bind fun i rt => (vOf x rt).bind fun y rt => (setIx o i y rt).bind fun _ rt => .ok sl rt
def rSet : TSet := fun o i v H Q => rSetL o i v H Q ∨ rSetD o i v H Q
theorem set_any {X : Cx} (hu : X.A.units + 1 < cLine) : PSet X rSet := fun pins s σ H o i v ov iv u Q I ro ri rv h => by
  rcases h with h | h
  · exact set_list pins s σ H o i v ov iv u Q I ro ri rv h
  · exact set_dict hu pins s σ H o i v ov iv u Q I ro ri rv h
theorem setIx_ok {K : PySem.W.Frag} {w : World} {B : Bnd} {Wx : WX} {Hs H : Hp} {ρ : List Addr} {rt : List O} {σ : L2.St} {o i : W} {vo vi vy : V} {y : D} {Q : Hp → Prop} (R : Rel K w B Hs ρ rt H) (d1 : WD K w Hs ρ vo o) (d2 : WD K w Hs ρ vi i) (d3 : Den K w Hs vy y)
    (p : PEx K w B Wx Hs ρ σ (fun _ _ (_ : Unit) (_ : Unit) => True) (setIx o i y rt) (fun _ => Q)) : rSet vo vi vy H Q := by
  unfold setIx at p
  split at p
  · rename_i n
    split at p
    · rename_i xs e
      obtain ⟨a, vs, rfl, h1, h2, h3⟩ := live_lst R d1 e
      split at p
      · rename_i k
        cases d2
        split at p
        · rename_i j ej
          exact .inl ⟨a, vs, k, j, rfl, rfl, h1, by rw [h2.length]; exact ej, p () Hs ρ _ Ext.refl (h3 _ _ (h2.set d3 j)) trivial⟩
        · exact p.elim
      · exact p.elim
    · rename_i kvs e
      obtain ⟨a, vs, rfl, h1, h2, h3⟩ := live_dk R d1 e
      split at p
      · rename_i z
        split at p
        · rename_i k ek
          split at p
          · rename_i hl
            have := key_ok d2 ek
            subst this
            exact .inr ⟨a, _, rfl, DPut.k h1 (lim_lt (by rw [h2.length]; exact hl)), p () Hs ρ _ Ext.refl (h3 _ _ (h2.put k d3)) trivial⟩
          · exact p.elim
        · exact p.elim
      · exact p.elim
    · rename_i kvs e
      obtain ⟨a, vs, rfl, h1, h2, h3⟩ := live_dt R d1 e
      split at p
      · rename_i zs
        split at p
        · rename_i k ek
          split at p
          · rename_i hl
            cases d2 with
            | @tup b us _ g1 g2 =>
              have := keys_ok g2 ek
              subst this
              exact .inr ⟨a, _, rfl, DPut.t h1 (R.same _ _ g1) (lim_lt (by rw [h2.length]; exact hl)), p () Hs ρ _ Ext.refl (h3 _ _ (h2.put k d3)) trivial⟩
          · exact p.elim
        · exact p.elim
      · exact p.elim
    · exact p.elim
  · exact p.elim
section
variable {X : Cx} {Wx : WX} {a b o i e : Expr} {es : List Expr} {mo mi m : Ex W} {ms : Ex (List W)} {pos apos cpos : Pos}
theorem vg_sub (hu : X.A.units + 1 < cLine) (ho : VX X Wx o mo) (hi : VX X Wx i mi)
    (ha : ∀ v, assign (.Subscript o i pos) X.env v = (do
      let ov ← holding [v] (eval o X.env)
      let iv ← holding [v, ov] (eval i X.env)
      standAt pos
      holding [v, ov, iv] (setItem ov iv v)
      release [v, ov, iv] []) := by intros; rfl) : VG X Wx (.Subscript o i pos) (gSb mo mi) := by
  obtain ⟨t, a1, a2⟩ := ho.ex
  obtain ⟨u, b1, b2⟩ := hi.ex
  refine ⟨_, pg_sub a1 b1 (set_any hu) ha, fun B Hs ρ x v sl rt σ H Q R S d p => ?_⟩
  refine a2 B Hs ρ sl rt σ H _ R S (PEx.bind p fun y rt1 vo Hs1 ρ1 H1 e1 R1 d1 p1 => ?_)
  refine b2 B Hs1 ρ1 sl rt1 σ H1 _ R1 (S.mono e1) (PEx.bind p1 fun z rt2 vi Hs2 ρ2 H2 e2 R2 d2 p2 => ?_)
  refine PEx.val R2 (d.mono (e1.trans e2)) p2 fun y3 rt3 Hs3 e3 R3 d3 p3 => ?_
  refine setIx_ok R3 (d1.mono (e2.trans e3)) (d2.mono e3) d3 (PEx.bind p3 fun _ rt4 v4 Hs4 ρ4 H4 e4 R4 d4 p4 => ?_)
  exact p4 σ Hs4 ρ4 H4 Ext.refl R4 ⟨S.mono (((e1.trans e2).trans e3).trans e4), rfl⟩
theorem vs_asg {tg : Expr} {g : Gx} (he : VX X Wx e m) (hg : VG X Wx tg g) (hs : swapsWithSole [tg] e pos.line X.env = pure false := by rfl) (hw : swappedStores [tg] e X.env = pure none := by rfl)
    (h1 : (assignEach [tg] X.env).map (·.2) = [assign tg X.env] := by rfl) : VS X Wx (.Assign [tg] e pos) (sAsg m g) := by
  obtain ⟨t, a1, a2⟩ := he.ex
  obtain ⟨u, b1, b2⟩ := hg.ex
  refine ⟨_, ps_asg a1 b1 hs hw h1, fun B Hs ρ sl rt σ H D R S p => ?_⟩
  refine a2 B Hs ρ sl rt σ H _ R S (PEx.seq S p fun y rt1 v Hs1 ρ1 H1 e1 R1 d1 p1 => ?_)
  refine b2 B Hs1 ρ1 y v sl rt1 σ H1 _ R1 (S.mono e1) d1 (PEx.seq (S.mono e1) p1 fun sl2 rt2 σ2 Hs2 ρ2 H2 e2 R2 d2 p2 => ?_)
  exact p2 Hs2 ρ2 σ2 H2 Ext.refl R2 d2.1 d2.2
end

/-! ### x op= e, x[i] op= e -/
structure IpV (X : Cx) (op : Operator) (g : W → W → List O → Ou W) : Prop where
  ex : ∃ r, PIp X op r ∧ ∀ (Wx : WX) (B : Bnd) (Hs : Hp) (ρ : List Addr) (rt : List O) (σ : L2.St) (H : Hp) (Q : VK) (x y : W) (v u : V), Rel X.K X.w B Hs ρ rt H → WD X.K X.w Hs ρ v x → WD X.K X.w Hs ρ u y → PE1 X.K X.w B Wx Hs ρ σ (g x y rt) Q → r v u H Q
def ipA (g : W → W → List O → Ou W) (i : Nat) (m : Ex W) : Sx := fun sl rt => match sl[i]? with
  | some (some x) => (m sl rt).seq sl fun y rt => (g x y rt).seq sl fun z rt => .nx (sl.set i (some z)) rt
  | _ => .no
def gAddI (x y : W) (rt : List O) : Ou W := match x, y with
  | .d (.int i), .d (.int j) => .ok (.d (.int (i + j))) rt
  | .d (.str i), .d (.str j) => if i.length + j.length ≤ 16000000 then .ok (.d (.str (i ++ j))) rt else .no
  | _, _ => .no
theorem ip_of {X : Cx} {op : Operator} {r : R2} (h : OpR X (inplaceOp op) r) : PIp X op r := fun pins s σ H x y v u Q I rx ry hr => augR h I rx ry hr

section
variable {X : Cx} {Wx : WX} {o i e : Expr} {mo mi m : Ex W} {pos tpos : Pos} {op : Operator} {g : W → W → List O → Ou W}
theorem ipv_add : IpV X .Add gAddI := by
  refine ⟨_, ip_of (iop_add.or iop_add_str), fun Wx B Hs ρ rt σ H Q x y v u R d1 d2 p => ?_⟩
  unfold gAddI at p
  split at p
  · cases d1; cases d2
    exact .inl ⟨_, _, rfl, rfl, p _ Hs ρ H Ext.refl R (.int _)⟩
  · cases d1; cases d2
    split at p
    · rename_i h
      exact .inr ⟨_, _, rfl, rfl, lim_le h, p _ Hs ρ H Ext.refl R (.str _)⟩
    · exact p.elim
  · exact p.elim
theorem ipv_sub : IpV X .Sub gDif := by
  refine ⟨_, ip_of iop_sub, fun Wx B Hs ρ rt σ H Q x y v u R d1 d2 p => ?_⟩
  unfold gDif at p
  split at p
  · cases d1; cases d2
    exact ⟨_, _, rfl, rfl, p _ Hs ρ H Ext.refl R (.int _)⟩
  · exact p.elim
theorem vs_aug (k : Nat) {x : Str} {pos' : Pos} (hN : X.N.Nodup) (hi : X.N[k]? = some x) (hx : Loc X.env.scope x) (he : VX X Wx e m) (ho : IpV X op g) (hf : X.fn x = true ∨ X.env.scope.names.lookup x = some .local := by first | exact .inl rfl | exact .inr rfl | assumption) :
    VS X Wx (.AugAssign (.Name x pos') op e pos) (ipA g k m) := by
  obtain ⟨t, a1, a2⟩ := he.ex
  obtain ⟨r, h1, h2⟩ := ho.ex
  refine ⟨_, ps_aug hN hi hx a1 h1 hf, fun B Hs ρ sl rt σ H D R S p => ?_⟩
  unfold ipA at p
  cases h : sl[k]? with
  | none => simp only [h] at p; exact p.elim
  | some z =>
    cases z with
    | none => simp only [h] at p; exact p.elim
    | some z =>
      simp only [h] at p
      obtain ⟨v, ev, dv⟩ := S.at_ k z h
      refine ⟨v, ev, a2 B Hs ρ sl rt σ H _ R S (PEx.seq S p fun y rt1 u Hs1 ρ1 H1 e1 R1 d1 p1 => ?_)⟩
      refine h2 Wx B Hs1 ρ1 rt1 σ H1 _ z y v u R1 (dv.mono e1) d1 (PEx.seq (S.mono e1) p1 fun q rt2 w Hs2 ρ2 H2 e2 R2 d2 p2 => ?_)
      exact p2 Hs2 ρ2 _ H2 Ext.refl R2 ((S.mono (e1.trans e2)).set k d2) (by simp)
/-- o[i], for o[i] op= e -/
def gIxA (x y : W) (rt : List O) : Ou W := match lsOf x rt, y with
  | some xs, .d (.int i) => match L2.atI xs i with
    | some z => .ok (.d z) rt
    | none => .no
  | _, _ => match x, y with
    | .r n, .d z => match rt[n]? with
      | some (.dk kvs) => match keyOf z with
        | some k => match dget kvs k with
          | some v => .ok (.d v) rt
          | none => .no
        | none => .no
      | _ => .no
    | _, _ => .no
def rGetA (K : PySem.W.Frag) : V → V → Hp → VK → Prop := fun o i H Q => (∃ p xs k v, o = .ref p ∧ i = .int k ∧ SqL K H p xs ∧ L2.atI xs k = some v ∧ Q v H) ∨ ∃ a v, o = .ref a ∧ DGet H a i (some v) ∧ Q v H
theorem get_any (hu : X.A.units + 1 < cLine) : PGet X (rGetA X.K) := fun pins s σ H o i ov iv Q I ro ri h => by
  rcases h with ⟨p, xs, k, v, rfl, rfl, hs, hk, q⟩ | ⟨a, v, rfl, g, q⟩
  · cases ro
    obtain ⟨t, rfl⟩ := ri
    obtain ⟨its, rv, pl, hz⟩ := I.list hs
    obtain ⟨j, h1, h2, h3, h4, h5⟩ := atI_get hk
    obtain ⟨u, hu2, ru⟩ := rv.get h2
    have hl := rv.length
    have hn := line63
    have fin : EP X pins σ Q u s := ⟨v, H, I, ru, q⟩
    by_cases h0 : 0 ≤ k
    · have hj : k.toNat = j := by
        rw [seqIndex_of h0 h5] at h1
        exact Option.some.inj h1
      exact wpAny_getItem_list pl.isList h0 (by omega) (by rw [hj]; simpa using hu2) fin
    · have hj : (k + (its.toArray.size : Int)).toNat = j := by
        rw [seqIndex_neg (by omega) h4] at h1
        rw [List.size_toArray, ← hl]
        exact Option.some.inj h1
      exact wpAny_getItem_list_neg pl.isList (by omega) (by rw [List.size_toArray] <;> omega) (by omega) (by rw [hj]; simpa using hu2) fin
  · cases ro
    exact d_getItem hu I g ri fun w' s' I' r' => ⟨v, H, I', r', q⟩
end
end VE

set_option maxRecDepth 100000
set_option maxHeartbeats 1000000
namespace VE
open PySem PySem.Spec L2
section
variable {X : Cx} {Wx : WX} {o i e : Expr} {mo mi m : Ex W} {pos tpos : Pos} {op : Operator} {g : W → W → List O → Ou W}
theorem getA_ok {K : PySem.W.Frag} {w : World} {B : Bnd} {Wx : WX} {Hs H : Hp} {ρ : List Addr} {rt : List O} {σ : L2.St} {x y : W} {v u : V} {Q : VK} (R : Rel K w B Hs ρ rt H) (d1 : WD K w Hs ρ v x) (d2 : WD K w Hs ρ u y)
    (p : PE1 K w B Wx Hs ρ σ (gIxA x y rt) Q) : rGetA K v u H Q := by
  unfold gIxA at p
  split at p
  · rename_i xs i e1
    cases d2
    obtain ⟨a, vs, rfl, h1, h2⟩ := lsOf_ok R d1 e1
    split at p
    · rename_i z e2
      obtain ⟨z', h3, h4⟩ := h2.atI e2
      exact .inl ⟨a, vs, i, z', rfl, rfl, SqL.of h1, h3, p _ Hs ρ H Ext.refl R h4⟩
    · exact p.elim
  · split at p
    · rename_i n z _
      split at p
      · rename_i kvs e1
        obtain ⟨a, vs, rfl, h1, h2, h3⟩ := live_dk R d1 e1
        split at p
        · rename_i k ek
          split at p
          · rename_i q eq
            have := key_ok d2 ek
            subst this
            rcases h2.val k with ⟨_, z2⟩ | ⟨z1, z2, g1, g2, g3⟩
            · rw [z2] at eq; cases eq
            · rw [g2] at eq
              cases eq
              exact .inr ⟨a, z1, rfl, by rw [← g1]; exact DGet.k h1, p _ Hs ρ H Ext.refl R g3⟩
          · exact p.elim
        · exact p.elim
      · exact p.elim
    · exact p.elim
def sAugS (go : W → W → List O → Ou W) (mo mi m : Ex W) : Sx := fun sl rt => (mo sl rt).seq sl fun o rt => (mi sl rt).seq sl fun i rt => (gIxA o i rt).seq sl fun x rt => (m sl rt).seq sl fun y rt => (go x y rt).seq sl fun z rt =>
  (vOf z rt).seq sl fun z rt => (setIx o i z rt).seq sl fun _ rt => .nx sl rt
theorem PEx.valS {K : PySem.W.Frag} {w : World} {B : Bnd} {Wx : WX} {Hs H : Hp} {ρ : List Addr} {n : Nat} {rt : List O} {v : V} {x : W} {sl : Sl} {k : D → List O → Os} {D' : Ends} {P : Prop}
    (R : Rel K w B Hs ρ rt H) (d : WD K w Hs ρ v x) (h : PSx K w B Wx Hs ρ n ((vOf x rt).seq sl k) D')
    (hk : ∀ y rt' Hs', Ext Hs ρ Hs' ρ → Rel K w B Hs' ρ rt' H → Den K w Hs' v y → PSx K w B Wx Hs' ρ n (k y rt') D' → P) : P := by
  cases e : vOf x rt with
  | ok y rt' =>
    obtain ⟨Hs', e1, R1, d1⟩ := vOf_ok R d y rt' e
    rw [e] at h
    exact hk y rt' Hs' e1 R1 d1 (PSx.ext (o := k y rt') h e1)
  | ex c fs rt' => exact (vOf_noex e).elim
  | no => rw [e] at h; exact h.elim
theorem vs_augS (hu : X.A.units + 1 < cLine) (ho : VX X Wx o mo) (hi : VX X Wx i mi) (he : VX X Wx e m) (hg : IpV X op g)
    (ha : ∀ ov iv new, augStore i ov iv new = (do holding [new, ov, iv] (setItem ov iv new); release [new, ov, iv] []; pure .next) := by intros; rfl) : VS X Wx (.AugAssign (.Subscript o i tpos) op e pos) (sAugS g mo mi m) := by
  obtain ⟨t, a1, a2⟩ := ho.ex
  obtain ⟨u, b1, b2⟩ := hi.ex
  obtain ⟨q, c1, c2⟩ := he.ex
  obtain ⟨r, h1, h2⟩ := hg.ex
  refine ⟨_, ps_augS a1 b1 (get_any hu) c1 h1 (set_any hu) ha, fun B Hs ρ sl rt σ H D R S p => ?_⟩
  refine a2 B Hs ρ sl rt σ H _ R S (PEx.seq S p fun x1 rt1 v1 Hs1 ρ1 H1 e1 R1 d1 p1 => ?_)
  have S1 := S.mono e1
  refine b2 B Hs1 ρ1 sl rt1 σ H1 _ R1 S1 (PEx.seq S1 p1 fun x2 rt2 v2 Hs2 ρ2 H2 e2 R2 d2 p2 => ?_)
  have S2 := S1.mono e2
  refine getA_ok (Wx := Wx) (σ := σ) R2 (d1.mono e2) d2 (PEx.seq S2 p2 fun x3 rt3 v3 Hs3 ρ3 H3 e3 R3 d3 p3 => ?_)
  have S3 := S2.mono e3
  refine c2 B Hs3 ρ3 sl rt3 σ H3 _ R3 S3 (PEx.seq S3 p3 fun x4 rt4 v4 Hs4 ρ4 H4 e4 R4 d4 p4 => ?_)
  have S4 := S3.mono e4
  refine h2 Wx B Hs4 ρ4 rt4 σ H4 _ x3 x4 v3 v4 R4 (d3.mono e4) d4 (PEx.seq S4 p4 fun x5 rt5 v5 Hs5 ρ5 H5 e5 R5 d5 p5 => ?_)
  have S5 := S4.mono e5
  refine PEx.valS R5 d5 p5 fun y rt6 Hs6 e6 R6 d6 p6 => ?_
  have S6 := S5.mono e6
  have e26 := ((e3.trans e4).trans e5).trans e6
  refine setIx_ok (Wx := Wx) (σ := σ) R6 (d1.mono (e2.trans e26)) (d2.mono e26) d6 (PEx.seq S6 p6 fun x7 rt7 v7 Hs7 ρ7 H7 e7 R7 d7 p7 => ?_)
  exact p7 Hs7 ρ7 σ H7 Ext.refl R7 (S6.mono e7) rfl

/-! ### methods of built-in types -/
structure MtV (X : Cx) (T id : String) (ty : W → List O → Bool) (g : W → List W → List O → Ou W) : Prop where
  ty : ∀ (B : Bnd) (Hs : Hp) (ρ : List Addr) (rt : List O) (H : Hp) (v : V) (x : W), Rel X.K X.w B Hs ρ rt H → WD X.K X.w Hs ρ v x → ty x rt = true → tyV X.K T v H
  ex : ∃ r, MtR X id r ∧ ∀ (Wx : WX) (B : Bnd) (Hs : Hp) (ρ : List Addr) (rt : List O) (σ : L2.St) (H : Hp) (Q : VK) (x : W) (xs : List W) (v : V) (us : List V), Rel X.K X.w B Hs ρ rt H → WD X.K X.w Hs ρ v x → WDs X.K X.w Hs ρ us xs →
    PE1 X.K X.w B Wx Hs ρ σ (g x xs rt) Q → r v us H Q
def eMt (ty : W → List O → Bool) (g : W → List W → List O → Ou W) (mo : Ex W) (ms : Ex (List W)) : Ex W := fun sl rt => (mo sl rt).bind fun x rt => if ty x rt = true then (ms sl rt).bind fun xs rt => g x xs rt else .no
def isLs (x : W) (rt : List O) : Bool := (lsOf x rt).isSome
def isSt (x : W) (_ : List O) : Bool := match x with
  | .d (.str _) => true
  | _ => false
variable {es : List Expr} {ms : Ex (List W)} {T id : String} {ty : W → List O → Bool} {gm : W → List W → List O → Ou W} {name : Str} {apos cpos : Pos}
theorem vx_mt (pa : PlainAttrs T) (slot : Slot T name id) (hty : typeOf (.builtin id) = pure (.type "method_descriptor")) (hm : MtV X T id ty gm) (ho : VX X Wx o mo) (ha : VA X Wx (e :: es) ms)
    (hbase : attributeBase o name X.env (eval o X.env) = eval o X.env := by rfl)
    (hfew : ((backTo cpos (starEach (e :: es) X.env)).all (fun x => !x.1) && (backToKw cpos (keywordEach [] X.env)).all (fun x => x.1.isSome)
      && decide ((e :: es).length + ([] : List Keyword).length + (if ([] : List Keyword).isEmpty then 0 else 1) < 30)) = true := by rfl)
    (hline : (apos.endLine == cpos.line) = true := by rfl) (hs : starEach (e :: es) X.env = (false, eval e X.env) :: starEach es X.env := by rfl) (hplain : (backTo cpos (starEach es X.env)).any (·.1) = false := by rfl) :
    VX X Wx (.Call (.Attribute o name apos) (e :: es) [] cpos) (eMt ty gm mo ms) := by
  obtain ⟨t, a1, a2⟩ := ho.ex
  obtain ⟨u, b1, b2⟩ := ha.ex
  obtain ⟨r, h1, h2⟩ := hm.ex
  refine vx_pe (pe_bm pa slot hty h1 a1 b1 hbase hfew hline hs hplain) fun B Hs ρ sl rt σ H Q R S p => ?_
  refine a2 B Hs ρ sl rt σ H _ R S (PEx.bind p fun x rt1 v Hs1 ρ1 H1 e1 R1 d1 p1 => ?_)
  split at p1
  · rename_i hT
    refine ⟨hm.ty B Hs1 ρ1 rt1 H1 v x R1 d1 hT, ?_⟩
    refine b2 B Hs1 ρ1 sl rt1 σ H1 _ R1 (S.mono e1) (PEx.bind p1 fun xs rt2 us Hs2 ρ2 H2 e2 R2 d2 p2 => ?_)
    exact h2 Wx B Hs2 ρ2 rt2 σ H2 Q x xs v us R2 (d1.mono e2) d2 p2
  · exact p1.elim
theorem vx_mt0 (pa : PlainAttrs T) (slot : Slot T name id) (hty : typeOf (.builtin id) = pure (.type "method_descriptor")) (hm : MtV X T id ty gm) (ho : VX X Wx o mo)
    (hbase : attributeBase o name X.env (eval o X.env) = eval o X.env := by rfl) (hline : (apos.endLine == cpos.line) = true := by rfl) :
    VX X Wx (.Call (.Attribute o name apos) [] [] cpos) (eMt ty gm mo aNil) := by
  obtain ⟨t, a1, a2⟩ := ho.ex
  obtain ⟨r, h1, h2⟩ := hm.ex
  refine vx_pe (pe_bm0 pa slot hty h1 a1 hbase hline) fun B Hs ρ sl rt σ H Q R S p => ?_
  refine a2 B Hs ρ sl rt σ H _ R S (PEx.bind p fun x rt1 v Hs1 ρ1 H1 e1 R1 d1 p1 => ?_)
  split at p1
  · rename_i hT
    exact ⟨hm.ty B Hs1 ρ1 rt1 H1 v x R1 d1 hT, h2 Wx B Hs1 ρ1 rt1 σ H1 Q x [] v [] R1 d1 .nil p1⟩
  · exact p1.elim

theorem isLs_ok {K : PySem.W.Frag} {w : World} {B : Bnd} {Hs H : Hp} {ρ : List Addr} {rt : List O} {v : V} {x : W} (R : Rel K w B Hs ρ rt H) (d : WD K w Hs ρ v x) (h : isLs x rt = true) : tyV K "list" v H := by
  obtain ⟨xs, e⟩ := Option.isSome_iff_exists.mp h
  obtain ⟨a, vs, rfl, h1, h2⟩ := lsOf_ok R d e
  exact .inl ⟨rfl, vs, SqL.of h1⟩
theorem isSt_ok {K : PySem.W.Frag} {w : World} {Hs H : Hp} {ρ : List Addr} {rt : List O} {v : V} {x : W} (d : WD K w Hs ρ v x) (h : isSt x rt = true) : tyV K "str" v H := by
  cases x with
  | r n => cases h
  | d x =>
    cases x <;> first | cases h | skip
    cases d
    rfl
/-- xs.append(y) -/
def mAppend (x : W) (xs : List W) (rt : List O) : Ou W := match x, xs with
  | .r n, [y] => (vOf y rt).bind fun z rt => match rt[n]? with
    | some (.lst zs) => if zs.length < 16000000 then .ok (.d .non) (rt.set n (.lst (zs ++ [z]))) else .no
    | _ => .no
  | _, _ => .no
theorem mtv_append : MtV X "list" "list.append" isLs mAppend := by
  refine ⟨fun B Hs ρ rt H v x R d h => isLs_ok R d h, rAppend, mt_append, fun Wx B Hs ρ rt σ H Q x xs v us R d1 d2 p => ?_⟩
  unfold mAppend at p
  split at p
  · rename_i n y
    cases d2 with
    | cons d2 d3 =>
      cases d3
      refine PEx.val R d2 p fun z rt1 Hs1 e1 R1 dz p1 => ?_
      split at p1
      · rename_i zs ez
        obtain ⟨a, vs, rfl, h1, h2, h3⟩ := live_lst R1 (d1.mono e1) ez
        split at p1
        · rename_i hl
          exact ⟨a, vs, _, rfl, rfl, h1, lim_lt (by rw [h2.length]; exact hl), p1 _ Hs1 ρ _ Ext.refl (h3 _ _ (h2.append (.cons dz .nil))) .non⟩
        · exact p1.elim
      · exact p1.elim
  · exact p.elim
/-- xs.extend(ys), ys a list -/
def mExtend (x : W) (xs : List W) (rt : List O) : Ou W := match x, xs with
  | .r n, [y] => match rt[n]?, lsOf y rt with
    | some (.lst zs), some ys => if zs.length + ys.length ≤ 16000000 then .ok (.d .non) (rt.set n (.lst (zs ++ ys))) else .no
    | _, _ => .no
  | _, _ => .no
theorem mtv_extend : MtV X "list" "list.extend" isLs mExtend := by
  refine ⟨fun B Hs ρ rt H v x R d h => isLs_ok R d h, rExtend, mt_extend, fun Wx B Hs ρ rt σ H Q x xs v us R d1 d2 p => ?_⟩
  unfold mExtend at p
  split at p
  · rename_i n y
    cases d2 with
    | cons d2 d3 =>
      cases d3
      split at p
      · rename_i zs ys ez ey
        obtain ⟨a, vs, rfl, h1, h2, h3⟩ := live_lst R d1 ez
        obtain ⟨b, us, rfl, g1, g2⟩ := lsOf_ok R d2 ey
        split at p
        · rename_i hl
          exact ⟨a, b, vs, us, rfl, rfl, h1, g1, lim_le (by rw [h2.length, g2.length]; exact hl), p _ Hs ρ _ Ext.refl (h3 _ _ (h2.append g2)) .non⟩
        · exact p.elim
      · exact p.elim
  · exact p.elim
/-- xs.pop(), xs.pop(i) -/
def mPop (x : W) (xs : List W) (rt : List O) : Ou W := match x, xs with
  | .r n, [] => match rt[n]? with
    | some (.lst zs) => match zs[zs.length - 1]? with
      | some z => .ok (.d z) (rt.set n (.lst zs.dropLast))
      | none => .no
    | _ => .no
  | .r n, [.d (.int i)] => match rt[n]? with
    | some (.lst zs) => match ixN zs.length i with
      | some j => match zs[j]? with
        | some z => if -1000000000 ≤ i ∧ i ≤ 1000000000 then .ok (.d z) (rt.set n (.lst (zs.eraseIdx j))) else .no
        | none => .no
      | none => .no
    | _ => .no
  | _, _ => .no
theorem Dens.dropLast {K : PySem.W.Frag} {w : World} {H : Hp} {vs : List V} {xs : List D} (h : Dens K w H vs xs) : Dens K w H vs.dropLast xs.dropLast := by
  rw [List.dropLast_eq_take, List.dropLast_eq_take, h.length]
  exact h.take _
theorem mtv_pop : MtV X "list" "list.pop" isLs mPop := by
  refine ⟨fun B Hs ρ rt H v x R d h => isLs_ok R d h, _, MtR.or (r := rPop) (r' := rPopAt) mt_pop mt_popAt, fun Wx B Hs ρ rt σ H Q x xs v us R d1 d2 p => ?_⟩
  unfold mPop at p
  split at p
  · rename_i n
    cases d2
    split at p
    · rename_i zs ez
      obtain ⟨a, vs, rfl, h1, h2, h3⟩ := live_lst R d1 ez
      split at p
      · rename_i z e
        obtain ⟨u, hu, du⟩ := h2.get e
        exact .inl ⟨a, vs, u, rfl, rfl, h1, by rw [h2.length]; exact hu, p _ Hs ρ _ Ext.refl (h3 _ _ h2.dropLast) du⟩
      · exact p.elim
    · exact p.elim
  · rename_i n i
    cases d2 with
    | cons d2 d3 =>
      cases d3
      cases d2
      split at p
      · rename_i zs ez
        obtain ⟨a, vs, rfl, h1, h2, h3⟩ := live_lst R d1 ez
        split at p
        · rename_i j ej
          split at p
          · rename_i z e
            obtain ⟨u, hu, du⟩ := h2.get e
            split at p
            · rename_i hl
              exact .inr ⟨a, vs, i, j, u, rfl, rfl, h1, by omega, by omega, by rw [h2.length]; exact (ixN_seq ej).1, hu, p _ Hs ρ _ Ext.refl (h3 _ _ (h2.eraseIdx j)) du⟩
            · exact p.elim
          · exact p.elim
        · exact p.elim
      · exact p.elim
  · exact p.elim
/-- xs.insert(i, y) -/
def mInsert (x : W) (xs : List W) (rt : List O) : Ou W := match x, xs with
  | .r n, [.d (.int i), y] => (vOf y rt).bind fun z rt => match rt[n]? with
    | some (.lst zs) => if zs.length < 16000000 ∧ 0 ≤ i ∧ i ≤ 1000000000 then .ok (.d .non) (rt.set n (.lst (zs.take i.toNat ++ [z] ++ zs.drop i.toNat))) else .no
    | _ => .no
  | _, _ => .no
theorem mtv_insert : MtV X "list" "list.insert" isLs mInsert := by
  refine ⟨fun B Hs ρ rt H v x R d h => isLs_ok R d h, _, mt_insert, fun Wx B Hs ρ rt σ H Q x xs v us R d1 d2 p => ?_⟩
  unfold mInsert at p
  split at p
  · rename_i n i y
    cases d2 with
    | cons d2 d3 =>
      cases d3 with
      | cons d3 d4 =>
        cases d4
        cases d2
        refine PEx.val R d3 p fun z rt1 Hs1 e1 R1 dz p1 => ?_
        split at p1
        · rename_i zs ez
          obtain ⟨a, vs, rfl, h1, h2, h3⟩ := live_lst R1 (d1.mono e1) ez
          split at p1
          · rename_i hl
            exact ⟨a, vs, i, _, rfl, rfl, h1, lim_lt (by rw [h2.length]; exact hl.1), hl.2.1, by omega, p1 _ Hs1 ρ _ Ext.refl (h3 _ _ (((h2.take _).append (.cons dz .nil)).append (h2.drop _))) .non⟩
          · exact p1.elim
        · exact p1.elim
  · exact p.elim
/-- xs.reverse(), xs.clear() -/
def mReverse (x : W) (xs : List W) (rt : List O) : Ou W := match x, xs with
  | .r n, [] => match rt[n]? with
    | some (.lst zs) => .ok (.d .non) (rt.set n (.lst zs.reverse))
    | _ => .no
  | _, _ => .no
theorem mtv_reverse : MtV X "list" "list.reverse" isLs mReverse := by
  refine ⟨fun B Hs ρ rt H v x R d h => isLs_ok R d h, rReverse, mt_reverse, fun Wx B Hs ρ rt σ H Q x xs v us R d1 d2 p => ?_⟩
  unfold mReverse at p
  split at p
  · rename_i n
    cases d2
    split at p
    · rename_i zs ez
      obtain ⟨a, vs, rfl, h1, h2, h3⟩ := live_lst R d1 ez
      exact ⟨a, vs, rfl, rfl, h1, p _ Hs ρ _ Ext.refl (h3 _ _ h2.rev) .non⟩
    · exact p.elim
  · exact p.elim
def mClear (x : W) (xs : List W) (rt : List O) : Ou W := match x, xs with
  | .r n, [] => match rt[n]? with
    | some (.lst zs) => .ok (.d .non) (rt.set n (.lst []))
    | _ => .no
  | _, _ => .no
theorem mtv_clear : MtV X "list" "list.clear" isLs mClear := by
  refine ⟨fun B Hs ρ rt H v x R d h => isLs_ok R d h, rClear, mt_clear, fun Wx B Hs ρ rt σ H Q x xs v us R d1 d2 p => ?_⟩
  unfold mClear at p
  split at p
  · rename_i n
    cases d2
    split at p
    · rename_i zs ez
      obtain ⟨a, vs, rfl, h1, h2, h3⟩ := live_lst R d1 ez
      exact ⟨a, vs, rfl, rfl, h1, p _ Hs ρ _ Ext.refl (h3 _ _ .nil) .non⟩
    · exact p.elim
  · exact p.elim
end
end VE

set_option maxRecDepth 100000
set_option maxHeartbeats 1000000
namespace VE
open PySem PySem.Spec L2

structure CallV (X : Cx) (f : Value) (g : List W → List O → Ou W) : Prop where
  ex : ∃ r, CallR X f r ∧ ∀ (Wx : WX) (B : Bnd) (Hs : Hp) (ρ : List Addr) (rt : List O) (σ : L2.St) (H : Hp) (Q : VK) (xs : List W) (us : List V), Rel X.K X.w B Hs ρ rt H → WDs X.K X.w Hs ρ us xs →
    PE1 X.K X.w B Wx Hs ρ σ (g xs rt) Q → r us H Q
def eFn (g : List W → List O → Ou W) (ms : Ex (List W)) : Ex W := fun sl rt => (ms sl rt).bind fun xs rt => g xs rt
section
variable {X : Cx} {Wx : WX} {e : Expr} {es : List Expr} {ms : Ex (List W)} {g : List W → List O → Ou W} {x : Str} {p pos : Pos} {id T : String}
theorem fn_ok {r : List V → Hp → VK → Prop} {t : TA} (h2 : ∀ (Wx : WX) (B : Bnd) (Hs : Hp) (ρ : List Addr) (rt : List O) (σ : L2.St) (H : Hp) (Q : VK) (xs : List W) (us : List V), Rel X.K X.w B Hs ρ rt H → WDs X.K X.w Hs ρ us xs → PE1 X.K X.w B Wx Hs ρ σ (g xs rt) Q → r us H Q)
    (a2 : ∀ (B : Bnd) (Hs : Hp) (ρ : List Addr) (sl : Sl) (rt : List O) (σ : L2.St) (H : Hp) (Q : List V → Hp → Prop), Rel X.K X.w B Hs ρ rt H → SlD X.K X.w Hs ρ σ sl → PA1 X.K X.w B Wx Hs ρ σ (ms sl rt) Q → t σ H Q)
    (B : Bnd) (Hs : Hp) (ρ : List Addr) (sl : Sl) (rt : List O) (σ : L2.St) (H : Hp) (Q : VK) (R : Rel X.K X.w B Hs ρ rt H) (S : SlD X.K X.w Hs ρ σ sl) (p : PE1 X.K X.w B Wx Hs ρ σ (eFn g ms sl rt) Q) : tCB r t σ H Q :=
  a2 B Hs ρ sl rt σ H _ R S (PEx.bind p fun xs rt1 us Hs1 ρ1 H1 e1 R1 d1 p1 => h2 Wx B Hs1 ρ1 rt1 σ H1 Q xs us R1 d1 p1)
theorem vx_callB (hc : CallV X (.builtin id) g) (hg : Gl X x) (hm : X.mg x = none) (hv : bootBuiltins x = some (.builtin id)) (ha : VA X Wx (e :: es) ms) (hn : x ≠ "__name__" := by decide) (hdb : (x == ("__debug__" : Str)) = false := by decide)
    (he : starEach (e :: es) X.env = (false, eval e X.env) :: starEach es X.env := by rfl) (hpl : (backTo pos (starEach es X.env)).any (·.1) = false := by rfl) : VX X Wx (.Call (.Name x p) (e :: es) [] pos) (eFn g ms) := by
  obtain ⟨t, a1, a2⟩ := ha.ex
  obtain ⟨r, h1, h2⟩ := hc.ex
  exact vx_pe (pe_callB h1 hg hm hv a1 hn hdb he hpl) (fn_ok h2 a2)
theorem vx_callTy (hc : CallV X (.type T) g) (hg : Gl X x) (hm : X.mg x = none) (hv : bootBuiltins x = some (.type T)) (ha : VA X Wx (e :: es) ms) (hn : x ≠ "__name__" := by decide) (hdb : (x == ("__debug__" : Str)) = false := by decide)
    (he : starEach (e :: es) X.env = (false, eval e X.env) :: starEach es X.env := by rfl) (hpl : (backTo pos (starEach es X.env)).any (·.1) = false := by rfl) : VX X Wx (.Call (.Name x p) (e :: es) [] pos) (eFn g ms) := by
  obtain ⟨t, a1, a2⟩ := ha.ex
  obtain ⟨r, h1, h2⟩ := hc.ex
  exact vx_pe (pe_callTy h1 hg hm hv a1 hn hdb he hpl) (fn_ok h2 a2)
/-- the name of a built-in type, as a value -/
theorem vx_ty (hg : Gl X x) (hm : X.mg x = none) (hv : bootBuiltins x = some (.type T)) (hn : x ≠ "__name__" := by decide) (hd : (x == ("__debug__" : Str)) = false := by decide) : VX X Wx (.Name x pos) (eC (.ty T)) :=
  vx_c (v := .ty T) (pe_bltn hg hm hv rfl hn hd) fun _ => .ty T
/-- a constant of the module -/
theorem vx_glob {y : D} {v : V} {u : Value} (hg : Gl X x) (hm : X.mg x = some u) (r : RelV v u) (d : ∀ Hs, Den X.K X.w Hs v y) (hd : (x == ("__debug__" : Str)) = false := by decide) : VX X Wx (.Name x pos) (eC y) := vx_c (pe_glob hg hm r hd) d
end

/-! ### len, int, abs, list, tuple, sum, max, min, any, all, str, ord -/
def lenD (x : W) (rt : List O) : Option Nat := match lsOf x rt with
  | some xs => some xs.length
  | none => match tpOf x with
    | some xs => some xs.length
    | none => match x with
      | .d (.str s) => if s.length ≤ 16000000 then some s.length else none
      | .d (.dk kvs) => none
      | .r n => match rt[n]? with
        | some (.dk kvs) => some kvs.length
        | some (.dt kvs) => some kvs.length
        | _ => none
      | _ => none
def bLen (xs : List W) (rt : List O) : Ou W := match xs with
  | [x] => match lenD x rt with
    | some n => .ok (.d (.int n)) rt
    | none => .no
  | _ => .no
def bInt (xs : List W) (rt : List O) : Ou W := match xs with
  | [.d (.int i)] => .ok (.d (.int i)) rt
  | [.d (.bl b)] => .ok (.d (.int (if b then 1 else 0))) rt
  | [.d (.str s)] => match PySem.intText? s with
    | some n => if s.length ≤ 640 then .ok (.d (.int n)) rt else .no
    | none => .no
  | _ => .no
def bAbs (xs : List W) (rt : List O) : Ou W := match xs with
  | [.d (.int i)] => .ok (.d (.int (if i < 0 then -i else i))) rt
  | _ => .no
def bList (xs : List W) (rt : List O) : Ou W := match xs with
  | [x] => match lsOf x rt with
    | some ys => .ok (.r rt.length) (rt ++ [.lst ys])
    | none => match tpOf x with
      | some ys => .ok (.r rt.length) (rt ++ [.lst ys])
      | none => .no
  | _ => .no
def bTuple (xs : List W) (rt : List O) : Ou W := match xs with
  | [x] => match lsOf x rt with
    | some ys => .ok (.d (.tup ys)) rt
    | none => match x with
      | .d (.tup ys) => .ok (.d (.tup ys)) rt
      | .d (.ktup ys) => .ok (.d (.ktup ys)) rt
      | _ => .no
  | _ => .no
def intsOf : List D → Option (List Int)
  | [] => some []
  | .int i :: xs => (intsOf xs).map (i :: ·)
  | _ :: _ => none
def blsOf : List D → Option (List Bool)
  | [] => some []
  | .bl i :: xs => (blsOf xs).map (i :: ·)
  | _ :: _ => none
def strsOf : List D → Option (List Str)
  | [] => some []
  | .str i :: xs => (strsOf xs).map (i :: ·)
  | _ :: _ => none
section
variable {K : PySem.W.Frag} {w : World} {H : Hp}
theorem ints_ok : ∀ {vs : List V} {xs : List D} {ns : List Int}, Dens K w H vs xs → intsOf xs = some ns → vs = ns.map V.int
  | _, _, _, .nil, e => by cases e; rfl
  | _, _, _, .cons (x := x) (xs := xs) d t, e => by
    cases x <;> first | cases e | skip
    unfold intsOf at e
    obtain ⟨ms, h1, rfl⟩ := Option.map_eq_some_iff.mp e
    cases d
    rw [List.map_cons, ints_ok t h1]
theorem bls_ok : ∀ {vs : List V} {xs : List D} {ns : List Bool}, Dens K w H vs xs → blsOf xs = some ns → vs = ns.map V.bl
  | _, _, _, .nil, e => by cases e; rfl
  | _, _, _, .cons (x := x) (xs := xs) d t, e => by
    cases x <;> first | cases e | skip
    unfold blsOf at e
    obtain ⟨ms, h1, rfl⟩ := Option.map_eq_some_iff.mp e
    cases d
    rw [List.map_cons, bls_ok t h1]
theorem strs_ok : ∀ {vs : List V} {xs : List D} {ns : List Str}, Dens K w H vs xs → strsOf xs = some ns → vs = ns.map V.str
  | _, _, _, .nil, e => by cases e; rfl
  | _, _, _, .cons (x := x) (xs := xs) d t, e => by
    cases x <;> first | cases e | skip
    unfold strsOf at e
    obtain ⟨ms, h1, rfl⟩ := Option.map_eq_some_iff.mp e
    cases d
    rw [List.map_cons, strs_ok t h1]
end
def maxL : List Int → Int
  | [] => 0
  | [x] => x
  | x :: xs => max x (maxL xs)
def minL : List Int → Int
  | [] => 0
  | [x] => x
  | x :: xs => min x (minL xs)
theorem maxL_le : ∀ {ns : List Int} {y : Int}, y ∈ ns → y ≤ maxL ns
  | [x], y, h => by rw [List.mem_singleton.mp h]; exact Int.le_refl _
  | x :: z :: xs, y, h => by
    show y ≤ max x (maxL (z :: xs))
    rcases List.mem_cons.mp h with h | h
    · omega
    · have := maxL_le (ns := z :: xs) h; omega
theorem maxL_mem : ∀ {ns : List Int}, ns ≠ [] → maxL ns ∈ ns
  | [x], _ => by simp [maxL]
  | x :: z :: xs, _ => by
    have h := maxL_mem (ns := z :: xs) (by simp)
    show max x (maxL (z :: xs)) ∈ _
    rcases Int.le_total x (maxL (z :: xs)) with q | q
    · rw [Int.max_eq_right q]; exact List.mem_cons_of_mem _ h
    · rw [Int.max_eq_left q]; exact List.mem_cons_self
theorem minL_le : ∀ {ns : List Int} {y : Int}, y ∈ ns → minL ns ≤ y
  | [x], y, h => by rw [List.mem_singleton.mp h]; exact Int.le_refl _
  | x :: z :: xs, y, h => by
    show min x (minL (z :: xs)) ≤ y
    rcases List.mem_cons.mp h with h | h
    · omega
    · have := minL_le (ns := z :: xs) h; omega
theorem minL_mem : ∀ {ns : List Int}, ns ≠ [] → minL ns ∈ ns
  | [x], _ => by simp [minL]
  | x :: z :: xs, _ => by
    have h := minL_mem (ns := z :: xs) (by simp)
    show min x (minL (z :: xs)) ∈ _
    rcases Int.le_total x (minL (z :: xs)) with q | q
    · rw [Int.min_eq_left q]; exact List.mem_cons_self
    · rw [Int.min_eq_right q]; exact List.mem_cons_of_mem _ h
def bSum (xs : List W) (rt : List O) : Ou W := match xs with
  | [x] => match (lsOf x rt).bind intsOf with
    | some ns => .ok (.d (.int ns.sum)) rt
    | none => .no
  | _ => .no
def bMax (xs : List W) (rt : List O) : Ou W := match xs with
  | [x] => match (lsOf x rt).bind intsOf with
    | some ns => if 0 < ns.length then .ok (.d (.int (maxL ns))) rt else .no
    | none => .no
  | [.d (.int i), .d (.int j)] => .ok (.d (.int (max i j))) rt
  | _ => .no
def bMin (xs : List W) (rt : List O) : Ou W := match xs with
  | [x] => match (lsOf x rt).bind intsOf with
    | some ns => if 0 < ns.length then .ok (.d (.int (minL ns))) rt else .no
    | none => .no
  | [.d (.int i), .d (.int j)] => .ok (.d (.int (min i j))) rt
  | _ => .no
def bAll (xs : List W) (rt : List O) : Ou W := match xs with
  | [x] => match (lsOf x rt).bind blsOf with
    | some ns => .ok (.d (.bl (ns.all id))) rt
    | none => .no
  | _ => .no
def bAny (xs : List W) (rt : List O) : Ou W := match xs with
  | [x] => match (lsOf x rt).bind blsOf with
    | some ns => .ok (.d (.bl (ns.any id))) rt
    | none => .no
  | _ => .no
def bOrd (xs : List W) (rt : List O) : Ou W := match xs with
  | [.d (.str s)] => if s.length = 1 then .ok (.d (.int (s.cps.getD 0 0 : Nat))) rt else .no
  | _ => .no
def bStr (xs : List W) (rt : List O) : Ou W := match xs with
  | [.d (.int i)] => if i.natAbs.log2 < 1920 then .ok (.d (.str (toString i))) rt else .no
  | _ => .no
section
variable {X : Cx}
theorem wds1 {K : PySem.W.Frag} {w : World} {Hs : Hp} {ρ : List Addr} {us : List V} {x : W} (d : WDs K w Hs ρ us [x]) : ∃ v, us = [v] ∧ WD K w Hs ρ v x := by
  cases d with
  | cons d t => cases t; exact ⟨_, rfl, d⟩
theorem wds2 {K : PySem.W.Frag} {w : World} {Hs : Hp} {ρ : List Addr} {us : List V} {x y : W} (d : WDs K w Hs ρ us [x, y]) : ∃ v u, us = [v, u] ∧ WD K w Hs ρ v x ∧ WD K w Hs ρ u y := by
  cases d with
  | cons d t =>
    cases t with
    | cons d2 t => cases t; exact ⟨_, _, rfl, d, d2⟩
theorem cv_len : CallV X (.builtin "len") bLen := by
  refine ⟨_, call_len.or (call_lenD.or call_len_dT), fun Wx B Hs ρ rt σ H Q xs us R d p => ?_⟩
  unfold bLen at p
  split at p
  · rename_i x
    obtain ⟨v, rfl, d1⟩ := wds1 d
    split at p
    · rename_i n e
      have q := p _ Hs ρ H Ext.refl R (.int n)
      unfold lenD at e
      split at e
      · rename_i ys ey
        cases e
        obtain ⟨a, vs, rfl, h1, h2⟩ := lsOf_ok R d1 ey
        exact .inl ⟨_, ys.length, rfl, .inl ⟨vs, SqL.of h1, h2.length.symm⟩, q⟩
      · split at e
        · rename_i ys ey
          cases e
          obtain ⟨a, vs, rfl, h0, h1, h2⟩ := tpOf_ok R d1 ey
          exact .inl ⟨_, ys.length, rfl, .inr ⟨vs, h1, h2.length.symm⟩, q⟩
        · split at e
          · split at e
            · rename_i h
              cases e
              cases d1
              exact .inl ⟨_, _, rfl, ⟨lim_le h, rfl⟩, q⟩
            · cases e
          · cases e
          · rename_i m _ _
            split at e
            · rename_i kvs ek
              cases e
              obtain ⟨a, vs, rfl, h1, h2, h3⟩ := live_dk R d1 ek
              exact .inr (.inl ⟨a, vs, rfl, h1, by rw [h2.length]; exact q⟩)
            · rename_i kvs ek
              cases e
              obtain ⟨a, vs, rfl, h1, h2, h3⟩ := live_dt R d1 ek
              exact .inr (.inr ⟨a, vs, rfl, h1, by rw [h2.length]; exact q⟩)
            · cases e
          · cases e
    · exact p.elim
  · exact p.elim
theorem cv_int : CallV X (.type "int") bInt := by
  refine ⟨_, call_int1.or call_int_str, fun Wx B Hs ρ rt σ H Q xs us R d p => ?_⟩
  unfold bInt at p
  split at p
  · obtain ⟨v, rfl, d1⟩ := wds1 d
    cases d1
    exact .inl (.inl ⟨_, rfl, p _ Hs ρ H Ext.refl R (.int _)⟩)
  · obtain ⟨v, rfl, d1⟩ := wds1 d
    cases d1
    exact .inl (.inr ⟨_, rfl, p _ Hs ρ H Ext.refl R (.int _)⟩)
  · obtain ⟨v, rfl, d1⟩ := wds1 d
    cases d1
    split at p
    · rename_i n en
      split at p
      · rename_i h
        exact .inr ⟨_, n, rfl, en, h, p _ Hs ρ H Ext.refl R (.int _)⟩
      · exact p.elim
    · exact p.elim
  · exact p.elim
theorem cv_abs : CallV X (.builtin "abs") bAbs := by
  refine ⟨_, call_abs, fun Wx B Hs ρ rt σ H Q xs us R d p => ?_⟩
  unfold bAbs at p
  split at p
  · obtain ⟨v, rfl, d1⟩ := wds1 d
    cases d1
    exact ⟨_, rfl, p _ Hs ρ H Ext.refl R (.int _)⟩
  · exact p.elim
theorem cv_list : CallV X (.type "list") bList := by
  refine ⟨_, call_list_of, fun Wx B Hs ρ rt σ H Q xs us R d p => ?_⟩
  unfold bList at p
  split at p
  · obtain ⟨v, rfl, d1⟩ := wds1 d
    split at p
    · rename_i ys ey
      obtain ⟨a, vs, rfl, h1, h2⟩ := lsOf_ok R d1 ey
      exact ⟨a, vs, rfl, .inl (SqL.of h1), new_list R h2 p⟩
    · split at p
      · rename_i ys ey
        obtain ⟨a, vs, rfl, h0, h1, h2⟩ := tpOf_ok R d1 ey
        exact ⟨a, vs, rfl, .inr h1, new_list R h2 p⟩
      · exact p.elim
  · exact p.elim
theorem cv_tuple : CallV X (.type "tuple") bTuple := by
  refine ⟨_, call_tuple_of, fun Wx B Hs ρ rt σ H Q xs us R d p => ?_⟩
  unfold bTuple at p
  split at p
  · obtain ⟨v, rfl, d1⟩ := wds1 d
    split at p
    · rename_i ys ey
      obtain ⟨a, vs, rfl, h1, h2⟩ := lsOf_ok R d1 ey
      exact ⟨a, vs, rfl, .inl ⟨SqL.of h1, new_tup R h2 p⟩⟩
    · split at p
      · rename_i ys _
        obtain ⟨a, vs, rfl, h0, h1, h2⟩ := tpOf_ok (xs := ys) R d1 rfl
        exact ⟨a, vs, rfl, .inr ⟨h1, p _ Hs ρ H Ext.refl R d1⟩⟩
      · rename_i ys _
        obtain ⟨a, vs, rfl, h0, h1, h2⟩ := tpOf_ok (xs := ys) R d1 rfl
        exact ⟨a, vs, rfl, .inr ⟨h1, p _ Hs ρ H Ext.refl R d1⟩⟩
      · exact p.elim
  · exact p.elim
theorem lsI_ok {α : Type} {K : PySem.W.Frag} {w : World} {B : Bnd} {Hs H : Hp} {ρ : List Addr} {rt : List O} {v : V} {x : W} {f : List D → Option (List α)} {c : α → V} {ns : List α} (hf : ∀ {vs xs ns}, Dens K w Hs vs xs → f xs = some ns → vs = ns.map c)
    (R : Rel K w B Hs ρ rt H) (d : WD K w Hs ρ v x) (e : (lsOf x rt).bind f = some ns) : ∃ a, v = .ref a ∧ SqL K H a (ns.map c) := by
  obtain ⟨ys, ey, ez⟩ := Option.bind_eq_some_iff.mp e
  obtain ⟨a, vs, rfl, h1, h2⟩ := lsOf_ok R d ey
  exact ⟨a, rfl, by rw [← hf h2 ez]; exact SqL.of h1⟩
theorem cv_sum (hc : X.calm = true) : CallV X (.builtin "sum") bSum := by
  refine ⟨_, cr_sum hc, fun Wx B Hs ρ rt σ H Q xs us R d p => ?_⟩
  unfold bSum at p
  split at p
  · obtain ⟨v, rfl, d1⟩ := wds1 d
    split at p
    · rename_i ns e
      obtain ⟨a, rfl, h⟩ := lsI_ok ints_ok R d1 e
      exact ⟨a, ns, rfl, h, p _ Hs ρ H Ext.refl R (.int _)⟩
    · exact p.elim
  · exact p.elim
theorem cv_max (hc : X.calm = true) : CallV X (.builtin "max") bMax := by
  refine ⟨_, (cr_max hc).or (call_max2 hc), fun Wx B Hs ρ rt σ H Q xs us R d p => ?_⟩
  unfold bMax at p
  split at p
  · obtain ⟨v, rfl, d1⟩ := wds1 d
    split at p
    · rename_i ns e
      obtain ⟨a, rfl, h⟩ := lsI_ok ints_ok R d1 e
      split at p
      · rename_i hl
        refine .inl ⟨a, ns, rfl, h, hl, fun m h1 h2 => ?_⟩
        have e1 : m = maxL ns := Int.le_antisymm (maxL_le h1) (h2 _ (maxL_mem (fun z => by rw [z] at hl; simp at hl)))
        rw [e1]
        exact p _ Hs ρ H Ext.refl R (.int _)
      · exact p.elim
    · exact p.elim
  · obtain ⟨v, u, rfl, d1, d2⟩ := wds2 d
    cases d1; cases d2
    rename_i i j
    refine .inr ⟨i, j, rfl, ?_⟩
    have e1 : (if j > i then j else i) = max i j := by omega
    rw [e1]
    exact p _ Hs ρ H Ext.refl R (.int _)
  · exact p.elim
theorem cv_min (hc : X.calm = true) : CallV X (.builtin "min") bMin := by
  refine ⟨_, (cr_min hc).or (call_min2 hc), fun Wx B Hs ρ rt σ H Q xs us R d p => ?_⟩
  unfold bMin at p
  split at p
  · obtain ⟨v, rfl, d1⟩ := wds1 d
    split at p
    · rename_i ns e
      obtain ⟨a, rfl, h⟩ := lsI_ok ints_ok R d1 e
      split at p
      · rename_i hl
        refine .inl ⟨a, ns, rfl, h, hl, fun m h1 h2 => ?_⟩
        have e1 : m = minL ns := Int.le_antisymm (h2 _ (minL_mem (fun z => by rw [z] at hl; simp at hl))) (minL_le h1)
        rw [e1]
        exact p _ Hs ρ H Ext.refl R (.int _)
      · exact p.elim
    · exact p.elim
  · obtain ⟨v, u, rfl, d1, d2⟩ := wds2 d
    cases d1; cases d2
    rename_i i j
    refine .inr ⟨i, j, rfl, ?_⟩
    have e1 : (if j < i then j else i) = min i j := by omega
    rw [e1]
    exact p _ Hs ρ H Ext.refl R (.int _)
  · exact p.elim
theorem cv_all (hc : X.calm = true) : CallV X (.builtin "all") bAll := by
  refine ⟨_, cr_all hc, fun Wx B Hs ρ rt σ H Q xs us R d p => ?_⟩
  unfold bAll at p
  split at p
  · obtain ⟨v, rfl, d1⟩ := wds1 d
    split at p
    · rename_i ns e
      obtain ⟨a, rfl, h⟩ := lsI_ok bls_ok R d1 e
      exact ⟨a, ns, rfl, h, p _ Hs ρ H Ext.refl R (.bl _)⟩
    · exact p.elim
  · exact p.elim
theorem cv_any (hc : X.calm = true) : CallV X (.builtin "any") bAny := by
  refine ⟨_, cr_any hc, fun Wx B Hs ρ rt σ H Q xs us R d p => ?_⟩
  unfold bAny at p
  split at p
  · obtain ⟨v, rfl, d1⟩ := wds1 d
    split at p
    · rename_i ns e
      obtain ⟨a, rfl, h⟩ := lsI_ok bls_ok R d1 e
      exact ⟨a, ns, rfl, h, p _ Hs ρ H Ext.refl R (.bl _)⟩
    · exact p.elim
  · exact p.elim
theorem cv_ord : CallV X (.builtin "ord") bOrd := by
  refine ⟨_, call_ord, fun Wx B Hs ρ rt σ H Q xs us R d p => ?_⟩
  unfold bOrd at p
  split at p
  · obtain ⟨v, rfl, d1⟩ := wds1 d
    cases d1
    split at p
    · rename_i h
      exact ⟨_, rfl, h, p _ Hs ρ H Ext.refl R (.int _)⟩
    · exact p.elim
  · exact p.elim
theorem cv_str : CallV X (.type "str") bStr := by
  refine ⟨_, call_str_int, fun Wx B Hs ρ rt σ H Q xs us R d p => ?_⟩
  unfold bStr at p
  split at p
  · obtain ⟨v, rfl, d1⟩ := wds1 d
    cases d1
    split at p
    · rename_i h
      exact ⟨_, rfl, h, p _ Hs ρ H Ext.refl R (.str _)⟩
    · exact p.elim
  · exact p.elim
end

/-! ### isinstance of built-in types -/
def tyName (x : W) (rt : List O) : Option String := match x with
  | .d .non => some "NoneType"
  | .d (.bl _) => some "bool"
  | .d (.int _) => some "int"
  | .d (.str _) => some "str"
  | .d (.tup _) => some "tuple"
  | .d (.lst _) => some "list"
  | .r n => match rt[n]? with
    | some (.lst _) => some "list"
    | some (.d (.lst _)) => some "list"
    | some (.dk _) => some "dict"
    | some (.dt _) => some "dict"
    | _ => none
  | _ => none
def bIsi (xs : List W) (rt : List O) : Ou W := match xs with
  | [x, .d (.ty n)] => match tyName x rt with
    | some t => match kitB t n with
      | some b => .ok (.d (.bl b)) rt
      | none => .no
    | none => .no
  | _ => .no
theorem tyName_ok {K : PySem.W.Frag} {w : World} {B : Bnd} {Hs H : Hp} {ρ : List Addr} {rt : List O} {v : V} {x : W} {t : String} (R : Rel K w B Hs ρ rt H) (d : WD K w Hs ρ v x) (e : tyName x rt = some t) : TyX K H v (.type t) := by
  cases x with
  | d x =>
    cases x <;> cases e <;> cases d
    · exact .base .non
    · exact .base (.bl _)
    · exact .base (.int _)
    · exact .base (.str _)
    · rename_i h _; exact .base (.tup (R.same _ _ h))
    · rename_i h _; exact .base (.lst (R.same _ _ h))
  | r n =>
    unfold tyName at e
    cases ho : rt[n]? with
    | none => simp only [ho] at e; cases e
    | some o =>
      obtain ⟨F, a, rfl, h1, h2, h3, h4⟩ := R.root ho d
      cases o <;> simp only [ho] at e <;> first | cases e | skip
      · rename_i y
        cases y <;> simp only at e <;> first | cases e | skip
        cases h2 with
        | d h2 => cases h2 with
          | lst h1 h2 => exact .base (.lst (R.same _ _ h1))
      · cases h2 with
        | lst h1 h2 => exact .base (.lst h1)
      · cases h2 with
        | dk h1 h2 => exact .base (.dK h1)
      · cases h2 with
        | dt h1 h2 => exact .base (.dT h1)
theorem cv_isi {X : Cx} : CallV X (.builtin "isinstance") bIsi := by
  refine ⟨_, call_isi, fun Wx B Hs ρ rt σ H Q xs us R d p => ?_⟩
  unfold bIsi at p
  split at p
  · obtain ⟨v, u, rfl, d1, d2⟩ := wds2 d
    cases d2
    split at p
    · rename_i t e
      split at p
      · rename_i b eb
        exact ⟨v, _, _, _, b, rfl, .ty _, tyName_ok R d1 e, kit_ty eb, p _ Hs ρ H Ext.refl R (.bl _)⟩
      · exact p.elim
    · exact p.elim
  · exact p.elim
end VE

set_option maxRecDepth 100000
set_option maxHeartbeats 1000000
namespace VE
open PySem PySem.Spec L2

/-! ### iterables -/
theorem PI.or {X : Cx} {tg iter : Expr} {w1 w2 : TI} (h1 : PI X tg iter w1) (h2 : PI X tg iter w2) : PI X tg iter (fun σ H R => w1 σ H R ∨ w2 σ H R) :=
  ⟨fun pins s σ H R I h => h.elim (h1.run pins s σ H R I) (h2.run pins s σ H R I)⟩
def signs (s : Str) : List D := s.cps.toList.map fun c => .str ⟨#[c]⟩
def seqOf : D → Option (List D)
  | .lst xs => some xs
  | .tup xs => some xs
  | .ktup xs => some xs
  | .fz xs => some xs
  | .str s => some (signs s)
  | _ => none
def itSeq (m : Ex W) : Ex (List D) := fun sl rt => (m sl rt).bind fun x rt => (vOf x rt).bind fun y rt => match seqOf y with
  | some xs => .ok xs rt
  | none => .no
section
variable {K : PySem.W.Frag} {w : World} {Hs : Hp}
theorem itOk_list {a : Addr} {vs : List V} {xs : List D} (h : SqL K Hs a vs) (d : Dens K w Hs vs xs) : ItOk K w Hs (Itl K a) xs := by
  refine ⟨_, _, by rw [← d.length]; exact walk_list, fun H s => SqL.mono s h, fun i H v H' hi y Hs1 s1 s2 => ?_⟩
  obtain ⟨rfl, e⟩ := y
  obtain ⟨x, hx⟩ : ∃ x, xs[i]? = some x := ⟨xs[i], by simp [hi]⟩
  obtain ⟨v', e', d'⟩ := d.get hx
  rw [e] at e'
  cases e'
  exact ⟨x, hx, .inl ⟨rfl, d'.mono s1⟩⟩
theorem itOk_tup {a : Addr} {vs : List V} {xs : List D} (h : SqT K Hs a vs) (d : Dens K w Hs vs xs) : ItOk K w Hs (Itt K a) xs := by
  refine ⟨_, _, by rw [← d.length]; exact walk_tup, fun H s => SqT.mono s h, fun i H v H' hi y Hs1 s1 s2 => ?_⟩
  obtain ⟨rfl, e⟩ := y
  obtain ⟨x, hx⟩ : ∃ x, xs[i]? = some x := ⟨xs[i], by simp [hi]⟩
  obtain ⟨v', e', d'⟩ := d.get hx
  rw [e] at e'
  cases e'
  exact ⟨x, hx, .inl ⟨rfl, d'.mono s1⟩⟩
theorem itOk_str {z : Str} : ItOk K w Hs (Its z) (signs z) := by
  refine ⟨fun _ => True, _, by unfold signs; rw [List.length_map, Array.length_toList]; exact walk_str, fun H s => trivial, fun i H v H' hi y Hs1 s1 s2 => ?_⟩
  obtain ⟨rfl, c, e, rfl⟩ := y
  refine ⟨.str ⟨#[c]⟩, ?_, .inl ⟨rfl, .str _⟩⟩
  unfold signs
  rw [List.getElem?_map, Array.getElem?_toList, e]
  rfl
theorem itOk_fn {J : It} {n : Nat} {f : Nat → Int} (h : Walk J n (fun _ => True) (YFn fun i => .int (f i))) : ItOk K w Hs J ((List.range n).map fun i => .int (f i)) := by
  refine ⟨fun _ => True, _, by rw [List.length_map, List.length_range]; exact h, fun H s => trivial, fun i H v H' hi y Hs1 s1 s2 => ?_⟩
  obtain ⟨rfl, rfl⟩ := y
  rw [List.length_map, List.length_range] at hi
  exact ⟨.int (f i), by simp [hi], .inl ⟨rfl, .int _⟩⟩
end
section
variable {X : Cx} {Wx : WX} {tg e e2 : Expr} {es : List Expr} {m : Ex W} {ms : Ex (List W)} {p pos tpos : Pos}
theorem vi_seq (h : VX X Wx e m) : VI X Wx tg e (itSeq m) := by
  obtain ⟨t, a1, a2⟩ := h.ex
  refine ⟨_, PI.or (pi_list a1) (PI.or (pi_tup a1) (pi_str a1)), fun B Hs ρ sl rt σ H Q R S p => ?_⟩
  unfold itSeq at p
  cases hm : m sl rt with
  | no => rw [hm] at p; exact p.elim
  | ex c fs rt1 =>
    rw [hm] at p
    exact .inl (a2 B Hs ρ sl rt σ H _ R S (by rw [hm]; exact p))
  | ok x rt1 =>
    rw [hm] at p
    simp only [Ou.bind] at p
    cases hv : vOf x rt1 with
    | no => rw [hv] at p; exact p.elim
    | ex c fs rt2 => exact (vOf_noex hv).elim
    | ok y rt2 =>
      rw [hv] at p
      simp only [Ou.bind] at p
      have go : ∀ (Q' : VK), (∀ v Hs' ρ' H', Ext Hs ρ Hs' ρ' → Rel X.K X.w B Hs' ρ' rt2 H' → Den X.K X.w Hs' v y → Q' v H') → t σ H Q' := fun Q' hQ => by
        refine a2 B Hs ρ sl rt σ H _ R S ?_
        rw [hm]
        intro v Hs1 ρ1 H1 e1 R1 d1
        obtain ⟨Hs2, e2, R2, d2⟩ := vOf_ok R1 d1 y rt2 hv
        exact hQ v Hs2 ρ1 H1 (e1.trans e2) R2 d2
      cases y <;> simp only [seqOf] at p <;> first | exact p.elim | skip
      · refine .inr (.inr (go _ fun v Hs' ρ' H' e' R' d' => ?_))
        cases d'
        exact ⟨_, rfl, p _ Hs' ρ' H' e' R' itOk_str⟩
      · refine .inr (.inl (go _ fun v Hs' ρ' H' e' R' d' => ?_))
        cases d' with
        | @tup a vs _ h1 h2 => exact ⟨a, rfl, ⟨vs, SqT.of (R'.same _ _ h1)⟩, p _ Hs' ρ' H' e' R' (itOk_tup (SqT.of h1) h2)⟩
      · refine .inr (.inl (go _ fun v Hs' ρ' H' e' R' d' => ?_))
        cases d' with
        | @ktup a vs _ h1 h2 => exact ⟨a, rfl, ⟨vs, SqT.mono R'.same h1⟩, p _ Hs' ρ' H' e' R' (itOk_tup h1 h2)⟩
      · refine .inl (go _ fun v Hs' ρ' H' e' R' d' => ?_)
        cases d' with
        | @lst a vs _ h1 h2 => exact ⟨a, rfl, ⟨vs, SqL.of (R'.same _ _ h1)⟩, p _ Hs' ρ' H' e' R' (itOk_list (SqL.of h1) h2)⟩
      · refine .inl (go _ fun v Hs' ρ' H' e' R' d' => ?_)
        cases d' with
        | @fz a vs _ h1 h2 => exact ⟨a, rfl, ⟨vs, SqL.mono R'.same h1⟩, p _ Hs' ρ' H' e' R' (itOk_list h1 h2)⟩
/-- range(n), range(a, b), range(a, b, c) -/
def rangeD (lo : Int) (n : Nat) : List D := (List.range n).map fun (i : Nat) => .int (lo + (i : Int))
def itRng (ms : Ex (List W)) : Ex (List D) := fun sl rt => (ms sl rt).bind fun ws rt => match ws with
  | [.d (.int j)] => if -1000000000000 ≤ j ∧ j ≤ 1000000000000 then .ok (rangeD 0 j.toNat) rt else .no
  | _ => .no
def itRng2 (ms : Ex (List W)) : Ex (List D) := fun sl rt => (ms sl rt).bind fun ws rt => match ws with
  | [.d (.int i), .d (.int j)] => if (-1000000000000 ≤ i ∧ i ≤ 1000000000000) ∧ -1000000000000 ≤ j ∧ j ≤ 1000000000000 then .ok (rangeD i (j - i).toNat) rt else .no
  | _ => .no
theorem vi_range1 (h : VA X Wx [e] ms) (hg : Gl X "range") (hm : X.mg "range" = none) (hs : starEach [e] X.env = [(false, eval e X.env)] := by rfl) : VI X Wx tg (.Call (.Name "range" p) [e] [] pos) (itRng ms) := by
  obtain ⟨t, a1, a2⟩ := h.ex
  refine ⟨_, pi_range1 hg hm a1 hs, fun B Hs ρ sl rt σ H Q R S q => ?_⟩
  refine a2 B Hs ρ sl rt σ H _ R S (PEx.bind q fun ws rt1 vs Hs1 ρ1 H1 e1 R1 d1 p1 => ?_)
  split at p1
  · obtain ⟨v, rfl, d⟩ := wds1 d1
    cases d
    rename_i j
    split at p1
    · rename_i hj
      exact ⟨j, rfl, by omega, by omega, p1 _ Hs1 ρ1 H1 Ext.refl R1 (itOk_fn walk_range)⟩
    · exact p1.elim
  · exact p1.elim
theorem vi_range2 (h : VA X Wx [e, e2] ms) (hg : Gl X "range") (hm : X.mg "range" = none) (hs : starEach [e, e2] X.env = [(false, eval e X.env), (false, eval e2 X.env)] := by rfl) (hs2 : starEach [e2] X.env = [(false, eval e2 X.env)] := by rfl) :
    VI X Wx tg (.Call (.Name "range" p) [e, e2] [] pos) (itRng2 ms) := by
  obtain ⟨t, a1, a2⟩ := h.ex
  refine ⟨_, pi_range2 hg hm a1 hs hs2, fun B Hs ρ sl rt σ H Q R S q => ?_⟩
  refine a2 B Hs ρ sl rt σ H _ R S (PEx.bind q fun ws rt1 vs Hs1 ρ1 H1 e1 R1 d1 p1 => ?_)
  split at p1
  · obtain ⟨v, u, rfl, d, d'⟩ := wds2 d1
    cases d; cases d'
    rename_i i j
    split at p1
    · rename_i hj
      exact ⟨i, j, rfl, by omega, p1 _ Hs1 ρ1 H1 Ext.refl R1 (itOk_fn walk_range)⟩
    · exact p1.elim
  · exact p1.elim
/-- enumerate(xs), zip(xs, ys) -/
def enumD : Int → List D → List D
  | _, [] => []
  | i, x :: xs => .tup [.int i, x] :: enumD (i + 1) xs
def zipD (xs ys : List D) : List D := (xs.zip ys).map fun p => .tup [p.1, p.2]
def itEnum (ms : Ex (List W)) : Ex (List D) := fun sl rt => (ms sl rt).bind fun ws rt => (valsOf ws rt).bind fun ys rt => match ys with
  | [.lst xs] => .ok (enumD 0 xs) rt
  | _ => .no
def itZip (ms : Ex (List W)) : Ex (List D) := fun sl rt => (ms sl rt).bind fun ws rt => (valsOf ws rt).bind fun ys rt => match ys with
  | [.lst xs, .lst zs] => .ok (zipD xs zs) rt
  | [.tup xs, .tup zs] => .ok (zipD xs zs) rt
  | [.ktup xs, .tup zs] => .ok (zipD xs zs) rt
  | [.tup xs, .ktup zs] => .ok (zipD xs zs) rt
  | [.ktup xs, .ktup zs] => .ok (zipD xs zs) rt
  | _ => .no
theorem enumD_get : ∀ {xs : List D} {k : Int} {i : Nat}, (enumD k xs)[i]? = (xs[i]?).map fun x => .tup [.int (k + i), x]
  | [], _, _ => by simp [enumD]
  | x :: xs, k, 0 => by simp [enumD]
  | x :: xs, k, i + 1 => by
    show (enumD (k + 1) xs)[i]? = _
    rw [enumD_get]
    simp only [List.getElem?_cons_succ]
    congr 1
    funext y
    congr 3
    push_cast
    omega
theorem enumD_length : ∀ {xs : List D} {k : Int}, (enumD k xs).length = xs.length
  | [], _ => rfl
  | x :: xs, k => by show (enumD (k + 1) xs).length + 1 = _; rw [enumD_length]; rfl
theorem itOk_pair {K : PySem.W.Frag} {w : World} {Hs : Hp} {J : It} {n : Nat} {G : Hp → Prop} {f g : Nat → Option V} {xs : List D} (hw : Walk J n G (YPair f g)) (hn : xs.length = n) (hG : ∀ H, Same Hs H → G H)
    (hd : ∀ i v u, i < n → f i = some v → g i = some u → ∃ x y, xs[i]? = some (.tup [x, y]) ∧ Den K w Hs v x ∧ Den K w Hs u y) : ItOk K w Hs J xs := by
  refine ⟨G, _, by rw [hn]; exact hw, hG, fun i H v H' hi y Hs1 s1 s2 => ?_⟩
  obtain ⟨T, v1, v2, rfl, hT, rfl, h1, h2⟩ := y
  obtain ⟨x, y, h3, h4, h5⟩ := hd i v1 v2 (by rw [← hn]; exact hi) h1 h2
  have hT1 : Hs1 T = none := by
    cases q : Hs1 T with
    | none => rfl
    | some o => rw [s2 _ _ q] at hT; cases hT
  have s3 := Same.trans' s1 (same_upd (o := HO.tup [v1, v2]) hT1)
  exact ⟨_, h3, .inr ⟨T, _, hT, rfl, .tup upd_same (.cons (h4.mono s3) (.cons (h5.mono s3) .nil))⟩⟩
theorem vi_enum {elts : List Expr} {kk : Nat} (h : VA X Wx [e] ms) (hg : Gl X "enumerate") (hm : X.mg "enumerate" = none) (hs : starEach [e] X.env = [(false, eval e X.env)] := by rfl) : VI X Wx (.Tuple elts kk tpos) (.Call (.Name "enumerate" p) [e] [] pos) (itEnum ms) := by
  obtain ⟨t, a1, a2⟩ := h.ex
  refine ⟨_, pi_enum hg hm a1 hs, fun B Hs ρ sl rt σ H Q R S q => ?_⟩
  refine a2 B Hs ρ sl rt σ H _ R S (PEx.bind q fun ws rt1 vs Hs1 ρ1 H1 e1 R1 d1 p1 => ?_)
  refine PEx.vals R1 d1 p1 fun ys rt2 Hs2 e2 R2 d2 p2 => ?_
  split at p2
  · rename_i xs
    cases d2 with
    | cons d2 d3 =>
      cases d3
      cases d2 with
      | @lst a us _ h1 h2 =>
        refine ⟨a, us, rfl, SqL.of (R2.same _ _ h1), p2 _ Hs2 ρ1 H1 Ext.refl R2 (itOk_pair walk_enum (by rw [enumD_length, h2.length]) (fun H s => SqL.of (s _ _ h1)) fun i v u hi e1 e2 => ?_)⟩
        cases e1
        obtain ⟨x, hx⟩ : ∃ x, xs[i]? = some x := ⟨xs[i]'(by rw [← h2.length]; exact hi), by simp [show i < xs.length by rw [← h2.length]; exact hi]⟩
        obtain ⟨u', e3, d3⟩ := h2.get hx
        rw [e2] at e3
        cases e3
        refine ⟨.int i, x, ?_, .int _, d3⟩
        rw [enumD_get, hx]
        simp
  · exact p2.elim
theorem zipD_get {xs zs : List D} {i : Nat} {x z : D} (h1 : xs[i]? = some x) (h2 : zs[i]? = some z) : (zipD xs zs)[i]? = some (.tup [x, z]) := by
  unfold zipD
  rw [List.getElem?_map, (List.getElem?_zip_eq_some (z := (x, z))).mpr ⟨h1, h2⟩]
  rfl
theorem zip_pairs {K : PySem.W.Frag} {w : World} {Hs : Hp} {us vs : List V} {xs zs : List D} (h1 : Dens K w Hs us xs) (h2 : Dens K w Hs vs zs) (i : Nat) (v u : V) (hi : i < min us.length vs.length) (e1 : us[i]? = some v) (e2 : vs[i]? = some u) :
    ∃ x y, (zipD xs zs)[i]? = some (.tup [x, y]) ∧ Den K w Hs v x ∧ Den K w Hs u y := by
  have l1 : i < xs.length := by rw [← h1.length]; omega
  have l2 : i < zs.length := by rw [← h2.length]; omega
  obtain ⟨v', e3, d3⟩ := h1.get (show xs[i]? = some xs[i] by simp [l1])
  obtain ⟨u', e4, d4⟩ := h2.get (show zs[i]? = some zs[i] by simp [l2])
  rw [e1] at e3
  rw [e2] at e4
  cases e3; cases e4
  exact ⟨_, _, zipD_get (by simp [l1]) (by simp [l2]), d3, d4⟩
theorem zipD_length {K : PySem.W.Frag} {w : World} {Hs : Hp} {us vs : List V} {xs zs : List D} (h1 : Dens K w Hs us xs) (h2 : Dens K w Hs vs zs) : (zipD xs zs).length = min us.length vs.length := by
  unfold zipD
  rw [List.length_map, List.length_zip, h1.length, h2.length]
theorem walk_zipT {K : PySem.W.Frag} {a b : Addr} {xs ys : List V} : Walk (RZ.ItzT K a b) (min xs.length ys.length) (fun H => SqT K H a xs ∧ SqT K H b ys) (YPair (fun i => xs[i]?) (fun i => ys[i]?)) := by
  refine ⟨fun i _ hi q => ?_, fun _ q => ⟨xs, ys, q.1, q.2, by omega⟩, fun i H v H' _ q y => ?_⟩
  · have h1 : i < xs.length := by omega
    have h2 : i < ys.length := by omega
    exact ⟨xs, ys, xs[i], ys[i], q.1, q.2, by simp [h1], by simp [h2]⟩
  · obtain ⟨T, x, z, h1, h2, h3, h4, h5⟩ := y
    exact ⟨T, x, z, h1, h2, h3, h4 xs q.1, h5 ys q.2⟩
theorem vi_zip {elts : List Expr} {kk : Nat} (h : VA X Wx [e, e2] ms) (hg : Gl X "zip") (hm : X.mg "zip" = none)
    (hs : starEach [e, e2] X.env = (false, eval e X.env) :: starEach [e2] X.env := by rfl) (hpl : (backTo pos (starEach [e2] X.env)).any (·.1) = false := by rfl) : VI X Wx (.Tuple elts kk tpos) (.Call (.Name "zip" p) [e, e2] [] pos) (itZip ms) := by
  obtain ⟨t, a1, a2⟩ := h.ex
  refine ⟨_, RZ.pi_zipA hg hm a1 hs hpl, fun B Hs ρ sl rt σ H Q R S q => ?_⟩
  refine a2 B Hs ρ sl rt σ H _ R S (PEx.bind q fun ws rt1 vs Hs1 ρ1 H1 e1 R1 d1 p1 => ?_)
  refine PEx.vals R1 d1 p1 fun ys rt2 Hs2 e2 R2 d2 p2 => ?_
  have tt : ∀ {a b : Addr} {us vs2 : List V} {xs zs : List D}, SqT X.K Hs2 a us → SqT X.K Hs2 b vs2 → Dens X.K X.w Hs2 us xs → Dens X.K X.w Hs2 vs2 zs → vs = [.ref a, .ref b] →
      PEx X.K X.w B Wx Hs2 ρ1 σ (fun h _ J xs => ItOk X.K X.w h J xs) (.ok (zipD xs zs) rt2) Q → ∃ a b xs ys, vs = [.ref a, .ref b] ∧ ((SqL X.K H1 a xs ∧ SqL X.K H1 b ys ∧ Q (Itz X.K a b) H1) ∨ (SqT X.K H1 a xs ∧ SqT X.K H1 b ys ∧ Q (RZ.ItzT X.K a b) H1)) := fun {a b us vs2 xs zs} g1 g2 g3 g4 ev p3 =>
    ⟨a, b, us, vs2, ev, .inr ⟨SqT.mono R2.same g1, SqT.mono R2.same g2, p3 _ Hs2 ρ1 H1 Ext.refl R2 (itOk_pair walk_zipT (zipD_length g3 g4) (fun H s => ⟨SqT.mono s g1, SqT.mono s g2⟩) (zip_pairs g3 g4))⟩⟩
  split at p2
  · cases d2 with
    | cons d2 d3 =>
      cases d3 with
      | cons d3 d4 =>
        cases d4
        cases d2 with
        | @lst a us _ h1 h2 =>
          cases d3 with
          | @lst b vs _ g1 g2 =>
            exact ⟨a, b, us, vs, rfl, .inl ⟨SqL.of (R2.same _ _ h1), SqL.of (R2.same _ _ g1), p2 _ Hs2 ρ1 H1 Ext.refl R2 (itOk_pair (walk_zip rfl) (zipD_length h2 g2) (fun H s => ⟨SqL.of (s _ _ h1), SqL.of (s _ _ g1)⟩) (zip_pairs h2 g2))⟩⟩
  · cases d2 with
    | cons d2 d3 =>
      cases d3 with
      | cons d3 d4 =>
        cases d4
        cases d2 with
        | tup h1 h2 => cases d3 with
          | tup g1 g2 => exact tt (SqT.of h1) (SqT.of g1) h2 g2 rfl p2
  · cases d2 with
    | cons d2 d3 =>
      cases d3 with
      | cons d3 d4 =>
        cases d4
        cases d2 with
        | ktup h1 h2 => cases d3 with
          | tup g1 g2 => exact tt h1 (SqT.of g1) h2 g2 rfl p2
  · cases d2 with
    | cons d2 d3 =>
      cases d3 with
      | cons d3 d4 =>
        cases d4
        cases d2 with
        | tup h1 h2 => cases d3 with
          | ktup g1 g2 => exact tt (SqT.of h1) g1 h2 g2 rfl p2
  · cases d2 with
    | cons d2 d3 =>
      cases d3 with
      | cons d3 d4 =>
        cases d4
        cases d2 with
        | ktup h1 h2 => cases d3 with
          | ktup g1 g2 => exact tt h1 g1 h2 g2 rfl p2
  · exact p2.elim
end

/-! ### comprehensions -/
/-- the reading that a mirror gives -/
def tM (K : PySem.W.Frag) (w : World) (Wx : WX) (m : Ex W) : TE := fun σ H Q => ∃ B Hs ρ sl rt, Rel K w B Hs ρ rt H ∧ SlD K w Hs ρ σ sl ∧ PE1 K w B Wx Hs ρ σ (m sl rt) Q
def tMT (K : PySem.W.Frag) (w : World) (Wx : WX) (m : Ex Bool) : TT := fun σ H Q => ∃ B Hs ρ sl rt, Rel K w B Hs ρ rt H ∧ SlD K w Hs ρ σ sl ∧ PT1 K w B Wx Hs ρ σ (m sl rt) Q
theorem VX.pe {X : Cx} {Wx : WX} {e : Expr} {m : Ex W} (h : VX X Wx e m) : PE X e (tM X.K X.w Wx m) := by
  obtain ⟨t, a1, a2⟩ := h.ex
  exact ⟨fun pins s σ H Q I ⟨B, Hs, ρ, sl, rt, R, S, p⟩ => a1.run pins s σ H Q I (a2 B Hs ρ sl rt σ H Q R S p)⟩
structure VTs (X : Cx) (Wx : WX) (ifs : List Expr) (m : Ex Bool) : Prop where
  ex : ∃ t, PTs X ifs t ∧ ∀ (B : Bnd) (Hs : Hp) (ρ : List Addr) (sl : Sl) (rt : List O) (σ : L2.St) (H : Hp) (Q : Bool → Hp → Prop), Rel X.K X.w B Hs ρ rt H → SlD X.K X.w Hs ρ σ sl → PT1 X.K X.w B Wx Hs ρ σ (m sl rt) Q → t σ H Q
theorem VTs.pts {X : Cx} {Wx : WX} {e : List Expr} {m : Ex Bool} (h : VTs X Wx e m) : PTs X e (tMT X.K X.w Wx m) := by
  obtain ⟨t, a1, a2⟩ := h.ex
  exact ⟨fun pins s σ H Q I ⟨B, Hs, ρ, sl, rt, R, S, p⟩ => a1.run pins s σ H Q I (a2 B Hs ρ sl rt σ H Q R S p)⟩
def eYes : Ex Bool := fun _ rt => .ok true rt
theorem vts_nil {X : Cx} {Wx : WX} : VTs X Wx [] eYes := ⟨_, pts_nil, fun B Hs ρ sl rt σ H Q R S p => p true Hs ρ H Ext.refl R rfl⟩
theorem vts_one {X : Cx} {Wx : WX} {c : Expr} {m : Ex Bool} (h : VT X Wx c m) : VTs X Wx [c] m := by
  obtain ⟨t, a1, a2⟩ := h.ex
  exact ⟨_, pts_one a1, a2⟩
/-- a target of names alone, their slots among vs -/
structure VGc (X : Cx) (vs : List Nat) (tg : Expr) (m : Gx) : Prop where
  ex : ∃ g, PG X tg g ∧ ∀ (B : Bnd) (Hs : Hp) (ρ : List Addr) (x : W) (v : V) (sl : Sl) (rt : List O) (σ : L2.St) (H : Hp) (Q : L2.St → Hp → Prop), Rel X.K X.w B Hs ρ rt H → SlD X.K X.w Hs ρ σ sl → WD X.K X.w Hs ρ v x →
    ∀ sl' rt', m x sl rt = .ok sl' rt' → (∀ σ', SlD X.K X.w Hs ρ σ' sl' → wipe σ' vs = wipe σ vs → rt' = rt → Q σ' H) → g v σ H Q
structure VGcs (X : Cx) (vs : List Nat) (tgs : List Expr) (m : List D → Ex Sl) : Prop where
  ex : ∃ g, PGs X tgs g ∧ ∀ (B : Bnd) (Hs : Hp) (ρ : List Addr) (xs : List D) (us : List V) (sl : Sl) (rt : List O) (σ : L2.St) (H : Hp) (Q : L2.St → Hp → Prop), Rel X.K X.w B Hs ρ rt H → SlD X.K X.w Hs ρ σ sl → Dens X.K X.w Hs us xs →
    ∀ sl' rt', m xs sl rt = .ok sl' rt' → (∀ σ', SlD X.K X.w Hs ρ σ' sl' → wipe σ' vs = wipe σ vs → rt' = rt → Q σ' H) → g us σ H Q
theorem wipe_get {σ : L2.St} {i : Nat} : ∀ {vs : List Nat}, (wipe σ vs)[i]? = if i ∈ vs ∧ i < σ.length then some none else σ[i]?
  | [] => by simp [wipe]
  | v :: vs => by
    unfold wipe
    by_cases h : v = i
    · subst h
      by_cases hl : v < σ.length
      · rw [List.getElem?_set_self (by rw [wipe_length]; exact hl), if_pos ⟨List.mem_cons_self, hl⟩]
      · rw [if_neg (fun z => hl z.2), List.getElem?_eq_none (by simp [wipe_length]; omega), List.getElem?_eq_none (by omega)]
    · rw [List.getElem?_set_ne h, wipe_get]
      by_cases hm : i ∈ vs ∧ i < σ.length
      · rw [if_pos hm, if_pos ⟨List.mem_cons_of_mem _ hm.1, hm.2⟩]
      · rw [if_neg hm, if_neg]
        rintro ⟨h1, h2⟩
        rcases List.mem_cons.mp h1 with h1 | h1
        · exact h h1.symm
        · exact hm ⟨h1, h2⟩
theorem wipe_set {σ : L2.St} {i : Nat} {o : Option V} {vs : List Nat} (h : i ∈ vs) : wipe (σ.set i o) vs = wipe σ vs := by
  refine List.ext_getElem? fun j => ?_
  rw [wipe_get, wipe_get, List.length_set]
  by_cases hj : i = j
  · subst hj
    by_cases hl : i < σ.length
    · rw [if_pos ⟨h, hl⟩, if_pos ⟨h, hl⟩]
    · rw [if_neg (fun z => hl z.2), if_neg (fun z => hl z.2), List.getElem?_eq_none (by simp; omega), List.getElem?_eq_none (by omega)]
  · rw [List.getElem?_set_ne hj]
section
variable {X : Cx} {vs : List Nat} {e : Expr} {es : List Expr} {pos : Pos} {m : Gx} {ms : List D → Ex Sl}
theorem vgc_name (i : Nat) {x : Str} (hv : i ∈ vs) (hN : X.N.Nodup) (hi : X.N[i]? = some x) (hx : Loc X.env.scope x) (hf : X.fn x = true ∨ X.env.scope.names.lookup x = some .local := by first | exact .inl rfl | exact .inr rfl | assumption) : VGc X vs (.Name x pos) (gN i) :=
  ⟨_, pg_name hN hi hx hf, fun B Hs ρ x v sl rt σ H Q R S d sl' rt' e h => by
    cases e
    exact h _ (S.set i d) (wipe_set hv) rfl⟩
theorem vgcs_nil : VGcs X vs [] gNil' := ⟨_, pgs_nil, fun B Hs ρ xs us sl rt σ H Q R S d sl' rt' e h => by
  cases d with
  | nil => cases e; exact ⟨rfl, h _ S rfl rfl⟩
  | cons _ _ => cases e⟩
theorem vgcs_cons (h1 : VGc X vs e m) (h2 : VGcs X vs es ms) (hs : (assignEach (e :: es) X.env).map (·.2) = assign e X.env :: (assignEach es X.env).map (·.2) := by rfl) : VGcs X vs (e :: es) (gCons' m ms) := by
  obtain ⟨g, a1, a2⟩ := h1.ex
  obtain ⟨u, b1, b2⟩ := h2.ex
  refine ⟨_, pgs_cons a1 b1 hs, fun B Hs ρ xs us sl rt σ H Q R S d sl' rt' ee h => ?_⟩
  cases d with
  | nil => cases ee
  | @cons v x us xs d ds =>
    unfold gCons' at ee
    simp only at ee
    cases h3 : m (.d x) sl rt with
    | no => rw [h3] at ee; cases ee
    | ex c fs rt1 => rw [h3] at ee; cases ee
    | ok sl1 rt1 =>
      rw [h3] at ee
      simp only [Ou.bind] at ee
      cases h4 : ms xs sl1 rt1 with
      | no => rw [h4] at ee; cases ee
      | ex c fs rt2 => rw [h4] at ee; cases ee
      | ok sl2 rt2 =>
        rw [h4] at ee
        cases ee
        refine ⟨v, us, rfl, a2 B Hs ρ (.d x) v sl rt σ H _ R S d sl1 rt1 h3 fun σ1 S1 w1 er1 => ?_⟩
        subst er1
        refine b2 B Hs ρ xs us sl1 rt1 σ1 H Q R S1 ds _ _ h4 fun σ2 S2 w2 er2 => ?_
        exact h σ2 S2 (w2.trans w1) er2
theorem vgc_tup {k : Nat} {n : Nat} (hc : X.calm = true) (h : VGcs X vs es ms) (hn : (assignEach es X.env).length = n := by rfl) (hst : (assignEach es X.env).findIdx? (·.1) = none := by rfl) : VGc X vs (.Tuple es k pos) (gT n ms) := by
  obtain ⟨g, a1, a2⟩ := h.ex
  refine ⟨_, pg_tup hc a1 hn hst, fun B Hs ρ x v sl rt σ H Q R S d sl' rt' e hq => ?_⟩
  cases x with
  | r _ => cases e
  | d x =>
    cases x <;> first | cases e | skip
    · rename_i xs
      cases d with
      | @tup a us _ h1 h2 =>
        unfold gT at e
        by_cases hl : xs.length = n
        · simp only [hl, if_true] at e
          exact ⟨a, us, rfl, SqT.of (R.same _ _ h1), h2.length.trans hl, a2 B Hs ρ xs us sl rt σ H Q R S h2 sl' rt' e hq⟩
        · simp only [hl, if_false] at e
          cases e
    · rename_i xs
      cases d with
      | @ktup a us _ h1 h2 =>
        unfold gT at e
        by_cases hl : xs.length = n
        · simp only [hl, if_true] at e
          exact ⟨a, us, rfl, SqT.mono R.same h1, h2.length.trans hl, a2 B Hs ρ xs us sl rt σ H Q R S h2 sl' rt' e hq⟩
        · simp only [hl, if_false] at e
          cases e
end
theorem VGc.vg {X : Cx} {Wx : WX} {vs : List Nat} {tg : Expr} {m : Gx} (h : VGc X vs tg m) (hl : ∀ x sl rt sl' rt', m x sl rt = .ok sl' rt' → sl'.length = sl.length) (hx : ∀ x sl rt c fs rt', m x sl rt ≠ .ex c fs rt') : VG X Wx tg m := by
  obtain ⟨g, a1, a2⟩ := h.ex
  refine ⟨g, a1, fun B Hs ρ x v sl rt σ H Q R S d p => ?_⟩
  cases e : m x sl rt with
  | no => rw [e] at p; exact p.elim
  | ex c fs rt' => exact (hx _ _ _ _ _ _ e).elim
  | ok sl' rt' =>
    rw [e] at p
    refine a2 B Hs ρ x v sl rt σ H Q R S d sl' rt' e fun σ' S' _ er => ?_
    subst er
    exact p σ' Hs ρ H Ext.refl R ⟨S', by rw [S'.len, S.len, hl _ _ _ _ _ e]⟩
def gM (K : PySem.W.Frag) (w : World) (vs : List Nat) (m : Gx) : TG := fun v σ H Q => ∃ B Hs ρ x sl rt sl' rt', Rel K w B Hs ρ rt H ∧ SlD K w Hs ρ σ sl ∧ WD K w Hs ρ v x ∧ m x sl rt = .ok sl' rt' ∧ ∀ σ', SlD K w Hs ρ σ' sl' → wipe σ' vs = wipe σ vs → rt' = rt → Q σ' H
theorem VGc.pg {X : Cx} {vs : List Nat} {tg : Expr} {m : Gx} (h : VGc X vs tg m) : PG X tg (gM X.K X.w vs m) := by
  obtain ⟨g, a1, a2⟩ := h.ex
  exact ⟨fun pins s σ H v u Q I r ⟨B, Hs, ρ, x, sl, rt, sl', rt', R, S, d, e, q⟩ => a1.run pins s σ H v u Q I r (a2 B Hs ρ x v sl rt σ H Q R S d sl' rt' e q)⟩
/-- the turns of a comprehension; its list is the root d -/
def compL (vs : List Nat) (d : Nat) (g : Gx) (tt : Ex Bool) (el : Ex W) (sl : Sl) : List D → List O → Ou Unit
  | [], rt => .ok () rt
  | x :: xs, rt => (g (.d x) (kill vs sl) rt).noex.bind fun sl1 rt => (tt sl1 rt).noex.bind fun b rt => if b = true then (el sl1 rt).noex.bind fun y rt => (vOf y rt).bind fun z rt => match rt[d]? with
      | some (.lst acc) => if acc.length < 16000000 then compL vs d g tt el sl xs ((rt.set d (.lst (acc ++ [z]))).take (d + 1)) else .no
      | _ => .no
    else compL vs d g tt el sl xs (rt.take (d + 1))
def eComp (vs : List Nat) (it : Ex (List D)) (g : Gx) (tt : Ex Bool) (el : Ex W) : Ex W := fun sl rt => (it sl rt).bind fun xs rt => (compL vs rt.length g tt el sl xs (rt ++ [.lst []])).bind fun _ rt' => .ok (.r rt.length) rt'
abbrev WF : WX := fun _ _ _ _ => False
end VE

set_option maxRecDepth 100000
set_option maxHeartbeats 1000000
namespace VE
open PySem PySem.Spec L2
theorem SlD.wipe {K : PySem.W.Frag} {w : World} {Hs : Hp} {ρ : List Addr} {σ : L2.St} {sl : Sl} (h : SlD K w Hs ρ σ sl) (vs : List Nat) : SlD K w Hs ρ (wipe σ vs) (VE.kill vs sl) := by
  have h2 := h.kill vs
  refine ⟨by rw [wipe_length]; exact h2.len, fun i x e => ?_⟩
  obtain ⟨v, e1, d⟩ := h2.at_ i x e
  refine ⟨v, ?_, d⟩
  rw [wipe_get, if_neg]
  · exact e1
  · rintro ⟨hm, _⟩
    have kill_none : ∀ (vs : List Nat) (sl : Sl) (i : Nat), i ∈ vs → ∀ x, (VE.kill vs sl)[i]? ≠ some (some x) := by
      intro vs
      induction vs with
      | nil => intro sl i hi; cases hi
      | cons k ks ih =>
        intro sl i hi x e
        have keep : ∀ (ks : List Nat) (sl : Sl) (i : Nat), (∀ x, sl[i]? ≠ some (some x)) → ∀ x, (VE.kill ks sl)[i]? ≠ some (some x) := by
          intro ks
          induction ks with
          | nil => intro sl i h; exact h
          | cons k ks ih2 =>
            intro sl i h
            refine ih2 _ i fun x e => ?_
            by_cases hk : k = i
            · subst hk
              by_cases hl : k < sl.length
              · rw [List.getElem?_set_self hl] at e; cases e
              · rw [List.getElem?_eq_none (by simp; omega)] at e; cases e
            · rw [List.getElem?_set_ne hk] at e
              exact h x e
        by_cases hk : k = i
        · subst hk
          refine keep ks (sl.set k none) k (fun x e => ?_) x e
          by_cases hl : k < sl.length
          · rw [List.getElem?_set_self hl] at e; cases e
          · rw [List.getElem?_eq_none (by simp; omega)] at e; cases e
        · rcases List.mem_cons.mp hi with h | h
          · exact hk h.symm
          · exact ih (sl.set k none) i h x e
    exact kill_none vs sl i hm x e
section
variable {X : Cx} {Wx : WX} {elt tg iter : Expr} {ifs : List Expr} {scope : Scope} {own : List (Str × Nat)} {pos : Pos} {it : Ex (List D)} {g : Gx} {mt : Ex Bool} {me : Ex W}
/-- the reading of a comprehension from its mirror -/
theorem comp_ok {wi : TI} (i2 : ∀ (B : Bnd) (Hs : Hp) (ρ : List Addr) (sl : Sl) (rt : List O) (σ : L2.St) (H : Hp) (Q : It → Hp → Prop), Rel X.K X.w B Hs ρ rt H → SlD X.K X.w Hs ρ σ sl → PEx X.K X.w B Wx Hs ρ σ (fun h _ J xs => ItOk X.K X.w h J xs) (it sl rt) Q → wi σ H Q)
    (vs : List Nat) (B : Bnd) (Hs : Hp) (ρ : List Addr) (sl : Sl) (rt : List O) (σ : L2.St) (H : Hp) (Q : VK) (R : Rel X.K X.w B Hs ρ rt H) (S : SlD X.K X.w Hs ρ σ sl) (p : PE1 X.K X.w B Wx Hs ρ σ (eComp vs it g mt me sl rt) Q) :
    tLc wi (gM X.K X.w vs g) (tMT X.K X.w WF mt) (tM X.K X.w WF me) vs σ H Q := by
  refine i2 B Hs ρ sl rt σ H _ R S (PEx.bind p fun xs rt1 J Hs1 ρ1 H1 e1 R1 d1 p1 => ?_)
  obtain ⟨G, Y, hw, hG, hY⟩ := d1.ex
  intro D hD
  have R2 := R1.push (o := .lst []) (u := .lst []) hD (.lst upd_same .nil)
  have S1 := S.mono e1
  -- the state between turns: the list's root is the last one
  refine lc_it hw (fun i H' => ∃ Hs' rt' acc, Same Hs1 Hs' ∧ Rel X.K X.w B Hs' (ρ1 ++ [D]) (rt' ++ [acc]) H' ∧ rt'.length = rt1.length ∧
      PE1 X.K X.w B Wx Hs1 ρ1 σ ((compL vs rt1.length g mt me sl (xs.drop i) (rt' ++ [acc])).bind fun _ rt'' => .ok (.r rt1.length) rt'') Q)
    ⟨Hs1, rt1, .lst [], Same.rfl', R2, rfl, by rw [List.drop_zero]; exact p1⟩ (fun i H' _ ⟨Hs', rt', acc, s2, R3, _⟩ => hG H' (Same.trans' s2 R3.same)) ?_ ?_
  · rintro i v H' H2 hi ⟨Hs', rt', acc, s2, R3, hlen, p2⟩ y
    obtain ⟨x, hx, hd⟩ := hY i H' v H2 hi y Hs' s2 R3.same
    have hdrop : xs.drop i = x :: xs.drop (i + 1) := by
      obtain ⟨q1, q2⟩ := List.getElem?_eq_some_iff.mp hx
      rw [List.drop_eq_getElem_cons q1, q2]
    obtain ⟨Hs3, e3, R4, d3⟩ : ∃ Hs3, Same Hs' Hs3 ∧ Rel X.K X.w B Hs3 (ρ1 ++ [D]) (rt' ++ [acc]) H2 ∧ Den X.K X.w Hs3 v x := by
      rcases hd with ⟨rfl, hd⟩ | ⟨T, o, hT, rfl, hd⟩
      · exact ⟨Hs', Same.rfl', R3, hd⟩
      · exact ⟨upd Hs' T o, same_upd (R3.fresh hT).1, R3.alloc hT, hd⟩
    rw [hdrop] at p2
    unfold compL at p2
    have S3 : SlD X.K X.w Hs3 (ρ1 ++ [D]) (wipe σ vs) (kill vs sl) := (S1.wipe vs).mono ⟨Same.trans' s2 e3, [D], rfl⟩
    have s13 := Same.trans' s2 e3
    cases hg : g (.d x) (kill vs sl) (rt' ++ [acc]) with
    | no => rw [hg] at p2; exact p2.elim
    | ex c fs rt4 => rw [hg] at p2; exact p2.elim
    | ok sl4 rt4 =>
      rw [hg] at p2
      simp only [Ou.noex, Ou.bind] at p2
      refine ⟨B, Hs3, _, .d x, _, _, sl4, rt4, R4, S3, d3, hg, fun σ4 S4 w4 er => ?_⟩
      subst er
      have ww : wipe (wipe σ vs) vs = wipe σ vs := by
        refine List.ext_getElem? fun j => ?_
        rw [wipe_get, wipe_get, wipe_length]
        by_cases hj : j ∈ vs ∧ j < σ.length
        · rw [if_pos hj, if_pos hj]
        · rw [if_neg hj, if_neg hj]
      refine ⟨w4.trans ww, ?_⟩
      refine ⟨B, Hs3, _, sl4, _, R4, S4, ?_⟩
      -- the tests
      cases ht : mt sl4 (rt' ++ [acc]) with
      | no => rw [ht] at p2; exact p2.elim
      | ex c fs rt5 => rw [ht] at p2; exact p2.elim
      | ok b rt5 =>
        rw [ht] at p2
        simp only [Ou.bind] at p2
        intro b' Hs5 ρ5 H5 e5 R5 eb
        subst eb
        have hext : ∃ t5, ρ5 = ρ1 ++ (D :: t5) := by
          obtain ⟨_, t, rfl⟩ := e5
          exact ⟨t, by simp⟩
        obtain ⟨t5, rfl⟩ := hext
        have hl5 : rt1.length + 1 ≤ rt5.length := by
          have := R5.len
          rw [List.length_append, List.length_cons, R1.len] at this
          omega
        have takeρ : ∀ t : List Addr, (ρ1 ++ (D :: t)).take (rt1.length + 1) = ρ1 ++ [D] := fun t => by
          rw [← R1.len, List.take_append, List.take_of_length_le (Nat.le_succ _)]
          simp
        have dAt : ∀ t : List Addr, (ρ1 ++ (D :: t))[rt1.length]? = some D := fun t => by
          rw [← R1.len, List.getElem?_append_right (Nat.le_refl _), Nat.sub_self]
          rfl
        cases b' with
        | false =>
          rw [if_neg Bool.false_ne_true]
          simp only [Bool.false_eq_true, if_false] at p2
          have R6 := R5.take (k := rt1.length + 1) hl5
          rw [takeρ] at R6
          obtain ⟨rt6, o6, h6⟩ : ∃ rt6 o6, rt5.take (rt1.length + 1) = rt6 ++ [o6] ∧ rt6.length = rt1.length := by
            refine ⟨rt5.take rt1.length, rt5[rt1.length]'(by omega), ?_, by rw [List.length_take]; omega⟩
            rw [List.take_succ_eq_append_getElem]
          rw [h6.1] at R6 p2
          exact ⟨Hs5, rt6, o6, Same.trans' s13 e5.same, R6, h6.2, p2⟩
        | true =>
          rw [if_pos rfl]
          simp only [if_true] at p2
          refine ⟨B, Hs5, _, sl4, rt5, R5, S4.mono e5, ?_⟩
          cases he : me sl4 rt5 with
          | no => rw [he] at p2; exact p2.elim
          | ex c fs rt7 => rw [he] at p2; exact p2.elim
          | ok y rt7 =>
            rw [he] at p2
            simp only [Ou.bind] at p2
            intro u Hs7 ρ7 H7 e7 R7 d7
            obtain ⟨t7, rfl⟩ : ∃ t7, ρ7 = ρ1 ++ (D :: t7) := by
              obtain ⟨_, t, rfl⟩ := e7
              exact ⟨t5 ++ t, by simp⟩
            cases hv : vOf y rt7 with
            | no => rw [hv] at p2; exact p2.elim
            | ex c fs rt8 => exact (vOf_noex hv).elim
            | ok z rt8 =>
              rw [hv] at p2
              simp only [Ou.bind] at p2
              obtain ⟨Hs8, e8, R8, d8⟩ := vOf_ok R7 d7 z rt8 hv
              cases hr : rt8[rt1.length]? with
              | none => simp only [hr] at p2; exact p2.elim
              | some o =>
                cases o <;> simp only [hr] at p2 <;> first | exact p2.elim | skip
                rename_i acc8
                obtain ⟨a8, us8, ea, h8, dd8, w8⟩ := live_lst (v := .ref D) R8 ⟨D, dAt t7, rfl⟩ hr
                cases ea
                by_cases hlt : acc8.length < 16000000
                · rw [if_pos hlt] at p2
                  refine ⟨us8, h8, lim_lt (by rw [dd8.length]; exact hlt), ?_⟩
                  have R9 := w8 (us8 ++ [u]) (acc8 ++ [z]) (dd8.append (.cons d8 .nil))
                  have hl8 : rt1.length + 1 ≤ rt8.length := (List.getElem?_eq_some_iff.mp hr).1
                  have R10 := R9.take (k := rt1.length + 1) (by simpa using hl8)
                  rw [takeρ] at R10
                  have hcut : (rt8.set rt1.length (.lst (acc8 ++ [z]))).take (rt1.length + 1) = rt8.take rt1.length ++ [.lst (acc8 ++ [z])] := by
                    rw [List.take_succ, List.getElem?_set_self (by omega), List.take_set_of_le (Nat.le_refl _)]
                    rfl
                  rw [hcut] at R10 p2
                  exact ⟨Hs8, rt8.take rt1.length, .lst (acc8 ++ [z]), Same.trans' s13 (Same.trans' e5.same (Same.trans' e7.same e8.same)), R10, by rw [List.length_take]; omega, p2⟩
                · rw [if_neg hlt] at p2
                  exact p2.elim
  · rintro H' ⟨Hs', rt', acc, s2, R3, hlen, p2⟩
    rw [List.drop_eq_nil_of_le (Nat.le_refl _)] at p2
    exact p2 (.ref D) Hs' _ H' ⟨s2, [D], rfl⟩ R3 ⟨D, by rw [← R1.len, List.getElem?_append_right (Nat.le_refl _), Nat.sub_self]; rfl, rfl⟩
theorem vx_comp (vs : List Nat) (hc : X.calm = true) (hN : X.N.Nodup) (hi : VI X Wx tg iter it) (ok : BlkOk X.N X.env.scope scope own) (hv : own.map (·.2) = vs := by rfl)
    (hg : ∀ (s : Shared) (H : Hp) (C : Addr) (cl : List (Str × Addr)) (fp : List Addr), VGc (X.blk s H scope (compEnvC scope cl C X.env) fp) vs tg g) (ht : ∀ (s : Shared) (H : Hp) (C : Addr) (cl : List (Str × Addr)) (fp : List Addr), VTs (X.blk s H scope (compEnvC scope cl C X.env) fp) WF ifs mt)
    (he : ∀ (s : Shared) (H : Hp) (C : Addr) (cl : List (Str × Addr)) (fp : List Addr), VX (X.blk s H scope (compEnvC scope cl C X.env) fp) WF elt me) (hs : ∀ x, foldedSetIterable iter X.env x = pure x := by intro _; rfl) :
    VX X Wx (.ListComp elt [⟨tg, iter, ifs, 0⟩] scope pos) (eComp vs it g mt me) := by
  subst hv
  obtain ⟨wi, i1, i2⟩ := hi.ex
  exact vx_pe (pe_lc hc hN i1 ok (fun s H C cl fp => (hg s H C cl fp).pg) (fun s H C cl fp => (ht s H C cl fp).pts) (fun s H C cl fp => (he s H C cl fp).pe) hs) (comp_ok i2 _)
theorem vs_setComp (vs : List Nat) {i : Nat} {y : Str} {py spos : Pos} (hc : X.calm = true) (hN : X.N.Nodup) (hy : X.N[i]? = some y) (hyl : X.env.scope.names.lookup y = some .local)
    (hsw : swapsWith (.ListComp elt [⟨tg, iter, ifs, 0⟩] scope pos) (some (.Name y py)) spos.line X.env = pure true) (hi : VI X Wx tg iter it) (ok : BlkOk X.N X.env.scope scope own) (hv : own.map (·.2) = vs := by rfl)
    (hg : ∀ (s : Shared) (H : Hp) (C : Addr) (cl : List (Str × Addr)) (fp : List Addr), VGc (X.blk s H scope (compEnvC scope cl C X.env) fp) vs tg g) (ht : ∀ (s : Shared) (H : Hp) (C : Addr) (cl : List (Str × Addr)) (fp : List Addr), VTs (X.blk s H scope (compEnvC scope cl C X.env) fp) WF ifs mt)
    (he : ∀ (s : Shared) (H : Hp) (C : Addr) (cl : List (Str × Addr)) (fp : List Addr), VX (X.blk s H scope (compEnvC scope cl C X.env) fp) WF elt me) (hs : ∀ x, foldedSetIterable iter X.env x = pure x := by intro _; rfl) :
    VS X Wx (.Assign [.Name y py] (.ListComp elt [⟨tg, iter, ifs, 0⟩] scope pos) spos) (sSet i (eComp vs it g mt me)) := by
  subst hv
  obtain ⟨wi, i1, i2⟩ := hi.ex
  refine ⟨_, ps_setLc (g := gM X.K X.w _ g) (tt := tMT X.K X.w WF mt) (te := tM X.K X.w WF me) hc hN hy hyl hsw i1 ok (fun s H C cl fp => (hg s H C cl fp).pg) (fun s H C cl fp => (ht s H C cl fp).pts) (fun s H C cl fp => (he s H C cl fp).pe) hs, fun B Hs ρ sl rt σ H D R S p => ?_⟩
  refine comp_ok i2 _ B Hs ρ sl rt σ H _ R S (PEx.seq S p fun x rt1 v Hs1 ρ1 H1 e1 R1 d1 p1 => ?_)
  exact p1 Hs1 ρ1 _ H1 Ext.refl R1 ((S.mono e1).set i d1) (by simp)
end
end VE

set_option maxRecDepth 100000
set_option maxHeartbeats 1000000
namespace VE
open PySem PySem.Spec L2

/-! ### a def that is called: its promise, told for its name -/
structure Cal (P : Program) (w : World) (K : PySem.W.Frag) (mg : Str → Option Value) (base : Heap) (k : Nat) (x : Str) (ps : List Str) (m : FM) : Prop where
  ex : ∃ (f : Addr) (fd : FuncData), FnOk P w K mg base (L2.CX P w) k f fd ps (spV K w m ps.length) ∧ mg x = some (.ref f) ∧ PySem.W.keepIn K (.ref f) = true ∧ Binds K fd ps []
theorem Cal.le {P : Program} {w : World} {K : PySem.W.Frag} {mg : Str → Option Value} {base : Heap} {j k : Nat} {x : Str} {ps : List Str} {m : FM} (C : Cal P w K mg base j x ps m) (h : j ≤ k) : Cal P w K mg base k x ps m := by
  obtain ⟨f, fd, h1, h2⟩ := C.ex
  exact ⟨f, fd, h1.mono h, h2⟩
section
variable {X : Cx} {Wx : WX} {e : Expr} {es : List Expr} {ms : Ex (List W)} {pos p : Pos} {k j : Nat} {x : Str} {ps : List Str} {fm : FM}
theorem vx_fn (C : Cal X.prog X.w X.K X.mg X.base j x ps fm) (hr : Room k X.A) (hj : j ≤ k) (hg : Gl X x) (tk : Takes X Wx) (ha : VA X Wx (e :: es) ms) (hdb : (x == ("__debug__" : Str)) = false := by decide)
    (he : starEach (e :: es) X.env = (false, eval e X.env) :: starEach es X.env := by rfl) (hpl : (backTo pos (starEach es X.env)).any (·.1) = false := by rfl) {np : Nat} (hl : ps.length = np := by rfl) :
    VX X Wx (.Call (.Name x p) (e :: es) [] pos) (eCall fm np ms) := by
  subst hl
  obtain ⟨f, fd, h1, h2, h3, h4⟩ := C.ex
  exact vx_call h1 (hr.mono hj) hg h2 h3 h4 tk ha hdb he hpl
theorem vx_fn0 (C : Cal X.prog X.w X.K X.mg X.base j x [] fm) (hr : Room k X.A) (hj : j ≤ k) (hg : Gl X x) (hdb : (x == ("__debug__" : Str)) = false := by decide) :
    VX X Wx (.Call (.Name x p) [] [] pos) (eCall0 fm) := by
  obtain ⟨f, fd, h1, h2, h3, h4⟩ := C.ex
  exact vx_call0 h1 (hr.mono hj) hg h2 h3 h4 hdb
end

section
variable {X : Cx} {Wx : WX} {a b c e : Expr} {pos : Pos} {ma mb mc m : Ex W}
/-! ### -e, a < b < c -/
def eNeg (m : Ex W) : Ex W := fun sl rt => (m sl rt).bind fun x rt => match x with
  | .d (.int i) => .ok (.d (.int (-i))) rt
  | _ => .no
theorem vx_neg (ha : VX X Wx a ma) : VX X Wx (.UnaryOp .USub a pos) (eNeg ma) := by
  obtain ⟨t, a1, a2⟩ := ha.ex
  refine vx_pe (pe_un un_neg a1) fun B Hs ρ sl rt σ H Q R S p => ?_
  refine a2 B Hs ρ sl rt σ H _ R S (PEx.bind p fun x rt1 v Hs1 ρ1 H1 e1 R1 d1 p1 => ?_)
  split at p1
  · cases d1
    exact ⟨_, rfl, p1 _ Hs1 ρ1 H1 Ext.refl R1 (.int _)⟩
  · exact p1.elim
def eChain (g g' : W → W → List O → Ou W) (ma mb mc : Ex W) : Ex W := fun sl rt => (ma sl rt).bind fun x rt => (mb sl rt).bind fun y rt => (g x y rt).bind fun z rt => match z with
  | .d (.bl b) => if b = true then (mc sl rt).bind fun u rt => g' y u rt else .ok (.d (.bl false)) rt
  | _ => .no
theorem chain_ok {r r' : R2} {g g' : W → W → List O → Ou W} {ta tb tc : TE} 
    (hr : ∀ (Wx : WX) (B : Bnd) (Hs : Hp) (ρ : List Addr) (rt : List O) (σ : L2.St) (H : Hp) (Q : VK) (x y : W) (v u : V), Rel X.K X.w B Hs ρ rt H → WD X.K X.w Hs ρ v x → WD X.K X.w Hs ρ u y → PE1 X.K X.w B Wx Hs ρ σ (g x y rt) Q → r v u H Q)
    (hr' : ∀ (Wx : WX) (B : Bnd) (Hs : Hp) (ρ : List Addr) (rt : List O) (σ : L2.St) (H : Hp) (Q : VK) (x y : W) (v u : V), Rel X.K X.w B Hs ρ rt H → WD X.K X.w Hs ρ v x → WD X.K X.w Hs ρ u y → PE1 X.K X.w B Wx Hs ρ σ (g' x y rt) Q → r' v u H Q)
    (ha : ∀ (B : Bnd) (Hs : Hp) (ρ : List Addr) (sl : Sl) (rt : List O) (σ : L2.St) (H : Hp) (Q : VK), Rel X.K X.w B Hs ρ rt H → SlD X.K X.w Hs ρ σ sl → PE1 X.K X.w B Wx Hs ρ σ (ma sl rt) Q → ta σ H Q)
    (hb : ∀ (B : Bnd) (Hs : Hp) (ρ : List Addr) (sl : Sl) (rt : List O) (σ : L2.St) (H : Hp) (Q : VK), Rel X.K X.w B Hs ρ rt H → SlD X.K X.w Hs ρ σ sl → PE1 X.K X.w B Wx Hs ρ σ (mb sl rt) Q → tb σ H Q)
    (hc : ∀ (B : Bnd) (Hs : Hp) (ρ : List Addr) (sl : Sl) (rt : List O) (σ : L2.St) (H : Hp) (Q : VK), Rel X.K X.w B Hs ρ rt H → SlD X.K X.w Hs ρ σ sl → PE1 X.K X.w B Wx Hs ρ σ (mc sl rt) Q → tc σ H Q)
    (B : Bnd) (Hs : Hp) (ρ : List Addr) (sl : Sl) (rt : List O) (σ : L2.St) (H : Hp) (Q : VK) (R : Rel X.K X.w B Hs ρ rt H) (S : SlD X.K X.w Hs ρ σ sl) (p : PE1 X.K X.w B Wx Hs ρ σ (eChain g g' ma mb mc sl rt) Q) : tChain r r' ta tb tc σ H Q := by
  refine ha B Hs ρ sl rt σ H _ R S (PEx.bind p fun x rt1 v Hs1 ρ1 H1 e1 R1 d1 p1 => ?_)
  refine hb B Hs1 ρ1 sl rt1 σ H1 _ R1 (S.mono e1) (PEx.bind p1 fun y rt2 u Hs2 ρ2 H2 e2 R2 d2 p2 => ?_)
  refine hr Wx B Hs2 ρ2 rt2 σ H2 _ x y v u R2 (d1.mono e2) d2 (PEx.bind p2 fun z rt3 t Hs3 ρ3 H3 e3 R3 d3 p3 => ?_)
  split at p3
  · rename_i b
    cases d3
    refine ⟨b, rfl, ?_⟩
    cases b with
    | true =>
      refine hc B Hs3 ρ3 sl rt3 σ H3 _ R3 (S.mono (e1.trans (e2.trans e3))) (PEx.bind p3 fun w' rt4 t Hs4 ρ4 H4 e4 R4 d4 p4 => ?_)
      exact hr' Wx B Hs4 ρ4 rt4 σ H4 Q y w' u t R4 (d2.mono (e3.trans e4)) d4 p4
    | false => exact p3 _ Hs3 ρ3 H3 Ext.refl R3 (.bl false)
  · exact p3.elim
theorem vx_chain {op op' : CmpOp} {g g' : W → W → List O → Ou W} (ho : OpV X (compareOp op) g) (ho' : OpV X (compareOp op') g') (ha : VX X Wx a ma) (hb : VX X Wx b mb) (hc : VX X Wx c mc)
    (hm : lastMarks [op, op'] [b, c] = false := by with_unfolding_all rfl) : VX X Wx (.Compare a [op, op'] [b, c] pos) (eChain g g' ma mb mc) := by
  obtain ⟨r, h1, h2⟩ := ho.ex
  obtain ⟨r', h1', h2'⟩ := ho'.ex
  obtain ⟨ta, a1, a2⟩ := ha.ex
  obtain ⟨tb, b1, b2⟩ := hb.ex
  obtain ⟨tc, c1, c2⟩ := hc.ex
  exact vx_pe (pe_chain h1 h1' a1 b1 c1 hm) (chain_ok h2 h2' a2 b2 c2)
theorem vt_chain {op op' : CmpOp} {g g' : W → W → List O → Ou W} (ho : OpV X (compareOp op) g) (ho' : OpV X (compareOp op') g') (ha : VX X Wx a ma) (hb : VX X Wx b mb) (hc : VX X Wx c mc)
    (hm : lastMarks [op, op'] [b, c] = false := by with_unfolding_all rfl) : VT X Wx (.Compare a [op, op'] [b, c] pos) (eB (eChain g g' ma mb mc)) := by
  obtain ⟨r, h1, h2⟩ := ho.ex
  obtain ⟨r', h1', h2'⟩ := ho'.ex
  obtain ⟨ta, a1, a2⟩ := ha.ex
  obtain ⟨tb, b1, b2⟩ := hb.ex
  obtain ⟨tc, c1, c2⟩ := hc.ex
  exact ⟨⟨_, pt_chain h1 h1' a1 b1 c1 hm, test_ok (chain_ok h2 h2' a2 b2 c2)⟩⟩

/-! ### x in y -/
def flOf : D → Option V
  | .non => some .non
  | .bl b => some (.bl b)
  | .int i => some (.int i)
  | .str s => some (.str s)
  | _ => none
def flAll : List D → Option (List V)
  | [] => some []
  | x :: xs => match flOf x, flAll xs with
    | some v, some vs => some (v :: vs)
    | _, _ => none
theorem fl_ok {K : PySem.W.Frag} {w : World} {H : Hp} {v u : V} {x : D} (d : Den K w H v x) (e : flOf x = some u) : v = u ∧ flatV u = true := by
  cases d <;> cases e <;> exact ⟨rfl, rfl⟩
theorem fls_ok {K : PySem.W.Frag} {w : World} {H : Hp} : ∀ {vs us : List V} {xs : List D}, Dens K w H vs xs → flAll xs = some us → vs = us ∧ us.all flatV = true
  | _, _, _, .nil, e => by cases e; exact ⟨rfl, rfl⟩
  | _, _, _, .cons (x := x) (xs := xs) d t, e => by
    rw [flAll] at e
    cases h1 : flOf x with
    | none => simp only [h1] at e; cases e
    | some k =>
      cases h2 : flAll xs with
      | none => simp only [h1, h2] at e; cases e
      | some ks =>
        simp only [h1, h2] at e
        cases e
        obtain ⟨rfl, g1⟩ := fl_ok d h1
        obtain ⟨rfl, g2⟩ := fls_ok t h2
        exact ⟨rfl, by rw [List.all_cons, g1, g2]; rfl⟩
def inFl (x : D) (ys : List D) : Option Bool := match flOf x, flAll ys with
  | some v, some vs => some (inV v vs)
  | _, _ => none
def inDp (x : D) (ys : List D) : Option Bool := match pyOf x, pyAll ys with
  | some p, some ps => if SeqAt.shaped p = true ∧ SeqAt.shaped (.list ps) = true then some (ps.any fun z => PyData.eqv z p) else none
  | _, _ => none
def inStr (i j : Str) : Bool := !(Builtin.Str.occurrences j i 0 j.length 1).isEmpty
def inD (x y : D) : Option Bool := match y with
  | .lst ys => inDp x ys
  | .fz ys => inFl x ys
  | .tup ys => inFl x ys
  | .ktup ys => inFl x ys
  | .str j => match x with
    | .str i => some (inStr i j)
    | _ => none
  | .dk kvs => match x with
    | .str i => some (dget kvs (.inr i)).isSome
    | .int i => if (kvs.any fun kv => kv.1.isLeft) = true then some (dget kvs (.inl i)).isSome else none
    | _ => none
  | .dt kvs => match x with
    | .tup zs => match keysOf zs with
      | some k => some (dget kvs k).isSome
      | none => none
    | _ => none
  | _ => none
/-- a live dict may be asked for any key -/
def inW (x : D) (y : W) (rt : List O) : Option Bool := match y with
  | .d y => inD x y
  | .r n => match rt[n]? with
    | some (.dk kvs) => match keyOf x with
      | some k => some (dget kvs k).isSome
      | none => none
    | _ => inD x (lkD (.r n) rt)
def gIn (x y : W) (rt : List O) : Ou W := match inW (lkD x rt) y rt with
  | some b => .ok (.d (.bl b)) rt
  | none => .no
def gNin (x y : W) (rt : List O) : Ou W := match inW (lkD x rt) y rt with
  | some b => .ok (.d (.bl (!b))) rt
  | none => .no
def rInDk : V → V → Hp → (Bool → Prop) → Prop := fun x y H q => ∃ a o, y = .ref a ∧ DGet H a x o ∧ q o.isSome
theorem op_inDk (hu : X.A.units + 1 < cLine) : OpR X (compareOp .In) (fun x y H Q => rInDk x y H fun b => Q (.bl b) H) := by
  intro pins s σ H x y v u Q I rx ry h
  obtain ⟨a, o, rfl, g, q⟩ := h
  cases ry
  exact d_in hu I g rx fun s' I' => ⟨.bl _, H, I', rfl, q⟩
theorem op_ninDk (hu : X.A.units + 1 < cLine) : OpR X (compareOp .NotIn) (fun x y H Q => rInDk x y H fun b => Q (.bl (!b)) H) := by
  intro pins s σ H x y v u Q I rx ry h
  obtain ⟨a, o, rfl, g, q⟩ := h
  cases ry
  exact d_notIn hu I g rx fun s' I' => ⟨.bl _, H, I', rfl, q⟩
def rInWd (K : PySem.W.Frag) (w : World) : V → V → Hp → (Bool → Prop) → Prop := fun x y H q => ∃ (a : Addr) (kvs : List (Key × V)) (z : Str), x = .str z ∧ y = .ref a ∧ WDict K w a kvs ∧ q (valV kvs (Sum.inr z)).isSome
theorem relO_some {o : Option V} {o' : Option Value} (r : RelO o o') : o.isSome = o'.isSome := by
  cases o <;> cases o' <;> first | rfl | exact r.elim
theorem op_inWd : OpR X (compareOp .In) (fun x y H Q => rInWd X.K X.w x y H fun b => Q (.bl b) H) := by
  intro pins s σ H x y v u Q I rx ry h
  obtain ⟨a, kvs, z, rfl, rfl, ⟨es, n, h1, h2, h3, h4, h5⟩, q⟩ := h
  obtain ⟨o, g1, g2⟩ := h5 z
  exact op_in_kd (d := a) (es := es) (n := n) ⟨h1, h2, h3⟩ pins s σ H _ _ v u Q I rx ry ⟨z, o, rfl, rfl, g1, by rw [← relO_some g2]; exact q⟩
theorem op_ninWd : OpR X (compareOp .NotIn) (fun x y H Q => rInWd X.K X.w x y H fun b => Q (.bl (!b)) H) := by
  intro pins s σ H x y v u Q I rx ry h
  obtain ⟨a, kvs, z, rfl, rfl, ⟨es, n, h1, h2, h3, h4, h5⟩, q⟩ := h
  obtain ⟨o, g1, g2⟩ := h5 z
  exact op_notIn_kd (d := a) (es := es) (n := n) ⟨h1, h2, h3⟩ pins s σ H _ _ v u Q I rx ry ⟨z, o, rfl, rfl, g1, by rw [← relO_some g2]; exact q⟩
/-- all that may stand behind in -/
def InR (K : PySem.W.Frag) (w : World) (x y : V) (H : Hp) (q : Bool → Prop) : Prop :=
  (∃ d ds, Dp K H x d ∧ Dp K H y (.list ds) ∧ SeqAt.shaped d = true ∧ SeqAt.shaped (.list ds) = true ∧ q (ds.any fun z => PyData.eqv z d)) ∨
  (∃ p xs, y = .ref p ∧ (SqL K H p xs ∨ SqT K H p xs) ∧ flatV x = true ∧ xs.all flatV = true ∧ q (inV x xs)) ∨
  (∃ i j, x = .str i ∧ y = .str j ∧ q (inStr i j)) ∨ rInDk x y H q ∨ rInWd K w x y H q
theorem inR_or (hu : X.A.units + 65 < cLine) : OpR X (compareOp .In) (fun x y H Q => InR X.K X.w x y H fun b => Q (.bl b) H) := by
  intro pins s σ H x y v u Q I rx ry h
  rcases h with h | ⟨p, xs, h1, h2, h3, h4, h5⟩ | h | h | h
  · exact op_inD hu pins s σ H x y v u Q I rx ry h
  · exact op_in_seq pins s σ H x y v u Q I rx ry ⟨p, xs, h1, h2, h3, h4, h5⟩
  · exact op_in_str pins s σ H x y v u Q I rx ry h
  · exact op_inDk (by omega) pins s σ H x y v u Q I rx ry h
  · exact op_inWd pins s σ H x y v u Q I rx ry h
theorem ninR_or (hu : X.A.units + 65 < cLine) : OpR X (compareOp .NotIn) (fun x y H Q => InR X.K X.w x y H fun b => Q (.bl (!b)) H) := by
  intro pins s σ H x y v u Q I rx ry h
  rcases h with h | ⟨p, xs, h1, h2, h3, h4, h5⟩ | h | h | h
  · exact op_notInD hu pins s σ H x y v u Q I rx ry h
  · exact op_notIn_seq pins s σ H x y v u Q I rx ry ⟨p, xs, h1, h2, h3, h4, h5⟩
  · exact op_notin_str pins s σ H x y v u Q I rx ry h
  · exact op_ninDk (by omega) pins s σ H x y v u Q I rx ry h
  · exact op_ninWd pins s σ H x y v u Q I rx ry h
theorem inFl_ok {K : PySem.W.Frag} {w : World} {H : Hp} {v : V} {x : D} {vs : List V} {ys : List D} {b : Bool} (d1 : Den K w H v x) (d2 : Dens K w H vs ys) (e : inFl x ys = some b) : flatV v = true ∧ vs.all flatV = true ∧ inV v vs = b := by
  unfold inFl at e
  split at e
  · rename_i h1 h2
    cases e
    obtain ⟨rfl, g1⟩ := fl_ok d1 h1
    obtain ⟨rfl, g2⟩ := fls_ok d2 h2
    exact ⟨g1, g2, rfl⟩
  · cases e
theorem valV_some {κ : Type} [DecidableEq κ] {K : PySem.W.Frag} {w : World} {H : Hp} {vs : List (κ × V)} {xs : List (κ × D)} (h : DenA K w H vs xs) (k : κ) : (valV vs k).isSome = (dget xs k).isSome := by
  rcases h.val k with ⟨z1, z2⟩ | ⟨z1, z2, g1, g2, g3⟩
  · rw [z1, z2]; rfl
  · rw [g1, g2]; rfl
theorem left_key {K : PySem.W.Frag} {w : World} {H : Hp} : ∀ {vs : List (Key × V)} {xs : List (Key × D)}, DenA K w H vs xs → (∀ k ∈ vs, ∃ z, k.1 = Sum.inr z) → (xs.any fun kv => kv.1.isLeft) = false
  | _, _, .nil, _ => rfl
  | _, _, .cons (k := k) d t, h => by
    rw [List.any_cons, left_key t fun k hk => h k (List.mem_cons_of_mem _ hk)]
    obtain ⟨z, e⟩ := h _ (List.mem_cons_self ..)
    simp only at e
    subst e
    rfl
theorem inD_ok {K : PySem.W.Frag} {w : World} {H : Hp} {v u : V} {x y : D} {b : Bool} {q : Bool → Prop} (d1 : Den K w H v x) (d2 : Den K w H u y) (e : inD x y = some b) (p : q b) : InR K w v u H q := by
  unfold inD at e
  split at e
  · rename_i ys
    cases d2 with
    | lst h r =>
      unfold inDp at e
      split at e
      · rename_i h1 h2
        split at e
        · rename_i hs
          cases e
          exact .inl ⟨_, _, dp_of d1 h1, .lst (SqL.of h) (dps_of r h2), hs.1, hs.2, p⟩
        · cases e
      · cases e
  · cases d2 with
    | fz h r =>
      obtain ⟨g1, g2, rfl⟩ := inFl_ok d1 r e
      exact .inr (.inl ⟨_, _, rfl, .inl h, g1, g2, p⟩)
  · cases d2 with
    | tup h r =>
      obtain ⟨g1, g2, rfl⟩ := inFl_ok d1 r e
      exact .inr (.inl ⟨_, _, rfl, .inr (SqT.of h), g1, g2, p⟩)
  · cases d2 with
    | ktup h r =>
      obtain ⟨g1, g2, rfl⟩ := inFl_ok d1 r e
      exact .inr (.inl ⟨_, _, rfl, .inr h, g1, g2, p⟩)
  · split at e
    · cases d1; cases d2; cases e
      exact .inr (.inr (.inl ⟨_, _, rfl, rfl, p⟩))
    · cases e
  · rename_i kvs
    split at e
    · rename_i i
      cases e
      cases d1
      cases d2 with
      | dk h r =>
        refine .inr (.inr (.inr (.inl ⟨_, _, rfl, .inl ⟨_, .inr i, h, rfl, rfl⟩, ?_⟩)))
        rw [valV_some r]; exact p
      | wd h r =>
        refine .inr (.inr (.inr (.inr ⟨_, _, i, rfl, rfl, h, ?_⟩)))
        rw [valV_some r]; exact p
    · rename_i i
      cases d1
      split at e
      · rename_i hl
        cases e
        cases d2 with
        | dk h r =>
          refine .inr (.inr (.inr (.inl ⟨_, _, rfl, .inl ⟨_, .inl i, h, rfl, rfl⟩, ?_⟩)))
          rw [valV_some r]; exact p
        | wd h r =>
          obtain ⟨_, _, _, _, _, h4, _⟩ := h
          rw [left_key r h4] at hl
          cases hl
      · cases e
    · cases e
  · rename_i kvs
    split at e
    · rename_i zs
      split at e
      · rename_i k ek
        cases e
        cases d1 with
        | tup g1 g2 =>
          cases d2 with
          | dt h r =>
            have := keys_ok g2 ek
            subst this
            refine .inr (.inr (.inr (.inl ⟨_, _, rfl, .inr ⟨_, k, _, h, rfl, g1, rfl⟩, ?_⟩)))
            rw [valV_some r]; exact p
      · cases e
    · cases e
  · cases e
theorem inW_ok {K : PySem.W.Frag} {w : World} {B : Bnd} {Hs H : Hp} {ρ : List Addr} {rt : List O} {v u : V} {x : D} {y : W} {b : Bool} {q : Bool → Prop} (R : Rel K w B Hs ρ rt H) (d1 : Den K w H v x) (d2 : WD K w Hs ρ u y) (e : inW x y rt = some b) (p : q b) : InR K w v u H q := by
  unfold inW at e
  split at e
  · exact inD_ok d1 (Den.mono R.same d2) e p
  · rename_i n
    split at e
    · rename_i kvs hk
      obtain ⟨a, vs, rfl, h1, h2, _⟩ := live_dk R d2 hk
      split at e
      · rename_i k ek
        cases e
        have := key_ok d1 ek
        subst this
        refine .inr (.inr (.inr (.inl ⟨_, _, rfl, DGet.k h1, ?_⟩)))
        rw [valV_some h2]; exact p
      · cases e
    · exact inD_ok d1 (lk_ok R d2) e p
theorem opv_in (hu : X.A.units + 65 < cLine) : OpV X (compareOp .In) gIn := by
  refine ⟨_, inR_or hu, fun Wx B Hs ρ rt σ H Q x y v u R d1 d2 p => ?_⟩
  unfold gIn at p
  split at p
  · rename_i b e
    exact inW_ok R (lk_ok R d1) d2 e (p _ Hs ρ H Ext.refl R (.bl _))
  · exact p.elim
theorem opv_nin (hu : X.A.units + 65 < cLine) : OpV X (compareOp .NotIn) gNin := by
  refine ⟨_, ninR_or hu, fun Wx B Hs ρ rt σ H Q x y v u R d1 d2 p => ?_⟩
  unfold gNin at p
  split at p
  · rename_i b e
    exact inW_ok (q := fun b => Q (.bl (!b)) H) R (lk_ok R d1) d2 e (p _ Hs ρ H Ext.refl R (.bl _))
  · exact p.elim
end
end VE

set_option maxRecDepth 100000
set_option maxHeartbeats 1000000
namespace VE
open PySem PySem.Spec L2
theorem boot_len : bootBuiltins "len" = some (.builtin "len") := by decide +kernel
theorem boot_abs : bootBuiltins "abs" = some (.builtin "abs") := by decide +kernel
theorem boot_sum : bootBuiltins "sum" = some (.builtin "sum") := by decide +kernel
theorem boot_max : bootBuiltins "max" = some (.builtin "max") := by decide +kernel
theorem boot_min : bootBuiltins "min" = some (.builtin "min") := by decide +kernel
theorem boot_all : bootBuiltins "all" = some (.builtin "all") := by decide +kernel
theorem boot_any : bootBuiltins "any" = some (.builtin "any") := by decide +kernel
theorem boot_ord : bootBuiltins "ord" = some (.builtin "ord") := by decide +kernel
theorem boot_isinstance : bootBuiltins "isinstance" = some (.builtin "isinstance") := by decide +kernel
theorem boot_sorted : bootBuiltins "sorted" = some (.builtin "sorted") := by decide +kernel
theorem boot_int : bootBuiltins "int" = some (.type "int") := by decide +kernel
theorem boot_list : bootBuiltins "list" = some (.type "list") := by decide +kernel
theorem boot_tuple : bootBuiltins "tuple" = some (.type "tuple") := by decide +kernel
theorem boot_str : bootBuiltins "str" = some (.type "str") := by decide +kernel
theorem boot_set : bootBuiltins "set" = some (.type "set") := by decide +kernel
theorem boot_dict : bootBuiltins "dict" = some (.type "dict") := by decide +kernel
theorem boot_bool : bootBuiltins "bool" = some (.type "bool") := by decide +kernel
theorem boot_float : bootBuiltins "float" = some (.type "float") := by decide +kernel
theorem boot_range : bootBuiltins "range" = some (.type "range") := by decide +kernel
theorem boot_enumerate : bootBuiltins "enumerate" = some (.type "enumerate") := by decide +kernel
theorem boot_zip : bootBuiltins "zip" = some (.type "zip") := by decide +kernel
theorem room65 {k : Nat} {A : Around} (hr : Room k A) : A.units + 65 < cLine := by have := hr.un; omega
theorem room1 {k : Nat} {A : Around} (hr : Room k A) : A.units + 1 < cLine := by have := hr.un; omega
theorem dens_ints {K : PySem.W.Frag} {w : World} {H : Hp} : ∀ ns : List Int, Dens K w H (ns.map V.int) (ns.map D.int)
  | [] => .nil
  | n :: ns => .cons (.int n) (dens_ints ns)
/-- the end: what the mirror of law answers at every script -/
theorem walk_v {l : PySem.W.OpenLaw} {k : Nat} {q : Program} {loose : List Str} {XP : (Str → Option Value) → Heap → Prop} {YP : World → Heap → Prop} {d : DefRec} {K : Params → PySem.W.Frag} {m : FM}
    (hn : l.most = some 63) (hdf : d.params.defaults = []) (hr : Room k callerA) (hY : ∀ (w : World) (h : Heap), YP w h → (K w.params).In h)
    (F : ∀ (w : World) (mg : Str → Option Value) (fa : Addr) (h : Heap), (K w.params).In h → h.Ns mainGlobals mg → mg d.name = some (.ref fa) →
      ∃ fd : FuncData, (∀ (s : Shared) (u : Value), BindsTo s fd ⟨[u], []⟩ [("script", u)]) ∧ ∀ base : Heap, (K w.params).In base → base.Ns mainGlobals mg → FnOk l.prog w (K w.params) mg base (L2.CX l.prog w) k fa fd ["script"] (spV (K w.params) w m 1))
    (ht : ∀ ns : List Int, ns.length ≤ 63 → ∃ rt, m [.d (.fz (ns.map D.int))] [] = .ok (.d (.bl true)) rt) :
    PySem.W.WalkO q loose XP YP l.row.toRowW d [] (fun f vs => PySem.call f vs) :=
  L2.walk_of (n := 63) (k := k) (x := "script") (CX := fun w => L2.CX l.prog w) (sp := fun w => spV (K w.params) w m 1) hn (by decide) hdf hr hY F
    (fun w H a ns hl _ hS => ⟨rfl, [], H, [], [], _, ⟨fun _ _ h => h, rfl, ⟨fun _ => [], fun i o e => by cases e⟩, fun _ _ h => .inr h, fun _ h => h, fun _ h => .inl h⟩, .cons (x := .d (.fz (ns.map D.int))) (.fz hS (dens_ints ns)) .nil, by
      obtain ⟨rt, e⟩ := ht ns hl
      rw [e]
      intro v Hs ρ H' _ _ d1
      exact bl_of d1⟩)
    fun w H s e s' z => by
      obtain ⟨_, _, _, _, _, _, _, _, _, _, _, _, h⟩ := z
      exact h
end VE

set_option maxRecDepth 100000
set_option maxHeartbeats 1000000
namespace VE
open PySem PySem.Spec L2

/-! ### what a mirror answers, by its weakest precondition -/
def vE {α : Type} (o : Ou α) (Q : α → List O → Prop) : Prop := match o with
  | .ok x rt => Q x rt
  | _ => False
def vS (o : Os) (N : Sl → List O → Prop) (R : W → List O → Prop) (B C : Sl → List O → Prop) : Prop := match o with
  | .nx sl rt => N sl rt
  | .re x rt => R x rt
  | .bk sl rt => B sl rt
  | .ct sl rt => C sl rt
  | _ => False
section
variable {α β : Type} {Q : α → List O → Prop} {N : Sl → List O → Prop} {R : W → List O → Prop} {B C : Sl → List O → Prop} {sl : Sl} {rt : List O}
theorem vE.imp {o : Ou α} {P : α → List O → Prop} (h : vE o P) (i : ∀ x rt, P x rt → Q x rt) : vE o Q := by
  cases o with
  | ok x rt => exact i x rt h
  | ex c fs rt => exact h
  | no => exact h
theorem vE.ex {o : Ou α} (h : vE o Q) : ∃ x rt, o = .ok x rt ∧ Q x rt := by
  cases o with
  | ok x rt => exact ⟨x, rt, rfl, h⟩
  | ex c fs rt => exact h.elim
  | no => exact h.elim
theorem vS.imp {o : Os} {N' : Sl → List O → Prop} {R' : W → List O → Prop} {B' C' : Sl → List O → Prop} (h : vS o N' R' B' C') (i : ∀ s r, N' s r → N s r) (j : ∀ s r, R' s r → R s r) (k : ∀ s r, B' s r → B s r) (l : ∀ s r, C' s r → C s r) : vS o N R B C := by
  cases o with
  | nx s r => exact i s r h
  | re s r => exact j s r h
  | bk s r => exact k s r h
  | ct s r => exact l s r h
  | ex c fs s r => exact h
  | no => exact h
theorem vE_ok {x : α} : vE (.ok x rt) Q = Q x rt := rfl
theorem vE_no : vE (.no : Ou α) Q = False := rfl
theorem vE_bind {o : Ou β} {k : β → List O → Ou α} : vE (o.bind k) Q = vE o fun x rt => vE (k x rt) Q := by cases o <;> rfl
theorem vE_noex {o : Ou α} : vE o.noex Q = vE o Q := by cases o <;> rfl
theorem vE_ite {c : Prop} [Decidable c] {a b : Ou α} : vE (if c then a else b) Q = if c then vE a Q else vE b Q := by split <;> rfl
theorem vS_seq {o : Ou β} {k : β → List O → Os} : vS (o.seq sl k) N R B C = vE o fun x rt => vS (k x rt) N R B C := by cases o <;> rfl
theorem vS_nx : vS (.nx sl rt) N R B C = N sl rt := rfl
theorem vS_re {x : W} : vS (.re x rt) N R B C = R x rt := rfl
theorem vS_bk : vS (.bk sl rt) N R B C = B sl rt := rfl
theorem vS_ct : vS (.ct sl rt) N R B C = C sl rt := rfl
theorem vS_no : vS .no N R B C = False := rfl
theorem vS_then {o : Os} {k : Sx} : vS (o.andThen k) N R B C = vS o (fun sl rt => vS (k sl rt) N R B C) R B C := by cases o <;> rfl
theorem vS_ite {c : Prop} [Decidable c] {a b : Os} : vS (if c then a else b) N R B C = if c then vS a N R B C else vS b N R B C := by split <;> rfl
end

def obl (P : Bool → Prop) : W → Prop
  | .d (.bl b) => P b
  | _ => False
def oint (P : Int → Prop) : W → Prop
  | .d (.int b) => P b
  | _ => False
theorem obl_bl {P : Bool → Prop} {b : Bool} : obl P (.d (.bl b)) = P b := rfl
theorem oint_int {P : Int → Prop} {b : Int} : oint P (.d (.int b)) = P b := rfl
/-! ### the combinators -/
section
variable {Q : W → List O → Prop} {T : Bool → List O → Prop} {A : List W → List O → Prop} {G : Sl → List O → Prop} {N : Sl → List O → Prop} {R : W → List O → Prop} {B C : Sl → List O → Prop} {sl : Sl} {rt : List O} {m ma mb mc : Ex W} {ms : Ex (List W)} {s t : Sx} {mt nt : Ex Bool} {g : Gx} {i : Nat}
/-- what is still to be done -/
def vKont (t : Sx) (N : Sl → List O → Prop) (R : W → List O → Prop) (B C : Sl → List O → Prop) (sl : Sl) (rt : List O) : Prop := vS (t sl rt) N R B C
theorem vkont : vKont t N R B C sl rt = vS (t sl rt) N R B C := rfl
theorem v_seq : vS (sSeq s t sl rt) N R B C = vS (s sl rt) (vKont t N R B C) R B C := vS_then
/-- an assertion between two statements -/
theorem v_cut (M : Sl → List O → Prop) (h : vS (s sl rt) M R B C) (k : ∀ sl rt, M sl rt → vS (t sl rt) N R B C) : vS (sSeq s t sl rt) N R B C := by
  rw [v_seq]
  exact h.imp k (fun _ _ h => h) (fun _ _ h => h) fun _ _ h => h
theorem v_nil : vS (sNil sl rt) N R B C = N sl rt := rfl
theorem v_set : vS (sSet i m sl rt) N R B C = vE (m sl rt) fun x rt => N (sl.set i (some x)) rt := vS_seq
theorem v_drop : vS (sDrop m sl rt) N R B C = vE (m sl rt) fun _ rt => N sl rt := vS_seq
theorem v_ret : vS (sRet m sl rt) N R B C = vE (m sl rt) fun x rt => R x rt := vS_seq
theorem v_retN : vS (sRetN sl rt) N R B C = R (.d .non) rt := rfl
theorem v_brk : vS (sBrk sl rt) N R B C = B sl rt := rfl
theorem v_cont : vS (sCont sl rt) N R B C = C sl rt := rfl
theorem v_if : vS (sIf mt s t sl rt) N R B C = vE (mt sl rt) fun b rt => if b = true then vS (s sl rt) N R B C else vS (t sl rt) N R B C := by
  show vS ((mt sl rt).seq sl _) N R B C = _
  rw [vS_seq]
  congr 1
  funext b rt
  exact vS_ite
theorem v_asg : vS (sAsg m g sl rt) N R B C = vE (m sl rt) fun x rt => vE (g x sl rt) fun sl rt => N sl rt := by
  show vS ((m sl rt).seq sl _) N R B C = _
  rw [vS_seq]
  congr 1
  funext b rt
  exact vS_seq
theorem v_var {x : W} (h : sl[i]? = some (some x)) : vE (eVar i sl rt) Q = Q x rt := by unfold eVar; rw [h]; rfl
theorem v_c {x : D} : vE (eC x sl rt) Q = Q (.d x) rt := rfl
theorem v_op {f : W → W → List O → Ou W} : vE (eOp f ma mb sl rt) Q = vE (ma sl rt) fun x rt => vE (mb sl rt) fun y rt => vE (f x y rt) Q := by
  show vE ((ma sl rt).bind _) Q = _
  rw [vE_bind]
  congr 1
  funext x rt
  exact vE_bind
theorem v_eB : vE (eB m sl rt) T = vE (m sl rt) fun x rt => obl (fun b => T b rt) x := by
  show vE ((m sl rt).bind _) T = _
  rw [vE_bind]
  congr 1
  funext x rt
  cases x with
  | r n => rfl
  | d x => cases x <;> rfl
theorem v_notT : vE (eNotT mt sl rt) T = vE (mt sl rt) fun b rt => T (!b) rt := vE_bind
theorem v_andT : vE (eAndT mt nt sl rt) T = vE (mt sl rt) fun b rt => if b = true then vE (nt sl rt) T else T false rt := by
  show vE ((mt sl rt).bind _) T = _
  rw [vE_bind]
  congr 1
  funext x rt
  exact vE_ite
theorem v_orT : vE (eOrT mt nt sl rt) T = vE (mt sl rt) fun b rt => if b = true then T true rt else vE (nt sl rt) T := by
  show vE ((mt sl rt).bind _) T = _
  rw [vE_bind]
  congr 1
  funext x rt
  exact vE_ite
theorem v_eAnd : vE (eAnd ma mb sl rt) Q = vE (ma sl rt) fun x rt => obl (fun b => if b = true then vE (mb sl rt) Q else Q (.d (.bl false)) rt) x := by
  show vE ((ma sl rt).bind _) Q = _
  rw [vE_bind]
  congr 1
  funext x rt
  cases x with
  | r n => rfl
  | d x =>
    cases x <;> first | rfl | (rename_i b; cases b <;> rfl)
theorem v_eOr : vE (eOr ma mb sl rt) Q = vE (ma sl rt) fun x rt => obl (fun b => if b = true then Q (.d (.bl true)) rt else vE (mb sl rt) Q) x := by
  show vE ((ma sl rt).bind _) Q = _
  rw [vE_bind]
  congr 1
  funext x rt
  cases x with
  | r n => rfl
  | d x =>
    cases x <;> first | rfl | (rename_i b; cases b <;> rfl)
theorem v_eNot : vE (eNot m sl rt) Q = vE (m sl rt) fun x rt => obl (fun b => Q (.d (.bl (!b))) rt) x := by
  show vE ((m sl rt).bind _) Q = _
  rw [vE_bind]
  congr 1
  funext x rt
  cases x with
  | r n => rfl
  | d x => cases x <;> rfl
theorem v_eNeg : vE (eNeg m sl rt) Q = vE (m sl rt) fun x rt => oint (fun i => Q (.d (.int (-i))) rt) x := by
  show vE ((m sl rt).bind _) Q = _
  rw [vE_bind]
  congr 1
  funext x rt
  cases x with
  | r n => rfl
  | d x => cases x <;> rfl
theorem v_eIf : vE (eIf mt ma mb sl rt) Q = vE (mt sl rt) fun b rt => if b = true then vE (ma sl rt) Q else vE (mb sl rt) Q := by
  show vE ((mt sl rt).bind _) Q = _
  rw [vE_bind]
  congr 1
  funext x rt
  exact vE_ite
theorem v_chain {f f' : W → W → List O → Ou W} : vE (eChain f f' ma mb mc sl rt) Q = vE (ma sl rt) fun x rt => vE (mb sl rt) fun y rt => vE (f x y rt) fun z rt => obl (fun b => if b = true then vE (mc sl rt) fun u rt => vE (f' y u rt) Q else Q (.d (.bl false)) rt) z := by
  show vE ((ma sl rt).bind _) Q = _
  rw [vE_bind]
  congr 1
  funext x rt
  rw [vE_bind]
  congr 1
  funext y rt
  rw [vE_bind]
  congr 1
  funext z rt
  cases z with
  | r n => rfl
  | d x =>
    cases x <;> first | rfl | (rename_i b; cases b <;> first | rfl | exact vE_bind)
theorem v_aNil : vE (aNil sl rt) A = A [] rt := rfl
theorem v_aCons : vE (aCons m ms sl rt) A = vE (m sl rt) fun x rt => vE (ms sl rt) fun xs rt => A (x :: xs) rt := by
  show vE ((m sl rt).bind _) A = _
  rw [vE_bind]
  congr 1
  funext x rt
  exact vE_bind
theorem v_eVal : vE (eVal m sl rt) Q = vE (m sl rt) fun x rt => vE (vOf x rt) fun y rt => Q (.d y) rt := by
  show vE ((m sl rt).bind _) Q = _
  rw [vE_bind]
  congr 1
  funext x rt
  exact vE_bind
theorem v_eFn {f : List W → List O → Ou W} : vE (eFn f ms sl rt) Q = vE (ms sl rt) fun xs rt => vE (f xs rt) Q := vE_bind
theorem v_eMt {ty : W → List O → Bool} {f : W → List W → List O → Ou W} : vE (eMt ty f m ms sl rt) Q = vE (m sl rt) fun x rt => if ty x rt = true then vE (ms sl rt) fun xs rt => vE (f x xs rt) Q else False := by
  show vE ((m sl rt).bind _) Q = _
  rw [vE_bind]
  congr 1
  funext x rt
  rw [vE_ite]
  split
  · exact vE_bind
  · rfl
theorem v_eTup : vE (eTup ms sl rt) Q = vE (ms sl rt) fun ws rt => vE (valsOf ws rt) fun xs rt => vE (mkTup xs rt) Q := by
  show vE ((ms sl rt).bind _) Q = _
  rw [vE_bind]
  congr 1
  funext x rt
  exact vE_bind
theorem v_eLst : vE (eLst ms sl rt) Q = vE (ms sl rt) fun ws rt => vE (valsOf ws rt) fun xs rt => vE (mkLst xs rt) Q := by
  show vE ((ms sl rt).bind _) Q = _
  rw [vE_bind]
  congr 1
  funext x rt
  exact vE_bind
theorem v_oNone {P : Option Int → List O → Prop} : vE (oNone sl rt) P = P none rt := rfl
theorem v_oSome {P : Option Int → List O → Prop} : vE (oSome m sl rt) P = vE (m sl rt) fun x rt => oint (fun i => P (some i) rt) x := by
  show vE ((m sl rt).bind _) P = _
  rw [vE_bind]
  congr 1
  funext x rt
  cases x with
  | r n => rfl
  | d x => cases x <;> rfl
theorem v_eSl {l h : Ex (Option Int)} : vE (eSl m l h sl rt) Q = vE (m sl rt) fun x rt => vE (l sl rt) fun lo rt => vE (h sl rt) fun hi rt => vE (gSl x lo hi rt) Q := by
  show vE ((m sl rt).bind _) Q = _
  rw [vE_bind]
  congr 1
  funext x rt
  rw [vE_bind]
  congr 1
  funext x rt
  exact vE_bind
theorem v_isN : vE (eIsN m sl rt) Q = vE (m sl rt) fun x rt => Q (.d (.bl x.isN)) rt := vE_bind
theorem v_notN : vE (eNotN m sl rt) Q = vE (m sl rt) fun x rt => Q (.d (.bl (!x.isN))) rt := vE_bind
theorem v_gN {x : W} : vE (gN i x sl rt) G = G (sl.set i (some x)) rt := rfl
theorem v_gSb {x : W} : vE (gSb ma mb x sl rt) G = vE (ma sl rt) fun o rt => vE (mb sl rt) fun i rt => vE (vOf x rt) fun y rt => vE (setIx o i y rt) fun _ rt => G sl rt := by
  show vE ((ma sl rt).bind _) G = _
  rw [vE_bind]
  congr 1
  funext o rt
  rw [vE_bind]
  congr 1
  funext o rt
  rw [vE_bind]
  congr 1
  funext o rt
  exact vE_bind
theorem v_gT {n : Nat} {ms : List D → Ex Sl} {xs : List D} : vE (gT n ms (.d (.tup xs)) sl rt) G = if xs.length = n then vE (ms xs sl rt) G else False := by
  show vE (if xs.length = n then _ else _) G = _
  rw [vE_ite]; rfl
theorem v_gNil : vE (gNil' [] sl rt) G = G sl rt := rfl
theorem v_gCons {ms : List D → Ex Sl} {x : D} {xs : List D} : vE (gCons' g ms (x :: xs) sl rt) G = vE (g (.d x) sl rt) fun sl rt => vE (ms xs sl rt) G := by
  show vE ((g (.d x) sl rt).bind _) G = _
  rw [vE_bind]
  congr 1
  funext sl rt
  exact vE_noex
theorem v_call {f : FM} {np : Nat} : vE (eCall f np ms sl rt) Q = vE (ms sl rt) fun ws rt => if ws.length = np then vE (callF f ws rt) Q else False := by
  show vE ((ms sl rt).bind _) Q = _
  rw [vE_bind]
  congr 1
  funext x rt
  exact vE_ite
theorem v_call0 {f : FM} : vE (eCall0 f sl rt) Q = vE (callF f [] rt) Q := vE_noex
theorem v_callF {f : FM} {ws : List W} : vE (callF f ws rt) Q = if okRoots (roots ws) rt.length = true then vE (f (ws.map (renum (roots ws))) (pk (roots ws) rt (.d .non))) (fun x rs => Q (back (roots ws) rt.length x) (put (roots ws) rs rt ++ rs.drop (roots ws).length)) else False := by
  unfold callF
  rw [vE_ite]
  split
  · cases f (ws.map (renum (roots ws))) (pk (roots ws) rt (.d .non)) <;> rfl
  · rfl
theorem v_mkF {n : Nat} {b : Sx} {ws : List W} : vE (mkF n b ws rt) Q = vS (b (ws.map some ++ List.replicate (n - ws.length) none) rt) (fun _ rt' => Q (.d .non) (rt'.take rt.length)) (fun x rt' => vE (ret rt.length x rt') Q) (fun _ _ => False) (fun _ _ => False) := by
  unfold mkF
  cases b (ws.map some ++ List.replicate (n - ws.length) none) rt <;> rfl
theorem v_retD {k : Nat} {x : D} : vE (ret k (.d x) rt) Q = Q (.d x) (rt.take k) := rfl
theorem v_retR {k j : Nat} : vE (ret k (.r j) rt) Q = if j < k then Q (.r j) (rt.take k) else match rt[j]? with | some o => Q (.r k) (rt.take k ++ [o]) | none => False := by
  unfold ret
  rw [vE_ite]
  split
  · rfl
  · cases rt[j]? <;> rfl
theorem v_ipA {f : W → W → List O → Ou W} {x : W} (h : sl[i]? = some (some x)) : vS (ipA f i m sl rt) N R B C = vE (m sl rt) fun y rt => vE (f x y rt) fun z rt => N (sl.set i (some z)) rt := by
  unfold ipA
  rw [h]
  show vS ((m sl rt).seq sl _) N R B C = _
  rw [vS_seq]
  congr 1
  funext b rt
  exact vS_seq
theorem v_augS {f : W → W → List O → Ou W} : vS (sAugS f ma mb m sl rt) N R B C = vE (ma sl rt) fun o rt => vE (mb sl rt) fun i rt => vE (gIxA o i rt) fun x rt => vE (m sl rt) fun y rt => vE (f x y rt) fun z rt => vE (vOf z rt) fun z rt => vE (setIx o i z rt) fun _ rt => N sl rt := by
  unfold sAugS
  rw [vS_seq]; congr 1; funext o rt
  rw [vS_seq]; congr 1; funext o rt
  rw [vS_seq]; congr 1; funext o rt
  rw [vS_seq]; congr 1; funext o rt
  rw [vS_seq]; congr 1; funext o rt
  rw [vS_seq]; congr 1; funext o rt
  exact vS_seq
theorem v_itSeq {P : List D → List O → Prop} : vE (itSeq m sl rt) P = vE (m sl rt) fun x rt => vE (vOf x rt) fun y rt => match seqOf y with | some xs => P xs rt | none => False := by
  unfold itSeq
  rw [vE_bind]; congr 1; funext x rt
  rw [vE_bind]; congr 1; funext y rt
  cases seqOf y <;> rfl
end

/-! ### loops -/
section
variable {Q : W → List O → Prop} {N : Sl → List O → Prop} {R : W → List O → Prop} {B C : Sl → List O → Prop} {sl : Sl} {rt : List O} {it : Ex (List D)} {g : Gx} {body : Sx} {ks : List Nat}
theorem v_turn {L : Nat} {k : Sl → List O → Os} : vS (turnEnd ks L k sl rt) N R B C = vS (k (gcSl L (kill ks sl)) (gcRt L (kill ks sl) rt)) N R B C := rfl
theorem forL_ok {L : Nat} {xs : List D} (Inv : Nat → Sl → List O → Prop)
    (h : ∀ i x sl rt, xs[i]? = some x → Inv i sl rt → vE (g (.d x) sl rt) fun sl rt => vS (body sl rt) (fun sl rt => Inv (i + 1) (gcSl L (kill ks sl)) (gcRt L (kill ks sl) rt)) R (fun sl rt => N (gcSl L (kill ks sl)) (gcRt L (kill ks sl) rt)) (fun sl rt => Inv (i + 1) (gcSl L (kill ks sl)) (gcRt L (kill ks sl) rt)))
    (e : ∀ sl rt, Inv xs.length sl rt → N sl rt) : ∀ (n : Nat) (sl : Sl) (rt : List O), n ≤ xs.length → Inv (xs.length - n) sl rt → vS (forL ks L g body (xs.drop (xs.length - n)) sl rt) N R B C
  | 0, sl, rt, _, i0 => by
    rw [Nat.sub_zero, List.drop_length]
    exact e sl rt i0
  | n + 1, sl, rt, hn, i0 => by
    have hk : xs.length - (n + 1) < xs.length := by omega
    have hx : xs[xs.length - (n + 1)]? = some xs[xs.length - (n + 1)] := List.getElem?_eq_getElem hk
    rw [List.drop_eq_getElem_cons hk]
    have e1 : xs.length - (n + 1) + 1 = xs.length - n := by omega
    have h1 := h _ _ sl rt hx i0
    rw [e1] at h1 ⊢
    show vS ((g (.d _) sl rt).noex.seq sl _) N R B C
    rw [vS_seq, vE_noex]
    refine h1.imp fun sl2 rt2 h2 => ?_
    cases hb : body sl2 rt2 with
    | nx s r => rw [hb] at h2; exact forL_ok Inv h e n _ _ (by omega) h2
    | ct s r => rw [hb] at h2; exact forL_ok Inv h e n _ _ (by omega) h2
    | bk s r => rw [hb] at h2; exact h2
    | re x r => rw [hb] at h2; exact h2
    | ex c fs s r => rw [hb] at h2; exact h2
    | no => rw [hb] at h2; exact h2
theorem v_for (Inv : List D → Nat → Nat → Sl → List O → Prop)
    (h : vE (it sl rt) fun xs rt1 => Inv xs rt1.length 0 sl rt1 ∧
      (∀ i x sl rt, xs[i]? = some x → Inv xs rt1.length i sl rt → vE (g (.d x) sl rt) fun sl rt => vS (body sl rt) (fun sl rt => Inv xs rt1.length (i + 1) (gcSl rt1.length (kill ks sl)) (gcRt rt1.length (kill ks sl) rt)) R
        (fun sl rt => N (gcSl rt1.length (kill ks sl)) (gcRt rt1.length (kill ks sl) rt)) (fun sl rt => Inv xs rt1.length (i + 1) (gcSl rt1.length (kill ks sl)) (gcRt rt1.length (kill ks sl) rt))) ∧
      (∀ sl rt, Inv xs rt1.length xs.length sl rt → N sl rt)) : vS (sFor ks it g body sl rt) N R B C := by
  show vS ((it sl rt).seq sl _) N R B C
  rw [vS_seq]
  refine h.imp fun xs rt1 ⟨h0, h1, h2⟩ => ?_
  have h3 := forL_ok (B := B) (C := C) (xs := xs) (Inv xs rt1.length) h1 h2 xs.length sl rt1 (Nat.le_refl _) (by rw [Nat.sub_self]; exact h0)
  rw [Nat.sub_self, List.drop_zero] at h3
  exact h3
theorem vS_while_aux {c : Ex Bool} {L : Nat} (Inv : Nat → Sl → List O → Prop)
    (h : ∀ n sl rt, Inv n sl rt → vE (c sl rt) fun b rt => if b = true then vS (body sl rt) (fun sl rt => ∃ m, m < n ∧ Inv m (gcSl L (kill ks sl)) (gcRt L (kill ks sl) rt)) R (fun sl rt => N (gcSl L (kill ks sl)) (gcRt L (kill ks sl) rt)) (fun sl rt => ∃ m, m < n ∧ Inv m (gcSl L (kill ks sl)) (gcRt L (kill ks sl) rt)) else N sl rt) :
    ∀ (f n : Nat) (sl : Sl) (rt : List O), n < f → Inv n sl rt → vS (whileN ks L c body f sl rt) N R B C
  | 0, _, _, _, hf, _ => absurd hf (Nat.not_lt_zero _)
  | f + 1, n, sl, rt, hf, i0 => by
    show vS ((c sl rt).seq sl _) N R B C
    rw [vS_seq]
    refine (h n sl rt i0).imp fun b rt1 h1 => ?_
    cases b with
    | false => exact h1
    | true =>
      rw [if_pos rfl] at h1 ⊢
      cases hb : body sl rt1 with
      | nx s r =>
        rw [hb] at h1
        obtain ⟨m, hm, h1⟩ := h1
        exact vS_while_aux Inv h f m _ _ (by omega) h1
      | ct s r =>
        rw [hb] at h1
        obtain ⟨m, hm, h1⟩ := h1
        exact vS_while_aux Inv h f m _ _ (by omega) h1
      | bk s r => rw [hb] at h1; exact h1
      | re x r => rw [hb] at h1; exact h1
      | ex c fs s r => rw [hb] at h1; exact h1
      | no => rw [hb] at h1; exact h1
/-- n: at most so many turns are left -/
theorem v_while {c : Ex Bool} (Inv : Nat → Sl → List O → Prop) (n : Nat) (h0 : Inv n sl rt)
    (h : ∀ n sl' rt', Inv n sl' rt' → vE (c sl' rt') fun b rt' => if b = true then vS (body sl' rt') (fun sl' rt' => ∃ m, m < n ∧ Inv m (gcSl rt.length (kill ks sl')) (gcRt rt.length (kill ks sl') rt')) R (fun sl' rt' => N (gcSl rt.length (kill ks sl')) (gcRt rt.length (kill ks sl') rt'))
      (fun sl' rt' => ∃ m, m < n ∧ Inv m (gcSl rt.length (kill ks sl')) (gcRt rt.length (kill ks sl') rt')) else N sl' rt') : vS (sWhile ks c body sl rt) N R B C := by
  have h1 := vS_while_aux (B := B) (C := C) Inv h (n + 1) n sl rt (Nat.lt_succ_self _) h0
  show vS (whileX ks rt.length c body sl rt) N R B C
  have h2 : whileN ks rt.length c body (n + 1) sl rt ≠ .no := fun e => by rw [e] at h1; exact h1
  rw [whileX_of rfl h2]
  exact h1
theorem compL_ok {vs : List Nat} {d : Nat} {tt : Ex Bool} {el : Ex W} {xs : List D} {P : Unit → List O → Prop} (Inv : Nat → List O → List D → Prop)
    (h : ∀ i x r acc, xs[i]? = some x → Inv i r acc → r.length = d → vE (g (.d x) (kill vs sl) (r ++ [.lst acc])) fun sl1 rt => vE (tt sl1 rt) fun b rt => if b = true then vE (el sl1 rt) fun y rt => vE (vOf y rt) fun z rt =>
        ∃ r', rt.take (d + 1) = r' ++ [.lst acc] ∧ r'.length = d ∧ acc.length < 16000000 ∧ Inv (i + 1) r' (acc ++ [z])
      else ∃ r', rt.take (d + 1) = r' ++ [.lst acc] ∧ r'.length = d ∧ Inv (i + 1) r' acc)
    (e : ∀ r acc, Inv xs.length r acc → r.length = d → P () (r ++ [.lst acc])) : ∀ (n : Nat) (r : List O) (acc : List D), n ≤ xs.length → Inv (xs.length - n) r acc → r.length = d → vE (compL vs d g tt el sl (xs.drop (xs.length - n)) (r ++ [.lst acc])) P
  | 0, r, acc, _, i0, hr => by
    rw [Nat.sub_zero, List.drop_length]
    exact e r acc i0 hr
  | n + 1, r, acc, hn, i0, hr => by
    have hk : xs.length - (n + 1) < xs.length := by omega
    have hx : xs[xs.length - (n + 1)]? = some xs[xs.length - (n + 1)] := List.getElem?_eq_getElem hk
    rw [List.drop_eq_getElem_cons hk]
    have e1 : xs.length - (n + 1) + 1 = xs.length - n := by omega
    have h1 := h _ _ r acc hx i0 hr
    rw [e1] at h1 ⊢
    show vE ((g (.d _) (kill vs sl) (r ++ [.lst acc])).noex.bind _) P
    rw [vE_bind, vE_noex]
    refine h1.imp fun sl2 rt2 h2 => ?_
    rw [vE_bind, vE_noex]
    refine h2.imp fun b rt3 h3 => ?_
    cases b with
    | false =>
      obtain ⟨r', g1, g2, g3⟩ := h3
      rw [if_neg (by decide), g1]
      exact compL_ok Inv h e n r' acc (by omega) g3 g2
    | true =>
      rw [if_pos rfl] at h3 ⊢
      rw [vE_bind, vE_noex]
      refine h3.imp fun y rt4 h4 => ?_
      rw [vE_bind]
      refine h4.imp fun z rt5 ⟨r', g1, g2, g3, g4⟩ => ?_
      have g5 : rt5[d]? = some (.lst acc) := by
        have : (rt5.take (d + 1))[d]? = some (.lst acc) := by rw [g1, List.getElem?_append_right (by omega), g2, Nat.sub_self]; rfl
        rwa [List.getElem?_take, if_pos (by omega)] at this
      simp only [g5, g3, if_true]
      have hlen : d < rt5.length := (List.getElem?_eq_some_iff.mp g5).1
      have g6 : (rt5.set d (.lst (acc ++ [z]))).take (d + 1) = r' ++ [.lst (acc ++ [z])] := by
        have e2 : rt5.take d = r' := by
          have := congrArg (List.take d) g1
          rw [List.take_take, Nat.min_eq_left (by omega), List.take_left' g2] at this
          exact this
        rw [List.take_succ, List.getElem?_set_self hlen, List.take_set_of_le (Nat.le_refl _), e2]
        rfl
      rw [g6]
      exact compL_ok Inv h e n r' (acc ++ [z]) (by omega) g4 g2
theorem v_comp {vs : List Nat} {tt : Ex Bool} {el : Ex W} (Inv : List D → Nat → List O → List D → Prop)
    (h : vE (it sl rt) fun xs rt1 => Inv xs 0 rt1 [] ∧
      (∀ i x r acc, xs[i]? = some x → Inv xs i r acc → r.length = rt1.length → vE (g (.d x) (kill vs sl) (r ++ [.lst acc])) fun sl1 rt => vE (tt sl1 rt) fun b rt => if b = true then vE (el sl1 rt) fun y rt => vE (vOf y rt) fun z rt =>
          ∃ r', rt.take (rt1.length + 1) = r' ++ [.lst acc] ∧ r'.length = rt1.length ∧ acc.length < 16000000 ∧ Inv xs (i + 1) r' (acc ++ [z])
        else ∃ r', rt.take (rt1.length + 1) = r' ++ [.lst acc] ∧ r'.length = rt1.length ∧ Inv xs (i + 1) r' acc) ∧
      ∀ r acc, Inv xs xs.length r acc → r.length = rt1.length → Q (.r rt1.length) (r ++ [.lst acc])) : vE (eComp vs it g tt el sl rt) Q := by
  show vE ((it sl rt).bind _) Q
  rw [vE_bind]
  refine h.imp fun xs rt1 ⟨h0, h1, h2⟩ => ?_
  rw [vE_bind]
  have h3 := compL_ok (sl := sl) (P := fun _ rt' => Q (.r rt1.length) rt') (Inv xs) h1 (fun r acc i e => h2 r acc i e) xs.length rt1 [] (Nat.le_refl _) (by rw [Nat.sub_self]; exact h0) rfl
  rw [Nat.sub_self, List.drop_zero] at h3
  exact h3
end


/-! ### the same, closed: nothing that looks at a goal runs the mirror -/
structure wE {α : Type} (o : Ou α) (Q : α → List O → Prop) : Prop where
  h : vE o Q
structure wS (o : Os) (N : Sl → List O → Prop) (R : W → List O → Prop) (B C : Sl → List O → Prop) : Prop where
  h : vS o N R B C
theorem wE_fun {α : Type} {o : Ou α} {Q : α → List O → Prop} : wE o Q = vE o Q := propext ⟨fun h => h.h, fun h => ⟨h⟩⟩
theorem wS_fun {o : Os} {N : Sl → List O → Prop} {R : W → List O → Prop} {B C : Sl → List O → Prop} : wS o N R B C = vS o N R B C := propext ⟨fun h => h.h, fun h => ⟨h⟩⟩
/-! ### what a mirror answers, by its weakest precondition -/
section
variable {α β : Type} {Q : α → List O → Prop} {N : Sl → List O → Prop} {R : W → List O → Prop} {B C : Sl → List O → Prop} {sl : Sl} {rt : List O}
theorem wE.imp {o : Ou α} {P : α → List O → Prop} (h : wE o P) (i : ∀ x rt, P x rt → Q x rt) : wE o Q := ⟨h.h.imp i⟩
theorem wE.ex {o : Ou α} (h : wE o Q) : ∃ x rt, o = .ok x rt ∧ Q x rt := h.h.ex
theorem wS.imp {o : Os} {N' : Sl → List O → Prop} {R' : W → List O → Prop} {B' C' : Sl → List O → Prop} (h : wS o N' R' B' C') (i : ∀ s r, N' s r → N s r) (j : ∀ s r, R' s r → R s r) (k : ∀ s r, B' s r → B s r) (l : ∀ s r, C' s r → C s r) : wS o N R B C := ⟨h.h.imp i j k l⟩
theorem wE_ok {x : α} : wE (.ok x rt) Q = Q x rt := by
  simp only [wE_fun, wS_fun]
  exact vE_ok
theorem wE_no : wE (.no : Ou α) Q = False := by
  simp only [wE_fun, wS_fun]
  exact vE_no
theorem wE_bind {o : Ou β} {k : β → List O → Ou α} : wE (o.bind k) Q = wE o fun x rt => wE (k x rt) Q := by
  simp only [wE_fun, wS_fun]
  exact vE_bind
theorem wE_noex {o : Ou α} : wE o.noex Q = wE o Q := by
  simp only [wE_fun, wS_fun]
  exact vE_noex
theorem wE_ite {c : Prop} [Decidable c] {a b : Ou α} : wE (if c then a else b) Q = if c then wE a Q else wE b Q := by
  simp only [wE_fun, wS_fun]
  exact vE_ite
theorem wS_seq {o : Ou β} {k : β → List O → Os} : wS (o.seq sl k) N R B C = wE o fun x rt => wS (k x rt) N R B C := by
  simp only [wE_fun, wS_fun]
  exact vS_seq
theorem wS_nx : wS (.nx sl rt) N R B C = N sl rt := by
  simp only [wE_fun, wS_fun]
  exact vS_nx
theorem wS_re {x : W} : wS (.re x rt) N R B C = R x rt := by
  simp only [wE_fun, wS_fun]
  exact vS_re
theorem wS_bk : wS (.bk sl rt) N R B C = B sl rt := by
  simp only [wE_fun, wS_fun]
  exact vS_bk
theorem wS_ct : wS (.ct sl rt) N R B C = C sl rt := by
  simp only [wE_fun, wS_fun]
  exact vS_ct
theorem wS_no : wS .no N R B C = False := by
  simp only [wE_fun, wS_fun]
  exact vS_no
theorem wS_then {o : Os} {k : Sx} : wS (o.andThen k) N R B C = wS o (fun sl rt => wS (k sl rt) N R B C) R B C := by
  simp only [wE_fun, wS_fun]
  exact vS_then
theorem wS_ite {c : Prop} [Decidable c] {a b : Os} : wS (if c then a else b) N R B C = if c then wS a N R B C else wS b N R B C := by
  simp only [wE_fun, wS_fun]
  exact vS_ite
end
/-! ### the combinators -/
section
variable {Q : W → List O → Prop} {T : Bool → List O → Prop} {A : List W → List O → Prop} {G : Sl → List O → Prop} {N : Sl → List O → Prop} {R : W → List O → Prop} {B C : Sl → List O → Prop} {sl : Sl} {rt : List O} {m ma mb mc : Ex W} {ms : Ex (List W)} {s t : Sx} {mt nt : Ex Bool} {g : Gx} {i : Nat}
/-- what is still to be done -/
def Kont (t : Sx) (N : Sl → List O → Prop) (R : W → List O → Prop) (B C : Sl → List O → Prop) (sl : Sl) (rt : List O) : Prop := wS (t sl rt) N R B C
theorem kont : Kont t N R B C sl rt = wS (t sl rt) N R B C := rfl
theorem w_seq : wS (sSeq s t sl rt) N R B C = wS (s sl rt) (Kont t N R B C) R B C := by
  unfold Kont
  simp only [wS_fun]
  exact vS_then
/-- an assertion between two statements -/
theorem w_cut (M : Sl → List O → Prop) (h : wS (s sl rt) M R B C) (k : ∀ sl rt, M sl rt → wS (t sl rt) N R B C) : wS (sSeq s t sl rt) N R B C := by
  rw [w_seq]
  exact h.imp k (fun _ _ h => h) (fun _ _ h => h) fun _ _ h => h
theorem w_nil : wS (sNil sl rt) N R B C = N sl rt := by
  simp only [wE_fun, wS_fun]
  exact v_nil
theorem w_set : wS (sSet i m sl rt) N R B C = wE (m sl rt) fun x rt => N (sl.set i (some x)) rt := by
  simp only [wE_fun, wS_fun]
  exact v_set
theorem w_drop : wS (sDrop m sl rt) N R B C = wE (m sl rt) fun _ rt => N sl rt := by
  simp only [wE_fun, wS_fun]
  exact v_drop
theorem w_ret : wS (sRet m sl rt) N R B C = wE (m sl rt) fun x rt => R x rt := by
  simp only [wE_fun, wS_fun]
  exact v_ret
theorem w_retN : wS (sRetN sl rt) N R B C = R (.d .non) rt := by
  simp only [wE_fun, wS_fun]
  exact v_retN
theorem w_brk : wS (sBrk sl rt) N R B C = B sl rt := by
  simp only [wE_fun, wS_fun]
  exact v_brk
theorem w_cont : wS (sCont sl rt) N R B C = C sl rt := by
  simp only [wE_fun, wS_fun]
  exact v_cont
theorem w_if : wS (sIf mt s t sl rt) N R B C = wE (mt sl rt) fun b rt => if b = true then wS (s sl rt) N R B C else wS (t sl rt) N R B C := by
  simp only [wE_fun, wS_fun]
  exact v_if
theorem w_asg : wS (sAsg m g sl rt) N R B C = wE (m sl rt) fun x rt => wE (g x sl rt) fun sl rt => N sl rt := by
  simp only [wE_fun, wS_fun]
  exact v_asg
theorem w_var {x : W} (h : sl[i]? = some (some x)) : wE (eVar i sl rt) Q = Q x rt := by
  simp only [wE_fun, wS_fun]
  exact v_var h
theorem w_c {x : D} : wE (eC x sl rt) Q = Q (.d x) rt := by
  simp only [wE_fun, wS_fun]
  exact v_c
theorem w_op {f : W → W → List O → Ou W} : wE (eOp f ma mb sl rt) Q = wE (ma sl rt) fun x rt => wE (mb sl rt) fun y rt => wE (f x y rt) Q := by
  simp only [wE_fun, wS_fun]
  exact v_op
theorem w_eB : wE (eB m sl rt) T = wE (m sl rt) fun x rt => obl (fun b => T b rt) x := by
  simp only [wE_fun, wS_fun]
  exact v_eB
theorem w_notT : wE (eNotT mt sl rt) T = wE (mt sl rt) fun b rt => T (!b) rt := by
  simp only [wE_fun, wS_fun]
  exact v_notT
theorem w_andT : wE (eAndT mt nt sl rt) T = wE (mt sl rt) fun b rt => if b = true then wE (nt sl rt) T else T false rt := by
  simp only [wE_fun, wS_fun]
  exact v_andT
theorem w_orT : wE (eOrT mt nt sl rt) T = wE (mt sl rt) fun b rt => if b = true then T true rt else wE (nt sl rt) T := by
  simp only [wE_fun, wS_fun]
  exact v_orT
theorem w_eAnd : wE (eAnd ma mb sl rt) Q = wE (ma sl rt) fun x rt => obl (fun b => if b = true then wE (mb sl rt) Q else Q (.d (.bl false)) rt) x := by
  simp only [wE_fun, wS_fun]
  exact v_eAnd
theorem w_eOr : wE (eOr ma mb sl rt) Q = wE (ma sl rt) fun x rt => obl (fun b => if b = true then Q (.d (.bl true)) rt else wE (mb sl rt) Q) x := by
  simp only [wE_fun, wS_fun]
  exact v_eOr
theorem w_eNot : wE (eNot m sl rt) Q = wE (m sl rt) fun x rt => obl (fun b => Q (.d (.bl (!b))) rt) x := by
  simp only [wE_fun, wS_fun]
  exact v_eNot
theorem w_eNeg : wE (eNeg m sl rt) Q = wE (m sl rt) fun x rt => oint (fun i => Q (.d (.int (-i))) rt) x := by
  simp only [wE_fun, wS_fun]
  exact v_eNeg
theorem w_eIf : wE (eIf mt ma mb sl rt) Q = wE (mt sl rt) fun b rt => if b = true then wE (ma sl rt) Q else wE (mb sl rt) Q := by
  simp only [wE_fun, wS_fun]
  exact v_eIf
theorem w_chain {f f' : W → W → List O → Ou W} : wE (eChain f f' ma mb mc sl rt) Q = wE (ma sl rt) fun x rt => wE (mb sl rt) fun y rt => wE (f x y rt) fun z rt => obl (fun b => if b = true then wE (mc sl rt) fun u rt => wE (f' y u rt) Q else Q (.d (.bl false)) rt) z := by
  simp only [wE_fun, wS_fun]
  exact v_chain
theorem w_aNil : wE (aNil sl rt) A = A [] rt := by
  simp only [wE_fun, wS_fun]
  exact v_aNil
theorem w_aCons : wE (aCons m ms sl rt) A = wE (m sl rt) fun x rt => wE (ms sl rt) fun xs rt => A (x :: xs) rt := by
  simp only [wE_fun, wS_fun]
  exact v_aCons
theorem w_eVal : wE (eVal m sl rt) Q = wE (m sl rt) fun x rt => wE (vOf x rt) fun y rt => Q (.d y) rt := by
  simp only [wE_fun, wS_fun]
  exact v_eVal
theorem w_eFn {f : List W → List O → Ou W} : wE (eFn f ms sl rt) Q = wE (ms sl rt) fun xs rt => wE (f xs rt) Q := by
  simp only [wE_fun, wS_fun]
  exact v_eFn
theorem w_eMt {ty : W → List O → Bool} {f : W → List W → List O → Ou W} : wE (eMt ty f m ms sl rt) Q = wE (m sl rt) fun x rt => if ty x rt = true then wE (ms sl rt) fun xs rt => wE (f x xs rt) Q else False := by
  simp only [wE_fun, wS_fun]
  exact v_eMt
theorem w_eTup : wE (eTup ms sl rt) Q = wE (ms sl rt) fun ws rt => wE (valsOf ws rt) fun xs rt => wE (mkTup xs rt) Q := by
  simp only [wE_fun, wS_fun]
  exact v_eTup
theorem w_eLst : wE (eLst ms sl rt) Q = wE (ms sl rt) fun ws rt => wE (valsOf ws rt) fun xs rt => wE (mkLst xs rt) Q := by
  simp only [wE_fun, wS_fun]
  exact v_eLst
theorem w_oNone {P : Option Int → List O → Prop} : wE (oNone sl rt) P = P none rt := by
  simp only [wE_fun, wS_fun]
  exact v_oNone
theorem w_oSome {P : Option Int → List O → Prop} : wE (oSome m sl rt) P = wE (m sl rt) fun x rt => oint (fun i => P (some i) rt) x := by
  simp only [wE_fun, wS_fun]
  exact v_oSome
theorem w_eSl {l h : Ex (Option Int)} : wE (eSl m l h sl rt) Q = wE (m sl rt) fun x rt => wE (l sl rt) fun lo rt => wE (h sl rt) fun hi rt => wE (gSl x lo hi rt) Q := by
  simp only [wE_fun, wS_fun]
  exact v_eSl
theorem w_isN : wE (eIsN m sl rt) Q = wE (m sl rt) fun x rt => Q (.d (.bl x.isN)) rt := by
  simp only [wE_fun, wS_fun]
  exact v_isN
theorem w_notN : wE (eNotN m sl rt) Q = wE (m sl rt) fun x rt => Q (.d (.bl (!x.isN))) rt := by
  simp only [wE_fun, wS_fun]
  exact v_notN
theorem w_gN {x : W} : wE (gN i x sl rt) G = G (sl.set i (some x)) rt := by
  simp only [wE_fun, wS_fun]
  exact v_gN
theorem w_gSb {x : W} : wE (gSb ma mb x sl rt) G = wE (ma sl rt) fun o rt => wE (mb sl rt) fun i rt => wE (vOf x rt) fun y rt => wE (setIx o i y rt) fun _ rt => G sl rt := by
  simp only [wE_fun, wS_fun]
  exact v_gSb
theorem w_gT {n : Nat} {ms : List D → Ex Sl} {xs : List D} : wE (gT n ms (.d (.tup xs)) sl rt) G = if xs.length = n then wE (ms xs sl rt) G else False := by
  simp only [wE_fun, wS_fun]
  exact v_gT
theorem w_gNil : wE (gNil' [] sl rt) G = G sl rt := by
  simp only [wE_fun, wS_fun]
  exact v_gNil
theorem w_gCons {ms : List D → Ex Sl} {x : D} {xs : List D} : wE (gCons' g ms (x :: xs) sl rt) G = wE (g (.d x) sl rt) fun sl rt => wE (ms xs sl rt) G := by
  simp only [wE_fun, wS_fun]
  exact v_gCons
theorem w_call {f : FM} {np : Nat} : wE (eCall f np ms sl rt) Q = wE (ms sl rt) fun ws rt => if ws.length = np then wE (callF f ws rt) Q else False := by
  simp only [wE_fun, wS_fun]
  exact v_call
theorem w_call0 {f : FM} : wE (eCall0 f sl rt) Q = wE (callF f [] rt) Q := by
  simp only [wE_fun, wS_fun]
  exact v_call0
theorem w_callF {f : FM} {ws : List W} : wE (callF f ws rt) Q = if okRoots (roots ws) rt.length = true then wE (f (ws.map (renum (roots ws))) (pk (roots ws) rt (.d .non))) (fun x rs => Q (back (roots ws) rt.length x) (put (roots ws) rs rt ++ rs.drop (roots ws).length)) else False := by
  simp only [wE_fun, wS_fun]
  exact v_callF
theorem w_mkF {n : Nat} {b : Sx} {ws : List W} : wE (mkF n b ws rt) Q = wS (b (ws.map some ++ List.replicate (n - ws.length) none) rt) (fun _ rt' => Q (.d .non) (rt'.take rt.length)) (fun x rt' => wE (ret rt.length x rt') Q) (fun _ _ => False) (fun _ _ => False) := by
  simp only [wE_fun, wS_fun]
  exact v_mkF
theorem w_retD {k : Nat} {x : D} : wE (ret k (.d x) rt) Q = Q (.d x) (rt.take k) := by
  simp only [wE_fun, wS_fun]
  exact v_retD
theorem w_retR {k j : Nat} : wE (ret k (.r j) rt) Q = if j < k then Q (.r j) (rt.take k) else match rt[j]? with | some o => Q (.r k) (rt.take k ++ [o]) | none => False := by
  simp only [wE_fun, wS_fun]
  exact v_retR
theorem w_ipA {f : W → W → List O → Ou W} {x : W} (h : sl[i]? = some (some x)) : wS (ipA f i m sl rt) N R B C = wE (m sl rt) fun y rt => wE (f x y rt) fun z rt => N (sl.set i (some z)) rt := by
  simp only [wE_fun, wS_fun]
  exact v_ipA h
theorem w_augS {f : W → W → List O → Ou W} : wS (sAugS f ma mb m sl rt) N R B C = wE (ma sl rt) fun o rt => wE (mb sl rt) fun i rt => wE (gIxA o i rt) fun x rt => wE (m sl rt) fun y rt => wE (f x y rt) fun z rt => wE (vOf z rt) fun z rt => wE (setIx o i z rt) fun _ rt => N sl rt := by
  simp only [wE_fun, wS_fun]
  exact v_augS
theorem w_itSeq {P : List D → List O → Prop} : wE (itSeq m sl rt) P = wE (m sl rt) fun x rt => wE (vOf x rt) fun y rt => match seqOf y with | some xs => P xs rt | none => False := by
  simp only [wE_fun, wS_fun]
  exact v_itSeq
end
/-! ### loops -/
section
variable {Q : W → List O → Prop} {N : Sl → List O → Prop} {R : W → List O → Prop} {B C : Sl → List O → Prop} {sl : Sl} {rt : List O} {it : Ex (List D)} {g : Gx} {body : Sx} {ks : List Nat}
theorem w_turn {L : Nat} {k : Sl → List O → Os} : wS (turnEnd ks L k sl rt) N R B C = wS (k (gcSl L (kill ks sl)) (gcRt L (kill ks sl) rt)) N R B C := by
  simp only [wE_fun, wS_fun]
  exact v_turn
theorem w_for (Inv : List D → Nat → Nat → Sl → List O → Prop)
    (h : wE (it sl rt) fun xs rt1 => Inv xs rt1.length 0 sl rt1 ∧
      (∀ i x sl rt, xs[i]? = some x → Inv xs rt1.length i sl rt → wE (g (.d x) sl rt) fun sl rt => wS (body sl rt) (fun sl rt => Inv xs rt1.length (i + 1) (gcSl rt1.length (kill ks sl)) (gcRt rt1.length (kill ks sl) rt)) R
        (fun sl rt => N (gcSl rt1.length (kill ks sl)) (gcRt rt1.length (kill ks sl) rt)) (fun sl rt => Inv xs rt1.length (i + 1) (gcSl rt1.length (kill ks sl)) (gcRt rt1.length (kill ks sl) rt))) ∧
      (∀ sl rt, Inv xs rt1.length xs.length sl rt → N sl rt)) : wS (sFor ks it g body sl rt) N R B C := by
  simp only [wE_fun, wS_fun] at h ⊢
  exact v_for Inv h
theorem w_while {c : Ex Bool} (Inv : Nat → Sl → List O → Prop) (n : Nat) (h0 : Inv n sl rt)
    (h : ∀ n sl' rt', Inv n sl' rt' → wE (c sl' rt') fun b rt' => if b = true then wS (body sl' rt') (fun sl' rt' => ∃ m, m < n ∧ Inv m (gcSl rt.length (kill ks sl')) (gcRt rt.length (kill ks sl') rt')) R (fun sl' rt' => N (gcSl rt.length (kill ks sl')) (gcRt rt.length (kill ks sl') rt'))
      (fun sl' rt' => ∃ m, m < n ∧ Inv m (gcSl rt.length (kill ks sl')) (gcRt rt.length (kill ks sl') rt')) else N sl' rt') : wS (sWhile ks c body sl rt) N R B C := by
  simp only [wE_fun, wS_fun] at h ⊢
  exact v_while Inv n h0 h
theorem w_comp {vs : List Nat} {tt : Ex Bool} {el : Ex W} (Inv : List D → Nat → List O → List D → Prop)
    (h : wE (it sl rt) fun xs rt1 => Inv xs 0 rt1 [] ∧
      (∀ i x r acc, xs[i]? = some x → Inv xs i r acc → r.length = rt1.length → wE (g (.d x) (kill vs sl) (r ++ [.lst acc])) fun sl1 rt => wE (tt sl1 rt) fun b rt => if b = true then wE (el sl1 rt) fun y rt => wE (vOf y rt) fun z rt =>
          ∃ r', rt.take (rt1.length + 1) = r' ++ [.lst acc] ∧ r'.length = rt1.length ∧ acc.length < 16000000 ∧ Inv xs (i + 1) r' (acc ++ [z])
        else ∃ r', rt.take (rt1.length + 1) = r' ++ [.lst acc] ∧ r'.length = rt1.length ∧ Inv xs (i + 1) r' acc) ∧
      ∀ r acc, Inv xs xs.length r acc → r.length = rt1.length → Q (.r rt1.length) (r ++ [.lst acc])) : wE (eComp vs it g tt el sl rt) Q := by
  simp only [wE_fun, wS_fun] at h ⊢
  exact v_comp Inv h
end
/-! ### values -/
theorem atI_ofNat {α : Type} {xs : List α} {n : Nat} : atI xs (n : Int) = xs[n]? := by
  unfold atI ixN
  by_cases h : (n : Int) < xs.length
  · rw [if_pos (by omega), if_pos h]
    simp
  · rw [if_pos (by omega), if_neg h]
    rw [List.getElem?_eq_none (by omega)]
    rfl
theorem ixN_nat {n k : Nat} (h : n < k) : ixN k (n : Int) = some n := by
  unfold ixN
  rw [if_pos (by omega), if_pos (by omega)]
  simp
theorem ixN_0 {n : Nat} : ixN (n + 1) 0 = some 0 := by unfold ixN; rw [if_pos (by omega), if_pos (by omega)]; rfl
theorem ixN_1 {n : Nat} : ixN (n + 2) 1 = some 1 := by unfold ixN; rw [if_pos (by omega), if_pos (by omega)]; rfl
theorem ixN_2 {n : Nat} : ixN (n + 3) 2 = some 2 := by unfold ixN; rw [if_pos (by omega), if_pos (by omega)]; rfl
theorem ixN_3 {n : Nat} : ixN (n + 4) 3 = some 3 := by unfold ixN; rw [if_pos (by omega), if_pos (by omega)]; rfl
theorem ixN_4 {n : Nat} : ixN (n + 5) 4 = some 4 := by unfold ixN; rw [if_pos (by omega), if_pos (by omega)]; rfl
theorem ixN_6 {n : Nat} : ixN (n + 7) 6 = some 6 := by unfold ixN; rw [if_pos (by omega), if_pos (by omega)]; rfl
theorem ixN_5 {n : Nat} : ixN (n + 6) 5 = some 5 := by unfold ixN; rw [if_pos (by omega), if_pos (by omega)]; rfl
theorem atI_0 {α : Type} {a : α} {xs : List α} : atI (a :: xs) 0 = some a := by unfold atI; rw [List.length_cons, ixN_0]; rfl
theorem atI_1 {α : Type} {a b : α} {xs : List α} : atI (a :: b :: xs) 1 = some b := by unfold atI; rw [List.length_cons, List.length_cons, ixN_1]; rfl
theorem atI_2 {α : Type} {a b c : α} {xs : List α} : atI (a :: b :: c :: xs) 2 = some c := by unfold atI; rw [List.length_cons, List.length_cons, List.length_cons, ixN_2]; rfl
theorem atI_3 {α : Type} {a b c d : α} {xs : List α} : atI (a :: b :: c :: d :: xs) 3 = some d := by unfold atI; rw [List.length_cons, List.length_cons, List.length_cons, List.length_cons, ixN_3]; rfl
theorem atI_4 {α : Type} {a b c d e : α} {xs : List α} : atI (a :: b :: c :: d :: e :: xs) 4 = some e := by unfold atI; rw [List.length_cons, List.length_cons, List.length_cons, List.length_cons, List.length_cons, ixN_4]; rfl
theorem atI_5 {α : Type} {a b c d e f : α} {xs : List α} : atI (a :: b :: c :: d :: e :: f :: xs) 5 = some f := by unfold atI; rw [List.length_cons, List.length_cons, List.length_cons, List.length_cons, List.length_cons, List.length_cons, ixN_5]; rfl
theorem atI_6 {α : Type} {a b c d e f g : α} {xs : List α} : atI (a :: b :: c :: d :: e :: f :: g :: xs) 6 = some g := by unfold atI; rw [List.length_cons, List.length_cons, List.length_cons, List.length_cons, List.length_cons, List.length_cons, List.length_cons, ixN_6]; rfl
theorem eqD_int {i j : Int} : eqD (.int i) (.int j) = some (decide (i = j)) := by
  simp only [eqD, pyOf]
  rw [if_pos ⟨by rfl, by rfl⟩]
  rfl
theorem eqD_bl {i j : Bool} : eqD (.bl i) (.bl j) = some (i == j) := by
  simp only [eqD, pyOf]
  rw [if_pos ⟨by rfl, by rfl⟩]
  cases i <;> cases j <;> rfl
theorem ite_and {c P : Prop} [Decidable c] : (if c then P else False) = (c ∧ P) := by
  by_cases h : c <;> simp [h]
theorem dec_t {c : Prop} [Decidable c] : (decide c = true) = c := by simp
theorem mulOk_r {i j : Int} (h1 : -18446744073709551616 < j) (h2 : j < 18446744073709551616) : mulOk i j = true := by
  unfold mulOk
  have : (-(2 ^ 64) : Int) < j ∧ j < 2 ^ 64 := ⟨h1, h2⟩
  rw [decide_eq_true this]
  simp
theorem mulOk_l {i j : Int} (h1 : -18446744073709551616 < i) (h2 : i < 18446744073709551616) : mulOk i j = true := by
  unfold mulOk
  have : (-(2 ^ 64) : Int) < i ∧ i < 2 ^ 64 := ⟨h1, h2⟩
  rw [decide_eq_true this]
  simp
theorem divOk_of {j : Int} (h1 : 0 < j) (h2 : j < 18446744073709551616) : divOk j = true := by
  unfold divOk
  refine decide_eq_true ⟨h1, ?_⟩
  have h3 : j.natAbs < 2 ^ 64 := by omega
  have h4 : j.natAbs.log2 < 64 := (Nat.log2_lt (by omega)).mpr h3
  omega
theorem divOk_pos {j : Int} (h : divOk j = true) : 0 < j := (of_decide_eq_true h).1
theorem gMod_int {i j : Int} {rt : List O} : gMod (.d (.int i)) (.d (.int j)) rt = if 0 < j then .ok (.d (.int (i % j))) rt else .no := rfl
theorem gDiv_int {i j : Int} {rt : List O} : gDiv (.d (.int i)) (.d (.int j)) rt = if divOk j = true then .ok (.d (.int (i / j))) rt else .no := rfl
theorem gPow_int {i j : Int} {rt : List O} : gPow (.d (.int i)) (.d (.int j)) rt = if 0 ≤ j ∧ j ≤ 1000000 ∧ i.natAbs < 2 ^ 64 then .ok (.d (.int (i ^ j.toNat))) rt else .no := rfl
theorem pow10_18 : (10 : Int) ^ Int.toNat 18 = 1000000000000000000 := rfl
theorem nab10 : (10 : Int).natAbs < 2 ^ 64 := by decide
theorem vOf_d {x : D} {rt : List O} : vOf (.d x) rt = .ok x rt := rfl
theorem vOf_r {n : Nat} {rt : List O} : vOf (.r n) rt = match rt[n]? with
    | some o => .ok o.toD (rt.set n (.d o.toD))
    | none => .no := rfl
theorem w_yes {sl : Sl} {rt : List O} {T : Bool → List O → Prop} : wE (eYes sl rt) T = T true rt := wE_ok
theorem lkD_d {x : D} {rt : List O} : lkD (.d x) rt = x := rfl
theorem lkD_r {n : Nat} {rt : List O} : lkD (.r n) rt = (rt.getD n (.d .non)).toD := rfl
theorem toD_lst {xs : List D} : (O.lst xs).toD = .lst xs := by rw [O.toD]
theorem toD_d {x : D} : (O.d x).toD = x := by rw [O.toD]
theorem toD_dk {x : List (Key × D)} : (O.dk x).toD = .dk x := by rw [O.toD]
theorem toD_dt {x : List (List Key × D)} : (O.dt x).toD = .dt x := by rw [O.toD]
theorem kit_ii : kitB "int" "int" = some true := by decide +kernel
theorem kit_ib : kitB "int" "bool" = some false := by decide +kernel
theorem kit_bb : kitB "bool" "bool" = some true := by decide +kernel
theorem kit_bi : kitB "bool" "int" = some true := by decide +kernel
theorem kit_tt : kitB "tuple" "tuple" = some true := by decide +kernel
theorem kit_nt : kitB "NoneType" "tuple" = some false := by decide +kernel
theorem kit_ll : kitB "list" "list" = some true := by decide +kernel
theorem kit_ss : kitB "str" "str" = some true := by decide +kernel
theorem kit_tl : kitB "tuple" "list" = some false := by decide +kernel
theorem kit_lt : kitB "list" "tuple" = some false := by decide +kernel
theorem kit_is : kitB "int" "str" = some false := by decide +kernel
theorem kit_bs : kitB "bool" "str" = some false := by decide +kernel
theorem kit_ts : kitB "tuple" "str" = some false := by decide +kernel
theorem kit_ti : kitB "tuple" "int" = some false := by decide +kernel
theorem kit_tb : kitB "tuple" "bool" = some false := by decide +kernel
theorem kit_si : kitB "str" "int" = some false := by decide +kernel
theorem kit_sb : kitB "str" "bool" = some false := by decide +kernel
theorem kit_st : kitB "str" "tuple" = some false := by decide +kernel
theorem kit_sl : kitB "str" "list" = some false := by decide +kernel
theorem kit_dd : kitB "dict" "dict" = some true := by decide +kernel
theorem kit_td : kitB "tuple" "dict" = some false := by decide +kernel
theorem kit_ld : kitB "list" "dict" = some false := by decide +kernel
theorem kit_ls : kitB "list" "str" = some false := by decide +kernel
theorem kit_li : kitB "list" "int" = some false := by decide +kernel
theorem kit_lb : kitB "list" "bool" = some false := by decide +kernel
theorem news_nil {L : Nat} : news L [] = [] := rfl
theorem news_none {L : Nat} {sl : Sl} : news L (none :: sl) = news L sl := rfl
theorem news_d {L : Nat} {x : D} {sl : Sl} : news L (some (.d x) :: sl) = news L sl := rfl
theorem news_r {L n : Nat} {sl : Sl} : news L (some (.r n) :: sl) = if n < L ∨ n ∈ news L sl then news L sl else n :: news L sl := rfl
end VE
namespace VE
open PySem PySem.Spec L2
end VE

set_option maxHeartbeats 4000000
namespace VL
open PySem PySem.Spec L2 VE
def topS (i : Nat) : Stmt := PySem.Challenge.pw_drawnlayers_k36_kept_and_cost.main.body.getD i (.Pass ⟨0, 0, 0, 0⟩)
structure Txt (mg : Str → Option Value) : Prop where
  b_abs : mg "abs" = none
  b_bool : mg "bool" = none
  b_int : mg "int" = none
  b_isinstance : mg "isinstance" = none
  b_len : mg "len" = none
  b_list : mg "list" = none
  b_max : mg "max" = none
  b_min : mg "min" = none
  b_range : mg "range" = none
  b_tuple : mg "tuple" = none
section
variable {P : Program} {w : World} {K : PySem.W.Frag} {mg : Str → Option Value} {base : Heap}
/-! _law_bag -/
abbrev s__law_bag : Stmt := topS 4
abbrev N__law_bag : List Str := ["script", "cell"]
def b__law_bag_1 : Ex W := (eFn bAbs (aCons (eFn bInt (aCons (eVar 1) aNil)) aNil))
def b__law_bag : Sx := (sRet (eLst (aCons (eComp [1] (itSeq (eVar 0)) (gN 1) eYes b__law_bag_1) (aCons (eC (.int 0)) (aCons (eC (.int 0)) (aCons (eC (.int 0)) (aCons (eC (.int 0)) (aCons (eC (.int 0)) aNil))))))))
def m__law_bag : FM := mkF 2 b__law_bag
theorem sc__law_bag : FnScope N__law_bag ["script"] (defScope s__law_bag) := ⟨rfl, rfl, rfl, by decide +kernel, rfl, by decide +kernel, by decide +kernel⟩
theorem ok__law_bag {f : Addr} {fd : FuncData} (F : Fun K "_law_bag" "_law_bag" s__law_bag f fd) (T : Txt mg)  : FnOk P w K mg base (L2.CX P w) 1 f fd ["script"] (spV K w m__law_bag 1) :=
  fn_v F sc__law_bag fun cdv A outer s H E hr =>
      (vss_one (vs_ret (vx_lst (va_cons (vx_comp [1] rfl sc__law_bag.nd (vi_seq (vx_var 0)) (blkOk_by (N := N__law_bag) (sc := defScope s__law_bag) (own := [("cell", 1)]) (by decide +kernel)) rfl (fun s2 H2 C2 cl2 fp2 => (vgc_name 1 (by decide) sc__law_bag.nd rfl (by first | exact Or.inl rfl | exact Or.inr rfl))) (fun s2 H2 C2 cl2 fp2 => vts_nil) (fun s2 H2 C2 cl2 fp2 => (vx_callB cv_abs (by rfl) T.b_abs VE.boot_abs (va_cons (vx_callTy cv_int (by rfl) T.b_int VE.boot_int (va_cons (vx_var 1) va_nil)) va_nil)))) (va_cons vx_int (va_cons vx_int (va_cons vx_int (va_cons vx_int (va_cons vx_int va_nil)))))))))
/-! _law_draw -/
abbrev s__law_draw : Stmt := topS 5
abbrev N__law_draw : List Str := ["bag", "many", "cell", "drawn", "first", "second", "third"]
def b__law_draw : Sx := (sSeq (sIf (eAndT (eB (eOp gEq (eOp gIx (eVar 0) (eC (.int 2))) (eC (.int 0)))) (eAndT (eB (eOp gEq (eOp gIx (eVar 0) (eC (.int 5))) (eC (.int 0)))) (eB (eOp gLt (eOp gIx (eVar 0) (eC (.int 1))) (eFn bLen (aCons (eOp gIx (eVar 0) (eC (.int 0))) aNil)))))) (sSeq (sSet 2 (eOp gIx (eOp gIx (eVar 0) (eC (.int 0))) (eOp gIx (eVar 0) (eC (.int 1))))) (sSeq (sAsg (eOp gAdd (eOp gIx (eVar 0) (eC (.int 1))) (eC (.int 1))) (gSb (eVar 0) (eC (.int 1)))) (sIf (eB (eOp gGe (eVar 2) (eOp gPow (eC (.int 10)) (eC (.int 18))))) (sAsg (eVar 2) (gSb (eVar 0) (eC (.int 2)))) (sSeq (sAsg (eOp gMod (eFn bInt (aCons (eOp gAdd (eOp gMul (eOp gIx (eVar 0) (eC (.int 3))) (eC (.int 31))) (eVar 2)) aNil)) (eC (.int 1000000007))) (gSb (eVar 0) (eC (.int 3)))) (sAsg (eC (.int 5)) (gSb (eVar 0) (eC (.int 5)))))))) sNil) (sSeq (sIf (eB (eOp gGt (eOp gIx (eVar 0) (eC (.int 2))) (eC (.int 0)))) (sSeq (sSet 3 (eOp gMod (eFn bInt (aCons (eOp gIx (eVar 0) (eC (.int 2))) aNil)) (eVar 1))) (sSeq (sAsg (eOp gDiv (eOp gIx (eVar 0) (eC (.int 2))) (eVar 1)) (gSb (eVar 0) (eC (.int 2)))) (sRet (eVar 3)))) sNil) (sSeq (sAsg (eOp gAdd (eOp gIx (eVar 0) (eC (.int 4))) (eC (.int 1))) (gSb (eVar 0) (eC (.int 4)))) (sSeq (sIf (eB (eOp gGt (eOp gIx (eVar 0) (eC (.int 5))) (eC (.int 0)))) (sAsg (eOp gDif (eOp gIx (eVar 0) (eC (.int 5))) (eC (.int 1))) (gSb (eVar 0) (eC (.int 5)))) sNil) (sSeq (sSet 4 (eOp gMod (eFn bInt (aCons (eOp gAdd (eOp gAdd (eOp gMul (eOp gIx (eVar 0) (eC (.int 3))) (eC (.int 48271))) (eOp gMul (eOp gIx (eVar 0) (eC (.int 4))) (eC (.int 69621)))) (eC (.int 12345))) aNil)) (eC (.int 2147483647)))) (sSeq (sSet 5 (eOp gMod (eFn bInt (aCons (eOp gAdd (eOp gAdd (eOp gMul (eVar 4) (eVar 4)) (eOp gMul (eOp gIx (eVar 0) (eC (.int 4))) (eC (.int 3571)))) (eC (.int 40692))) aNil)) (eC (.int 2147483399)))) (sSeq (sSet 6 (eOp gMod (eFn bInt (aCons (eOp gAdd (eOp gMul (eVar 5) (eVar 5)) (eOp gDiv (eVar 5) (eC (.int 97)))) aNil)) (eC (.int 2147483629)))) (sRet (eOp gMod (eFn bInt (aCons (eOp gDiv (eVar 6) (eC (.int 3))) aNil)) (eVar 1))))))))))
def m__law_draw : FM := mkF 7 b__law_draw
theorem sc__law_draw : FnScope N__law_draw ["bag", "many"] (defScope s__law_draw) := ⟨rfl, rfl, rfl, by decide +kernel, rfl, by decide +kernel, by decide +kernel⟩
theorem ok__law_draw {f : Addr} {fd : FuncData} (F : Fun K "_law_draw" "_law_draw" s__law_draw f fd) (T : Txt mg)  : FnOk P w K mg base (L2.CX P w) 1 f fd ["bag", "many"] (spV K w m__law_draw 2) :=
  fn_v F sc__law_draw fun cdv A outer s H E hr =>
      (vss_cons (vs_if (VW.vt (vw_and (vt_cmp (opv_eq hr.units) (vx_ix (vx_var 0) vx_int) vx_int) (vw_and (vt_cmp (opv_eq hr.units) (vx_ix (vx_var 0) vx_int) vx_int) (vw_and1 (vt_cmp opv_lt (vx_ix (vx_var 0) vx_int) (vx_callB cv_len (by rfl) T.b_len VE.boot_len (va_cons (vx_ix (vx_var 0) vx_int) va_nil))))))) (vss_cons (vs_set 2 sc__law_draw.nd rfl (by first | exact Or.inl rfl | exact Or.inr rfl) (vx_ix (vx_ix (vx_var 0) vx_int) (vx_ix (vx_var 0) vx_int)))
      (vss_cons (vs_asg (vx_op opv_add (vx_ix (vx_var 0) vx_int) vx_int) (vg_sub (room1 hr) (vx_var 0) vx_int))
      (vss_one (vs_if (vt_cmp opv_ge (vx_var 2) (vx_op opv_pow vx_int vx_int)) (vss_one (vs_asg (vx_var 2) (vg_sub (room1 hr) (vx_var 0) vx_int))) (vss_cons (vs_asg (vx_op opv_mod (vx_callTy cv_int (by rfl) T.b_int VE.boot_int (va_cons (vx_op opv_add (vx_op opv_mul (vx_ix (vx_var 0) vx_int) vx_int) (vx_var 2)) va_nil)) vx_int) (vg_sub (room1 hr) (vx_var 0) vx_int))
      (vss_one (vs_asg vx_int (vg_sub (room1 hr) (vx_var 0) vx_int)))))))) vss_nil)
      (vss_cons (vs_if (vt_cmp opv_gt (vx_ix (vx_var 0) vx_int) vx_int) (vss_cons (vs_set 3 sc__law_draw.nd rfl (by first | exact Or.inl rfl | exact Or.inr rfl) (vx_op opv_mod (vx_callTy cv_int (by rfl) T.b_int VE.boot_int (va_cons (vx_ix (vx_var 0) vx_int) va_nil)) (vx_var 1)))
      (vss_cons (vs_asg (vx_op opv_div (vx_ix (vx_var 0) vx_int) (vx_var 1)) (vg_sub (room1 hr) (vx_var 0) vx_int))
      (vss_one (vs_ret (vx_var 3))))) vss_nil)
      (vss_cons (vs_asg (vx_op opv_add (vx_ix (vx_var 0) vx_int) vx_int) (vg_sub (room1 hr) (vx_var 0) vx_int))
      (vss_cons (vs_if (vt_cmp opv_gt (vx_ix (vx_var 0) vx_int) vx_int) (vss_one (vs_asg (vx_op opv_sub (vx_ix (vx_var 0) vx_int) vx_int) (vg_sub (room1 hr) (vx_var 0) vx_int))) vss_nil)
      (vss_cons (vs_set 4 sc__law_draw.nd rfl (by first | exact Or.inl rfl | exact Or.inr rfl) (vx_op opv_mod (vx_callTy cv_int (by rfl) T.b_int VE.boot_int (va_cons (vx_op opv_add (vx_op opv_add (vx_op opv_mul (vx_ix (vx_var 0) vx_int) vx_int) (vx_op opv_mul (vx_ix (vx_var 0) vx_int) vx_int)) vx_int) va_nil)) vx_int))
      (vss_cons (vs_set 5 sc__law_draw.nd rfl (by first | exact Or.inl rfl | exact Or.inr rfl) (vx_op opv_mod (vx_callTy cv_int (by rfl) T.b_int VE.boot_int (va_cons (vx_op opv_add (vx_op opv_add (vx_op opv_mul (vx_var 4) (vx_var 4)) (vx_op opv_mul (vx_ix (vx_var 0) vx_int) vx_int)) vx_int) va_nil)) vx_int))
      (vss_cons (vs_set 6 sc__law_draw.nd rfl (by first | exact Or.inl rfl | exact Or.inr rfl) (vx_op opv_mod (vx_callTy cv_int (by rfl) T.b_int VE.boot_int (va_cons (vx_op opv_add (vx_op opv_mul (vx_var 5) (vx_var 5)) (vx_op opv_div (vx_var 5) vx_int)) va_nil)) vx_int))
      (vss_one (vs_ret (vx_op opv_mod (vx_callTy cv_int (by rfl) T.b_int VE.boot_int (va_cons (vx_op opv_div (vx_var 6) vx_int) va_nil)) (vx_var 1)))))))))))
/-! _law_doubled -/
abbrev s__law_doubled : Stmt := topS 9
abbrev N__law_doubled : List Str := ["bag", "rows"]
def b__law_doubled : Sx := (sSeq (sIf (eAndT (eB (eChain gLt gLt (eC (.int 0)) (eFn bLen (aCons (eVar 1) aNil)) (eC (.int 40)))) (eB (eOp gEq (eCall m__law_draw 2 (aCons (eVar 0) (aCons (eC (.int 8)) aNil))) (eC (.int 0))))) (sDrop (eMt isLs mAppend (eVar 1) (aCons (eOp gIx (eVar 1) (eCall m__law_draw 2 (aCons (eVar 0) (aCons (eFn bLen (aCons (eVar 1) aNil)) aNil)))) aNil))) sNil) (sRet (eFn bTuple (aCons (eVar 1) aNil))))
def m__law_doubled : FM := mkF 2 b__law_doubled
theorem sc__law_doubled : FnScope N__law_doubled ["bag", "rows"] (defScope s__law_doubled) := ⟨rfl, rfl, rfl, by decide +kernel, rfl, by decide +kernel, by decide +kernel⟩
theorem ok__law_doubled {f : Addr} {fd : FuncData} (F : Fun K "_law_doubled" "_law_doubled" s__law_doubled f fd) (T : Txt mg) (c__law_draw : Cal P w K mg base 1 "_law_draw" ["bag", "many"] m__law_draw) : FnOk P w K mg base (L2.CX P w) 2 f fd ["bag", "rows"] (spV K w m__law_doubled 2) :=
  fn_v F sc__law_doubled fun cdv A outer s H E hr =>
      (vss_cons (vs_if (VW.vt (vw_and (vt_chain opv_lt opv_lt vx_int (vx_callB cv_len (by rfl) T.b_len VE.boot_len (va_cons (vx_var 1) va_nil)) vx_int) (vw_and1 (vt_cmp (opv_eq hr.units) (vx_fn c__law_draw hr (by decide) (by rfl) (takes_of rfl rfl rfl rfl) (va_cons (vx_var 0) (va_cons vx_int va_nil))) vx_int)))) (vss_one (vs_expr (vx_mt PySem.F.plainAttrs_list PySem.F.slot_list_append PySem.F.type_list_append mtv_append (vx_var 1) (va_cons (vx_ix (vx_var 1) (vx_fn c__law_draw hr (by decide) (by rfl) (takes_of rfl rfl rfl rfl) (va_cons (vx_var 0) (va_cons (vx_callB cv_len (by rfl) T.b_len VE.boot_len (va_cons (vx_var 1) va_nil)) va_nil)))) va_nil)))) vss_nil)
      (vss_one (vs_ret (vx_callTy cv_tuple (by rfl) T.b_tuple VE.boot_tuple (va_cons (vx_var 1) va_nil)))))
/-! _law_ends -/
abbrev s__law_ends : Stmt := topS 8
abbrev N__law_ends : List Str := ["bag", "count", "start"]
def b__law_ends : Sx := (sSeq (sSet 2 (eCall m__law_draw 2 (aCons (eVar 0) (aCons (eVal (eVar 1)) aNil)))) (sRet (eTup (aCons (eVar 2) (aCons (eOp gMod (eFn bInt (aCons (eOp gAdd (eOp gAdd (eVar 2) (eC (.int 1))) (eCall m__law_draw 2 (aCons (eVar 0) (aCons (eOp gDif (eVar 1) (eC (.int 1))) aNil)))) aNil)) (eVar 1)) aNil)))))
def m__law_ends : FM := mkF 3 b__law_ends
theorem sc__law_ends : FnScope N__law_ends ["bag", "count"] (defScope s__law_ends) := ⟨rfl, rfl, rfl, by decide +kernel, rfl, by decide +kernel, by decide +kernel⟩
theorem ok__law_ends {f : Addr} {fd : FuncData} (F : Fun K "_law_ends" "_law_ends" s__law_ends f fd) (T : Txt mg) (c__law_draw : Cal P w K mg base 1 "_law_draw" ["bag", "many"] m__law_draw) : FnOk P w K mg base (L2.CX P w) 2 f fd ["bag", "count"] (spV K w m__law_ends 2) :=
  fn_v F sc__law_ends fun cdv A outer s H E hr =>
      (vss_cons (vs_set 2 sc__law_ends.nd rfl (by first | exact Or.inl rfl | exact Or.inr rfl) (vx_fn c__law_draw hr (by decide) (by rfl) (takes_of rfl rfl rfl rfl) (va_cons (vx_var 0) (va_cons (vx_val (vx_var 1)) va_nil))))
      (vss_one (vs_ret (vx_tup (va_cons (vx_var 2) (va_cons (vx_op opv_mod (vx_callTy cv_int (by rfl) T.b_int VE.boot_int (va_cons (vx_op opv_add (vx_op opv_add (vx_var 2) vx_int) (vx_fn c__law_draw hr (by decide) (by rfl) (takes_of rfl rfl rfl rfl) (va_cons (vx_var 0) (va_cons (vx_op opv_sub (vx_var 1) vx_int) va_nil)))) va_nil)) (vx_var 1)) va_nil))))))
/-! _law_gap -/
abbrev s__law_gap : Stmt := topS 7
abbrev N__law_gap : List Str := ["bag"]
def b__law_gap : Sx := (sSeq (sIf (eB (eOp gEq (eCall m__law_draw 2 (aCons (eVar 0) (aCons (eC (.int 8)) aNil))) (eC (.int 0)))) (sRet (eOp gDif (eCall m__law_draw 2 (aCons (eVar 0) (aCons (eC (.int 2000001)) aNil))) (eC (.int 1000000)))) sNil) (sRet (eOp gDif (eCall m__law_draw 2 (aCons (eVar 0) (aCons (eC (.int 9)) aNil))) (eC (.int 3)))))
def m__law_gap : FM := mkF 1 b__law_gap
theorem sc__law_gap : FnScope N__law_gap ["bag"] (defScope s__law_gap) := ⟨rfl, rfl, rfl, by decide +kernel, rfl, by decide +kernel, by decide +kernel⟩
theorem ok__law_gap {f : Addr} {fd : FuncData} (F : Fun K "_law_gap" "_law_gap" s__law_gap f fd) (T : Txt mg) (c__law_draw : Cal P w K mg base 1 "_law_draw" ["bag", "many"] m__law_draw) : FnOk P w K mg base (L2.CX P w) 2 f fd ["bag"] (spV K w m__law_gap 1) :=
  fn_v F sc__law_gap fun cdv A outer s H E hr =>
      (vss_cons (vs_if (vt_cmp (opv_eq hr.units) (vx_fn c__law_draw hr (by decide) (by rfl) (takes_of rfl rfl rfl rfl) (va_cons (vx_var 0) (va_cons vx_int va_nil))) vx_int) (vss_one (vs_ret (vx_op opv_sub (vx_fn c__law_draw hr (by decide) (by rfl) (takes_of rfl rfl rfl rfl) (va_cons (vx_var 0) (va_cons vx_int va_nil))) vx_int))) vss_nil)
      (vss_one (vs_ret (vx_op opv_sub (vx_fn c__law_draw hr (by decide) (by rfl) (takes_of rfl rfl rfl rfl) (va_cons (vx_var 0) (va_cons vx_int va_nil))) vx_int))))
/-! _law_any_system -/
abbrev s__law_any_system : Stmt := topS 10
abbrev N__law_any_system : List Str := ["bag", "most", "count", "rows", "wild", "stretch", "hidden", "bounds", "k", "ends", "gap", "less", "pulls", "bounds_told", "heavy", "x"]
def b__law_any_system_1 : Ex W := (eOp gMul (eVar 5) (eCall m__law_draw 2 (aCons (eVar 0) (aCons (eC (.int 10)) aNil))))
def b__law_any_system_2 : Sx := (sSeq (sSet 9 (eCall m__law_ends 2 (aCons (eVar 0) (aCons (eVal (eVar 2)) aNil)))) (sSeq (sSet 10 (eCall m__law_gap 1 (aCons (eVar 0) aNil))) (sSeq (sSet 11 (eOp gIx (eLst (aCons (eC (.int 0)) (aCons (eC (.int 0)) (aCons (eC (.int 1)) (aCons (eFn bAbs (aCons (eVar 10) aNil)) aNil))))) (eCall m__law_draw 2 (aCons (eVar 0) (aCons (eC (.int 4)) aNil))))) (sSeq (sIf (eNotT (eB (eVar 4))) (sSet 10 (eFn bMax (aCons (eOp gDif (eC (.int 0)) (eC (.int 1000000))) (aCons (eOp gDif (eOp gDif (eOp gIx (eVar 6) (eOp gIx (eVar 9) (eC (.int 1)))) (eOp gIx (eVar 6) (eOp gIx (eVar 9) (eC (.int 0))))) (eVar 11)) aNil)))) sNil) (sDrop (eMt isLs mAppend (eVar 7) (aCons (eTup (aCons (eOp gIx (eVar 9) (eC (.int 0))) (aCons (eOp gIx (eVar 9) (eC (.int 1))) (aCons (eVar 10) aNil)))) aNil)))))))
def b__law_any_system_3 : Sx := (sSeq (sSet 9 (eCall m__law_ends 2 (aCons (eVar 0) (aCons (eVal (eVar 2)) aNil)))) (sSeq (sSet 10 (eCall m__law_gap 1 (aCons (eVar 0) aNil))) (sSeq (sSet 14 (eOp gIx (eLst (aCons (eC (.int 0)) (aCons (eC (.int 1)) (aCons (eC (.int 2)) (aCons (eCall m__law_draw 2 (aCons (eVar 0) (aCons (eC (.int 100)) aNil))) aNil))))) (eCall m__law_draw 2 (aCons (eVar 0) (aCons (eC (.int 4)) aNil))))) (sDrop (eMt isLs mAppend (eVar 12) (aCons (eTup (aCons (eOp gIx (eVar 9) (eC (.int 0))) (aCons (eOp gIx (eVar 9) (eC (.int 1))) (aCons (eVar 10) (aCons (eVar 14) aNil))))) aNil))))))
def b__law_any_system : Sx := (sSeq (sSet 2 (eOp gAdd (eC (.int 2)) (eCall m__law_draw 2 (aCons (eVar 0) (aCons (eC (.int 5)) aNil))))) (sSeq (sIf (eB (eOp gEq (eCall m__law_draw 2 (aCons (eVar 0) (aCons (eC (.int 16)) aNil))) (eC (.int 0)))) (sSet 2 (eCall m__law_draw 2 (aCons (eVar 0) (aCons (eOp gAdd (eVar 1) (eC (.int 1))) aNil)))) sNil) (sSeq (sIf (eB (eOp gLt (eVar 2) (eC (.int 2)))) (sRet (eTup (aCons (eVar 2) (aCons (eTup aNil) (aCons (eTup aNil) aNil))))) sNil) (sSeq (sSet 3 (eFn bMax (aCons (eC (.int 9)) (aCons (eOp gMul (eC (.int 2)) (eVar 2)) aNil)))) (sSeq (sIf (eB (eOp gEq (eCall m__law_draw 2 (aCons (eVar 0) (aCons (eC (.int 16)) aNil))) (eC (.int 0)))) (sSet 3 (eC (.int 41))) sNil) (sSeq (sSet 4 (eOp gEq (eCall m__law_draw 2 (aCons (eVar 0) (aCons (eC (.int 3)) aNil))) (eC (.int 0)))) (sSeq (sSet 5 (eOp gIx (eLst (aCons (eC (.int 1)) (aCons (eC (.int 1)) (aCons (eC (.int 1)) (aCons (eC (.int 50000)) aNil))))) (eCall m__law_draw 2 (aCons (eVar 0) (aCons (eC (.int 4)) aNil))))) (sSeq (sSet 6 (eComp [15] (itRng (aCons (eVar 2) aNil)) (gN 15) eYes b__law_any_system_1)) (sSeq (sSet 7 (eLst aNil)) (sSeq (sFor [8, 9, 10, 11] (itRng (aCons (eCall m__law_draw 2 (aCons (eVar 0) (aCons (eVal (eVar 3)) aNil))) aNil)) (gN 8) b__law_any_system_2) (sSeq (sSet 12 (eLst aNil)) (sSeq (sSet 13 (eCall m__law_doubled 2 (aCons (eVar 0) (aCons (eVar 7) aNil)))) (sSeq (sFor [8, 9, 10, 14] (itRng (aCons (eCall m__law_draw 2 (aCons (eVar 0) (aCons (eVal (eVar 3)) aNil))) aNil)) (gN 8) b__law_any_system_3) (sRet (eTup (aCons (eVar 2) (aCons (eVar 13) (aCons (eCall m__law_doubled 2 (aCons (eVar 0) (aCons (eVar 12) aNil))) aNil))))))))))))))))))
def m__law_any_system : FM := mkF 16 b__law_any_system
theorem sc__law_any_system : FnScope N__law_any_system ["bag", "most"] (defScope s__law_any_system) := ⟨rfl, rfl, rfl, by decide +kernel, rfl, by decide +kernel, by decide +kernel⟩
theorem ok__law_any_system {f : Addr} {fd : FuncData} (F : Fun K "_law_any_system" "_law_any_system" s__law_any_system f fd) (T : Txt mg) (c__law_draw : Cal P w K mg base 1 "_law_draw" ["bag", "many"] m__law_draw) (c__law_ends : Cal P w K mg base 2 "_law_ends" ["bag", "count"] m__law_ends) (c__law_gap : Cal P w K mg base 2 "_law_gap" ["bag"] m__law_gap) (c__law_doubled : Cal P w K mg base 2 "_law_doubled" ["bag", "rows"] m__law_doubled) : FnOk P w K mg base (L2.CX P w) 3 f fd ["bag", "most"] (spV K w m__law_any_system 2) :=
  fn_v F sc__law_any_system fun cdv A outer s H E hr =>
      (vss_cons (vs_set 2 sc__law_any_system.nd rfl (by first | exact Or.inl rfl | exact Or.inr rfl) (vx_op opv_add vx_int (vx_fn c__law_draw hr (by decide) (by rfl) (takes_of rfl rfl rfl rfl) (va_cons (vx_var 0) (va_cons vx_int va_nil)))))
      (vss_cons (vs_if (vt_cmp (opv_eq hr.units) (vx_fn c__law_draw hr (by decide) (by rfl) (takes_of rfl rfl rfl rfl) (va_cons (vx_var 0) (va_cons vx_int va_nil))) vx_int) (vss_one (vs_set 2 sc__law_any_system.nd rfl (by first | exact Or.inl rfl | exact Or.inr rfl) (vx_fn c__law_draw hr (by decide) (by rfl) (takes_of rfl rfl rfl rfl) (va_cons (vx_var 0) (va_cons (vx_op opv_add (vx_var 1) vx_int) va_nil))))) vss_nil)
      (vss_cons (vs_if (vt_cmp opv_lt (vx_var 2) vx_int) (vss_one (vs_ret (vx_tup (va_cons (vx_var 2) (va_cons (vx_tup va_nil) (va_cons (vx_tup va_nil) va_nil)))))) vss_nil)
      (vss_cons (vs_set 3 sc__law_any_system.nd rfl (by first | exact Or.inl rfl | exact Or.inr rfl) (vx_callB (cv_max rfl) (by rfl) T.b_max VE.boot_max (va_cons vx_int (va_cons (vx_op opv_mul vx_int (vx_var 2)) va_nil))))
      (vss_cons (vs_if (vt_cmp (opv_eq hr.units) (vx_fn c__law_draw hr (by decide) (by rfl) (takes_of rfl rfl rfl rfl) (va_cons (vx_var 0) (va_cons vx_int va_nil))) vx_int) (vss_one (vs_set 3 sc__law_any_system.nd rfl (by first | exact Or.inl rfl | exact Or.inr rfl) vx_int)) vss_nil)
      (vss_cons (vs_set 4 sc__law_any_system.nd rfl (by first | exact Or.inl rfl | exact Or.inr rfl) (vx_cmp (opv_eq hr.units) (vx_fn c__law_draw hr (by decide) (by rfl) (takes_of rfl rfl rfl rfl) (va_cons (vx_var 0) (va_cons vx_int va_nil))) vx_int))
      (vss_cons (vs_set 5 sc__law_any_system.nd rfl (by first | exact Or.inl rfl | exact Or.inr rfl) (vx_ix (vx_lst (va_cons vx_int (va_cons vx_int (va_cons vx_int (va_cons vx_int va_nil))))) (vx_fn c__law_draw hr (by decide) (by rfl) (takes_of rfl rfl rfl rfl) (va_cons (vx_var 0) (va_cons vx_int va_nil)))))
      (vss_cons (vs_setComp [15] rfl sc__law_any_system.nd rfl rfl (sw_true rfl rfl rfl (by decide +kernel)) (vi_range1 (va_cons (vx_var 2) va_nil) (by rfl) T.b_range) (blkOk_by (N := N__law_any_system) (sc := defScope s__law_any_system) (own := [("x", 15)]) (by decide +kernel)) rfl (fun s2 H2 C2 cl2 fp2 => (vgc_name 15 (by decide) sc__law_any_system.nd rfl (by first | exact Or.inl rfl | exact Or.inr rfl))) (fun s2 H2 C2 cl2 fp2 => vts_nil) (fun s2 H2 C2 cl2 fp2 => (vx_op opv_mul (vx_var 5) (vx_fn c__law_draw hr (by decide) (by rfl) takes0 (va_cons (vx_var 0) (va_cons vx_int va_nil))))))
      (vss_cons (vs_set 7 sc__law_any_system.nd rfl (by first | exact Or.inl rfl | exact Or.inr rfl) (vx_lst va_nil))
      (vss_cons (vs_for [8, 9, 10, 11] (passes_of rfl) rfl (vi_range1 (va_cons (vx_fn c__law_draw hr (by decide) (by rfl) (takes_of rfl rfl rfl rfl) (va_cons (vx_var 0) (va_cons (vx_val (vx_var 3)) va_nil))) va_nil) (by rfl) T.b_range) (vg_name 8 sc__law_any_system.nd rfl (by first | exact Or.inl rfl | exact Or.inr rfl)) (vss_cons (vs_set 9 sc__law_any_system.nd rfl (by first | exact Or.inl rfl | exact Or.inr rfl) (vx_fn c__law_ends hr (by decide) (by rfl) (takes_of rfl rfl rfl rfl) (va_cons (vx_var 0) (va_cons (vx_val (vx_var 2)) va_nil))))
      (vss_cons (vs_set 10 sc__law_any_system.nd rfl (by first | exact Or.inl rfl | exact Or.inr rfl) (vx_fn c__law_gap hr (by decide) (by rfl) (takes_of rfl rfl rfl rfl) (va_cons (vx_var 0) va_nil)))
      (vss_cons (vs_set 11 sc__law_any_system.nd rfl (by first | exact Or.inl rfl | exact Or.inr rfl) (vx_ix (vx_lst (va_cons vx_int (va_cons vx_int (va_cons vx_int (va_cons (vx_callB cv_abs (by rfl) T.b_abs VE.boot_abs (va_cons (vx_var 10) va_nil)) va_nil))))) (vx_fn c__law_draw hr (by decide) (by rfl) (takes_of rfl rfl rfl rfl) (va_cons (vx_var 0) (va_cons vx_int va_nil)))))
      (vss_cons (vs_if (vt_not (vt_val (vx_var 4))) (vss_one (vs_set 10 sc__law_any_system.nd rfl (by first | exact Or.inl rfl | exact Or.inr rfl) (vx_callB (cv_max rfl) (by rfl) T.b_max VE.boot_max (va_cons (vx_op opv_sub vx_int vx_int) (va_cons (vx_op opv_sub (vx_op opv_sub (vx_ix (vx_var 6) (vx_ix (vx_var 9) vx_int)) (vx_ix (vx_var 6) (vx_ix (vx_var 9) vx_int))) (vx_var 11)) va_nil))))) vss_nil)
      (vss_one (vs_expr (vx_mt PySem.F.plainAttrs_list PySem.F.slot_list_append PySem.F.type_list_append mtv_append (vx_var 7) (va_cons (vx_tup (va_cons (vx_ix (vx_var 9) vx_int) (va_cons (vx_ix (vx_var 9) vx_int) (va_cons (vx_var 10) va_nil)))) va_nil)))))))))
      (vss_cons (vs_set 12 sc__law_any_system.nd rfl (by first | exact Or.inl rfl | exact Or.inr rfl) (vx_lst va_nil))
      (vss_cons (vs_set 13 sc__law_any_system.nd rfl (by first | exact Or.inl rfl | exact Or.inr rfl) (vx_fn c__law_doubled hr (by decide) (by rfl) (takes_of rfl rfl rfl rfl) (va_cons (vx_var 0) (va_cons (vx_var 7) va_nil))))
      (vss_cons (vs_for [8, 9, 10, 14] (passes_of rfl) rfl (vi_range1 (va_cons (vx_fn c__law_draw hr (by decide) (by rfl) (takes_of rfl rfl rfl rfl) (va_cons (vx_var 0) (va_cons (vx_val (vx_var 3)) va_nil))) va_nil) (by rfl) T.b_range) (vg_name 8 sc__law_any_system.nd rfl (by first | exact Or.inl rfl | exact Or.inr rfl)) (vss_cons (vs_set 9 sc__law_any_system.nd rfl (by first | exact Or.inl rfl | exact Or.inr rfl) (vx_fn c__law_ends hr (by decide) (by rfl) (takes_of rfl rfl rfl rfl) (va_cons (vx_var 0) (va_cons (vx_val (vx_var 2)) va_nil))))
      (vss_cons (vs_set 10 sc__law_any_system.nd rfl (by first | exact Or.inl rfl | exact Or.inr rfl) (vx_fn c__law_gap hr (by decide) (by rfl) (takes_of rfl rfl rfl rfl) (va_cons (vx_var 0) va_nil)))
      (vss_cons (vs_set 14 sc__law_any_system.nd rfl (by first | exact Or.inl rfl | exact Or.inr rfl) (vx_ix (vx_lst (va_cons vx_int (va_cons vx_int (va_cons vx_int (va_cons (vx_fn c__law_draw hr (by decide) (by rfl) (takes_of rfl rfl rfl rfl) (va_cons (vx_var 0) (va_cons vx_int va_nil))) va_nil))))) (vx_fn c__law_draw hr (by decide) (by rfl) (takes_of rfl rfl rfl rfl) (va_cons (vx_var 0) (va_cons vx_int va_nil)))))
      (vss_one (vs_expr (vx_mt PySem.F.plainAttrs_list PySem.F.slot_list_append PySem.F.type_list_append mtv_append (vx_var 12) (va_cons (vx_tup (va_cons (vx_ix (vx_var 9) vx_int) (va_cons (vx_ix (vx_var 9) vx_int) (va_cons (vx_var 10) (va_cons (vx_var 14) va_nil))))) va_nil))))))))
      (vss_one (vs_ret (vx_tup (va_cons (vx_var 2) (va_cons (vx_var 13) (va_cons (vx_fn c__law_doubled hr (by decide) (by rfl) (takes_of rfl rfl rfl rfl) (va_cons (vx_var 0) (va_cons (vx_var 12) va_nil))) va_nil)))))))))))))))))))
/-! _law_climbed -/
abbrev s__law_climbed : Stmt := topS 11
abbrev N__law_climbed : List Str := ["system", "begin", "heights", "turn", "changed", "b"]
def b__law_climbed_1 : Sx := (sIf (eB (eOp gGt (eOp gAdd (eOp gIx (eVar 2) (eOp gIx (eVar 5) (eC (.int 0)))) (eOp gIx (eVar 5) (eC (.int 2)))) (eOp gIx (eVar 2) (eOp gIx (eVar 5) (eC (.int 1)))))) (sSeq (sAsg (eOp gAdd (eOp gIx (eVar 2) (eOp gIx (eVar 5) (eC (.int 0)))) (eOp gIx (eVar 5) (eC (.int 2)))) (gSb (eVar 2) (eOp gIx (eVar 5) (eC (.int 1))))) (sSet 4 (eC (.bl true)))) sNil)
def b__law_climbed_2 : Sx := (sSeq (sSet 4 (eC (.bl false))) (sSeq (sFor [5] (itSeq (eOp gIx (eVar 0) (eC (.int 1)))) (gN 5) b__law_climbed_1) (sIf (eNotT (eB (eVar 4))) (sRet (eFn bTuple (aCons (eVar 2) aNil))) sNil)))
def b__law_climbed : Sx := (sSeq (sSet 2 (eFn bList (aCons (eVar 1) aNil))) (sSeq (sFor [3, 4, 5] (itRng (aCons (eOp gAdd (eOp gIx (eVar 0) (eC (.int 0))) (eC (.int 1))) aNil)) (gN 3) b__law_climbed_2) (sRet (eC .non))))
def m__law_climbed : FM := mkF 6 b__law_climbed
theorem sc__law_climbed : FnScope N__law_climbed ["system", "begin"] (defScope s__law_climbed) := ⟨rfl, rfl, rfl, by decide +kernel, rfl, by decide +kernel, by decide +kernel⟩
theorem ok__law_climbed {f : Addr} {fd : FuncData} (F : Fun K "_law_climbed" "_law_climbed" s__law_climbed f fd) (T : Txt mg)  : FnOk P w K mg base (L2.CX P w) 1 f fd ["system", "begin"] (spV K w m__law_climbed 2) :=
  fn_v F sc__law_climbed fun cdv A outer s H E hr =>
      (vss_cons (vs_set 2 sc__law_climbed.nd rfl (by first | exact Or.inl rfl | exact Or.inr rfl) (vx_callTy cv_list (by rfl) T.b_list VE.boot_list (va_cons (vx_var 1) va_nil)))
      (vss_cons (vs_for [3, 4, 5] (passes_of rfl) rfl (vi_range1 (va_cons (vx_op opv_add (vx_ix (vx_var 0) vx_int) vx_int) va_nil) (by rfl) T.b_range) (vg_name 3 sc__law_climbed.nd rfl (by first | exact Or.inl rfl | exact Or.inr rfl)) (vss_cons (vs_set 4 sc__law_climbed.nd rfl (by first | exact Or.inl rfl | exact Or.inr rfl) vx_bl)
      (vss_cons (vs_for [5] (passes_of rfl) rfl (vi_seq (vx_ix (vx_var 0) vx_int)) (vg_name 5 sc__law_climbed.nd rfl (by first | exact Or.inl rfl | exact Or.inr rfl)) (vss_one (vs_if (vt_cmp opv_gt (vx_op opv_add (vx_ix (vx_var 2) (vx_ix (vx_var 5) vx_int)) (vx_ix (vx_var 5) vx_int)) (vx_ix (vx_var 2) (vx_ix (vx_var 5) vx_int))) (vss_cons (vs_asg (vx_op opv_add (vx_ix (vx_var 2) (vx_ix (vx_var 5) vx_int)) (vx_ix (vx_var 5) vx_int)) (vg_sub (room1 hr) (vx_var 2) (vx_ix (vx_var 5) vx_int)))
      (vss_one (vs_set 4 sc__law_climbed.nd rfl (by first | exact Or.inl rfl | exact Or.inr rfl) vx_bl))) vss_nil)))
      (vss_one (vs_if (vt_not (vt_val (vx_var 4))) (vss_one (vs_ret (vx_callTy cv_tuple (by rfl) T.b_tuple VE.boot_tuple (va_cons (vx_var 2) va_nil)))) vss_nil)))))
      (vss_one (vs_ret vx_non))))
/-! _law_signed -/
abbrev s__law_signed : Stmt := topS 12
abbrev N__law_signed : List Str := ["bag", "many", "far"]
def b__law_signed : Sx := (sSeq (sSet 2 (eCall m__law_draw 2 (aCons (eVar 0) (aCons (eVal (eVar 1)) aNil)))) (sSeq (sIf (eB (eOp gEq (eCall m__law_draw 2 (aCons (eVar 0) (aCons (eC (.int 2)) aNil))) (eC (.int 1)))) (sRet (eOp gDif (eC (.int 0)) (eVar 2))) sNil) (sRet (eVar 2))))
def m__law_signed : FM := mkF 3 b__law_signed
theorem sc__law_signed : FnScope N__law_signed ["bag", "many"] (defScope s__law_signed) := ⟨rfl, rfl, rfl, by decide +kernel, rfl, by decide +kernel, by decide +kernel⟩
theorem ok__law_signed {f : Addr} {fd : FuncData} (F : Fun K "_law_signed" "_law_signed" s__law_signed f fd) (T : Txt mg) (c__law_draw : Cal P w K mg base 1 "_law_draw" ["bag", "many"] m__law_draw) : FnOk P w K mg base (L2.CX P w) 2 f fd ["bag", "many"] (spV K w m__law_signed 2) :=
  fn_v F sc__law_signed fun cdv A outer s H E hr =>
      (vss_cons (vs_set 2 sc__law_signed.nd rfl (by first | exact Or.inl rfl | exact Or.inr rfl) (vx_fn c__law_draw hr (by decide) (by rfl) (takes_of rfl rfl rfl rfl) (va_cons (vx_var 0) (va_cons (vx_val (vx_var 1)) va_nil))))
      (vss_cons (vs_if (vt_cmp (opv_eq hr.units) (vx_fn c__law_draw hr (by decide) (by rfl) (takes_of rfl rfl rfl rfl) (va_cons (vx_var 0) (va_cons vx_int va_nil))) vx_int) (vss_one (vs_ret (vx_op opv_sub vx_int (vx_var 2)))) vss_nil)
      (vss_one (vs_ret (vx_var 2)))))
/-! _law_tall -/
abbrev s__law_tall : Stmt := topS 13
abbrev N__law_tall : List Str := ["bag", "system", "way_of", "lowest", "tall", "change", "x", "shift", "one"]
def b__law_tall_1 : Ex W := (eCall m__law_signed 2 (aCons (eVar 0) (aCons (eC (.int 10000001)) aNil)))
def b__law_tall_2 : Ex W := (eCall m__law_signed 2 (aCons (eVar 0) (aCons (eOp gPow (eC (.int 10)) (eC (.int 40))) aNil)))
def b__law_tall_3 : Ex W := (eOp gDif (eCall m__law_draw 2 (aCons (eVar 0) (aCons (eC (.int 12)) aNil))) (eC (.int 3)))
def b__law_tall_4 : Ex W := (eOp gAdd (eVar 8) (eVar 7))
def b__law_tall : Sx := (sSeq (sSet 2 (eCall m__law_draw 2 (aCons (eVar 0) (aCons (eC (.int 6)) aNil)))) (sSeq (sIf (eB (eOp gEq (eVar 2) (eC (.int 0)))) (sRet (eOp gMul (eLst (aCons (eC (.int 0)) aNil)) (eOp gIx (eVar 1) (eC (.int 0))))) sNil) (sSeq (sIf (eB (eOp gEq (eVar 2) (eC (.int 2)))) (sRet (eComp [6] (itRng (aCons (eOp gIx (eVar 1) (eC (.int 0))) aNil)) (gN 6) eYes b__law_tall_1)) sNil) (sSeq (sIf (eB (eOp gEq (eVar 2) (eC (.int 3)))) (sRet (eComp [6] (itRng (aCons (eOp gIx (eVar 1) (eC (.int 0))) aNil)) (gN 6) eYes b__law_tall_2)) sNil) (sSeq (sSet 3 (eCall m__law_climbed 2 (aCons (eVal (eVar 1)) (aCons (eVal (eOp gMul (eLst (aCons (eC (.int 0)) aNil)) (eOp gIx (eVar 1) (eC (.int 0))))) aNil)))) (sSeq (sIf (eOrT (eB (eOp gEq (eVar 2) (eC (.int 1)))) (eOrT (eB (eIsN (eVar 3))) (eB (eOp gEq (eOp gIx (eVar 1) (eC (.int 0))) (eC (.int 0)))))) (sRet (eComp [6] (itRng (aCons (eOp gIx (eVar 1) (eC (.int 0))) aNil)) (gN 6) eYes b__law_tall_3)) sNil) (sSeq (sSet 4 (eFn bList (aCons (eVar 3) aNil))) (sSeq (sSet 5 (eCall m__law_draw 2 (aCons (eVar 0) (aCons (eC (.int 4)) aNil)))) (sSeq (sSet 6 (eCall m__law_draw 2 (aCons (eVar 0) (aCons (eOp gIx (eVar 1) (eC (.int 0))) aNil)))) (sSeq (sIf (eB (eOp gEq (eVar 5) (eC (.int 1)))) (sAsg (eOp gDif (eOp gIx (eVar 4) (eVar 6)) (eC (.int 1))) (gSb (eVar 4) (eVar 6))) sNil) (sSeq (sIf (eB (eOp gEq (eVar 5) (eC (.int 2)))) (sAsg (eOp gAdd (eOp gIx (eVar 4) (eVar 6)) (eC (.int 1))) (gSb (eVar 4) (eVar 6))) sNil) (sSeq (sIf (eB (eOp gEq (eVar 5) (eC (.int 3)))) (sSeq (sSet 7 (eOp gDif (eCall m__law_draw 2 (aCons (eVar 0) (aCons (eC (.int 2000001)) aNil))) (eC (.int 1000000)))) (sSet 4 (eComp [8] (itSeq (eVar 4)) (gN 8) eYes b__law_tall_4))) sNil) (sRet (eVar 4))))))))))))))
def m__law_tall : FM := mkF 9 b__law_tall
theorem sc__law_tall : FnScope N__law_tall ["bag", "system"] (defScope s__law_tall) := ⟨rfl, rfl, rfl, by decide +kernel, rfl, by decide +kernel, by decide +kernel⟩
theorem ok__law_tall {f : Addr} {fd : FuncData} (F : Fun K "_law_tall" "_law_tall" s__law_tall f fd) (T : Txt mg) (c__law_draw : Cal P w K mg base 1 "_law_draw" ["bag", "many"] m__law_draw) (c__law_signed : Cal P w K mg base 2 "_law_signed" ["bag", "many"] m__law_signed) (c__law_climbed : Cal P w K mg base 1 "_law_climbed" ["system", "begin"] m__law_climbed) : FnOk P w K mg base (L2.CX P w) 3 f fd ["bag", "system"] (spV K w m__law_tall 2) :=
  fn_v F sc__law_tall fun cdv A outer s H E hr =>
      (vss_cons (vs_set 2 sc__law_tall.nd rfl (by first | exact Or.inl rfl | exact Or.inr rfl) (vx_fn c__law_draw hr (by decide) (by rfl) (takes_of rfl rfl rfl rfl) (va_cons (vx_var 0) (va_cons vx_int va_nil))))
      (vss_cons (vs_if (vt_cmp (opv_eq hr.units) (vx_var 2) vx_int) (vss_one (vs_ret (vx_op opv_mul (vx_lst (va_cons vx_int va_nil)) (vx_ix (vx_var 1) vx_int)))) vss_nil)
      (vss_cons (vs_if (vt_cmp (opv_eq hr.units) (vx_var 2) vx_int) (vss_one (vs_ret (vx_comp [6] rfl sc__law_tall.nd (vi_range1 (va_cons (vx_ix (vx_var 1) vx_int) va_nil) (by rfl) T.b_range) (blkOk_by (N := N__law_tall) (sc := defScope s__law_tall) (own := [("x", 6)]) (by decide +kernel)) rfl (fun s2 H2 C2 cl2 fp2 => (vgc_name 6 (by decide) sc__law_tall.nd rfl (by first | exact Or.inl rfl | exact Or.inr rfl))) (fun s2 H2 C2 cl2 fp2 => vts_nil) (fun s2 H2 C2 cl2 fp2 => (vx_fn c__law_signed hr (by decide) (by rfl) takes0 (va_cons (vx_var 0) (va_cons vx_int va_nil))))))) vss_nil)
      (vss_cons (vs_if (vt_cmp (opv_eq hr.units) (vx_var 2) vx_int) (vss_one (vs_ret (vx_comp [6] rfl sc__law_tall.nd (vi_range1 (va_cons (vx_ix (vx_var 1) vx_int) va_nil) (by rfl) T.b_range) (blkOk_by (N := N__law_tall) (sc := defScope s__law_tall) (own := [("x", 6)]) (by decide +kernel)) rfl (fun s2 H2 C2 cl2 fp2 => (vgc_name 6 (by decide) sc__law_tall.nd rfl (by first | exact Or.inl rfl | exact Or.inr rfl))) (fun s2 H2 C2 cl2 fp2 => vts_nil) (fun s2 H2 C2 cl2 fp2 => (vx_fn c__law_signed hr (by decide) (by rfl) takes0 (va_cons (vx_var 0) (va_cons (vx_op opv_pow vx_int vx_int) va_nil))))))) vss_nil)
      (vss_cons (vs_set 3 sc__law_tall.nd rfl (by first | exact Or.inl rfl | exact Or.inr rfl) (vx_fn c__law_climbed hr (by decide) (by rfl) (takes_of rfl rfl rfl rfl) (va_cons (vx_val (vx_var 1)) (va_cons (vx_val (vx_op opv_mul (vx_lst (va_cons vx_int va_nil)) (vx_ix (vx_var 1) vx_int))) va_nil))))
      (vss_cons (vs_if (VW.vt (vw_or (vt_cmp (opv_eq hr.units) (vx_var 2) vx_int) (vw_or (vt_isN (vx_var 3)) (vw_or1 (vt_cmp (opv_eq hr.units) (vx_ix (vx_var 1) vx_int) vx_int))))) (vss_one (vs_ret (vx_comp [6] rfl sc__law_tall.nd (vi_range1 (va_cons (vx_ix (vx_var 1) vx_int) va_nil) (by rfl) T.b_range) (blkOk_by (N := N__law_tall) (sc := defScope s__law_tall) (own := [("x", 6)]) (by decide +kernel)) rfl (fun s2 H2 C2 cl2 fp2 => (vgc_name 6 (by decide) sc__law_tall.nd rfl (by first | exact Or.inl rfl | exact Or.inr rfl))) (fun s2 H2 C2 cl2 fp2 => vts_nil) (fun s2 H2 C2 cl2 fp2 => (vx_op opv_sub (vx_fn c__law_draw hr (by decide) (by rfl) takes0 (va_cons (vx_var 0) (va_cons vx_int va_nil))) vx_int))))) vss_nil)
      (vss_cons (vs_set 4 sc__law_tall.nd rfl (by first | exact Or.inl rfl | exact Or.inr rfl) (vx_callTy cv_list (by rfl) T.b_list VE.boot_list (va_cons (vx_var 3) va_nil)))
      (vss_cons (vs_set 5 sc__law_tall.nd rfl (by first | exact Or.inl rfl | exact Or.inr rfl) (vx_fn c__law_draw hr (by decide) (by rfl) (takes_of rfl rfl rfl rfl) (va_cons (vx_var 0) (va_cons vx_int va_nil))))
      (vss_cons (vs_set 6 sc__law_tall.nd rfl (by first | exact Or.inl rfl | exact Or.inr rfl) (vx_fn c__law_draw hr (by decide) (by rfl) (takes_of rfl rfl rfl rfl) (va_cons (vx_var 0) (va_cons (vx_ix (vx_var 1) vx_int) va_nil))))
      (vss_cons (vs_if (vt_cmp (opv_eq hr.units) (vx_var 5) vx_int) (vss_one (vs_asg (vx_op opv_sub (vx_ix (vx_var 4) (vx_var 6)) vx_int) (vg_sub (room1 hr) (vx_var 4) (vx_var 6)))) vss_nil)
      (vss_cons (vs_if (vt_cmp (opv_eq hr.units) (vx_var 5) vx_int) (vss_one (vs_asg (vx_op opv_add (vx_ix (vx_var 4) (vx_var 6)) vx_int) (vg_sub (room1 hr) (vx_var 4) (vx_var 6)))) vss_nil)
      (vss_cons (vs_if (vt_cmp (opv_eq hr.units) (vx_var 5) vx_int) (vss_cons (vs_set 7 sc__law_tall.nd rfl (by first | exact Or.inl rfl | exact Or.inr rfl) (vx_op opv_sub (vx_fn c__law_draw hr (by decide) (by rfl) (takes_of rfl rfl rfl rfl) (va_cons (vx_var 0) (va_cons vx_int va_nil))) vx_int))
      (vss_one (vs_setComp [8] rfl sc__law_tall.nd rfl rfl (sw_true rfl rfl rfl (by decide +kernel)) (vi_seq (vx_var 4)) (blkOk_by (N := N__law_tall) (sc := defScope s__law_tall) (own := [("one", 8)]) (by decide +kernel)) rfl (fun s2 H2 C2 cl2 fp2 => (vgc_name 8 (by decide) sc__law_tall.nd rfl (by first | exact Or.inl rfl | exact Or.inr rfl))) (fun s2 H2 C2 cl2 fp2 => vts_nil) (fun s2 H2 C2 cl2 fp2 => (vx_op opv_add (vx_var 8) (vx_var 7)))))) vss_nil)
      (vss_one (vs_ret (vx_var 4)))))))))))))))
/-! _law_beside -/
abbrev s__law_beside : Stmt := topS 14
abbrev N__law_beside : List Str := ["bag", "tall", "near", "x"]
def b__law_beside : Sx := (sSeq (sSet 2 (eFn bList (aCons (eVar 1) aNil))) (sSeq (sIf (eB (eOp gGt (eFn bLen (aCons (eVar 2) aNil)) (eC (.int 0)))) (sSeq (sSet 3 (eCall m__law_draw 2 (aCons (eVar 0) (aCons (eFn bLen (aCons (eVar 2) aNil)) aNil)))) (sIf (eB (eOp gGt (eOp gIx (eVar 2) (eVar 3)) (eC (.int 0)))) (sAsg (eOp gDif (eOp gIx (eVar 2) (eVar 3)) (eC (.int 1))) (gSb (eVar 2) (eVar 3))) (sAsg (eOp gAdd (eOp gIx (eVar 2) (eVar 3)) (eC (.int 1))) (gSb (eVar 2) (eVar 3))))) sNil) (sRet (eVar 2))))
def m__law_beside : FM := mkF 4 b__law_beside
theorem sc__law_beside : FnScope N__law_beside ["bag", "tall"] (defScope s__law_beside) := ⟨rfl, rfl, rfl, by decide +kernel, rfl, by decide +kernel, by decide +kernel⟩
theorem ok__law_beside {f : Addr} {fd : FuncData} (F : Fun K "_law_beside" "_law_beside" s__law_beside f fd) (T : Txt mg) (c__law_draw : Cal P w K mg base 1 "_law_draw" ["bag", "many"] m__law_draw) : FnOk P w K mg base (L2.CX P w) 2 f fd ["bag", "tall"] (spV K w m__law_beside 2) :=
  fn_v F sc__law_beside fun cdv A outer s H E hr =>
      (vss_cons (vs_set 2 sc__law_beside.nd rfl (by first | exact Or.inl rfl | exact Or.inr rfl) (vx_callTy cv_list (by rfl) T.b_list VE.boot_list (va_cons (vx_var 1) va_nil)))
      (vss_cons (vs_if (vt_cmp opv_gt (vx_callB cv_len (by rfl) T.b_len VE.boot_len (va_cons (vx_var 2) va_nil)) vx_int) (vss_cons (vs_set 3 sc__law_beside.nd rfl (by first | exact Or.inl rfl | exact Or.inr rfl) (vx_fn c__law_draw hr (by decide) (by rfl) (takes_of rfl rfl rfl rfl) (va_cons (vx_var 0) (va_cons (vx_callB cv_len (by rfl) T.b_len VE.boot_len (va_cons (vx_var 2) va_nil)) va_nil))))
      (vss_one (vs_if (vt_cmp opv_gt (vx_ix (vx_var 2) (vx_var 3)) vx_int) (vss_one (vs_asg (vx_op opv_sub (vx_ix (vx_var 2) (vx_var 3)) vx_int) (vg_sub (room1 hr) (vx_var 2) (vx_var 3)))) (vss_one (vs_asg (vx_op opv_add (vx_ix (vx_var 2) (vx_var 3)) vx_int) (vg_sub (room1 hr) (vx_var 2) (vx_var 3))))))) vss_nil)
      (vss_one (vs_ret (vx_var 2)))))
/-! keeps -/
abbrev s_keeps : Stmt := topS 1
abbrev N_keeps : List Str := ["system", "heights", "start", "end", "gap"]
def b_keeps_1 : Sx := (sIf (eB (eOp gLt (eOp gDif (eOp gIx (eVar 1) (eVar 3)) (eOp gIx (eVar 1) (eVar 2))) (eVar 4))) (sRet (eC (.bl false))) sNil)
def b_keeps : Sx := (sSeq (sFor [2, 3, 4] (itSeq (eOp gIx (eVar 0) (eC (.int 1)))) (gT 3 (gCons' (gN 2) (gCons' (gN 3) (gCons' (gN 4) gNil')))) b_keeps_1) (sRet (eC (.bl true))))
def m_keeps : FM := mkF 5 b_keeps
theorem sc_keeps : FnScope N_keeps ["system", "heights"] (defScope s_keeps) := ⟨rfl, rfl, rfl, by decide +kernel, rfl, by decide +kernel, by decide +kernel⟩
theorem ok_keeps {f : Addr} {fd : FuncData} (F : Fun K "keeps" "keeps" s_keeps f fd) (T : Txt mg)  : FnOk P w K mg base (L2.CX P w) 1 f fd ["system", "heights"] (spV K w m_keeps 2) :=
  fn_v F sc_keeps fun cdv A outer s H E hr =>
      (vss_cons (vs_for [2, 3, 4] (passes_of rfl) rfl (vi_seq (vx_ix (vx_var 0) vx_int)) (vg_tup rfl (vgs_cons (vg_name 2 sc_keeps.nd rfl (by first | exact Or.inl rfl | exact Or.inr rfl)) (vgs_cons (vg_name 3 sc_keeps.nd rfl (by first | exact Or.inl rfl | exact Or.inr rfl)) (vgs_cons (vg_name 4 sc_keeps.nd rfl (by first | exact Or.inl rfl | exact Or.inr rfl)) vgs_nil)))) (vss_one (vs_if (vt_cmp opv_lt (vx_op opv_sub (vx_ix (vx_var 1) (vx_var 3)) (vx_ix (vx_var 1) (vx_var 2))) (vx_var 4)) (vss_one (vs_ret vx_bl)) vss_nil)))
      (vss_one (vs_ret vx_bl)))
/-! cost -/
abbrev s_cost : Stmt := topS 2
abbrev N_cost : List Str := ["system", "heights", "total", "start", "end", "gap", "weight"]
def b_cost_1 : Sx := (ipA gAddI 2 (eOp gMul (eVar 6) (eFn bAbs (aCons (eOp gDif (eOp gDif (eOp gIx (eVar 1) (eVar 4)) (eOp gIx (eVar 1) (eVar 3))) (eVar 5)) aNil))))
def b_cost : Sx := (sSeq (sSet 2 (eC (.int 0))) (sSeq (sFor [3, 4, 5, 6] (itSeq (eOp gIx (eVar 0) (eC (.int 2)))) (gT 4 (gCons' (gN 3) (gCons' (gN 4) (gCons' (gN 5) (gCons' (gN 6) gNil'))))) b_cost_1) (sRet (eVar 2))))
def m_cost : FM := mkF 7 b_cost
theorem sc_cost : FnScope N_cost ["system", "heights"] (defScope s_cost) := ⟨rfl, rfl, rfl, by decide +kernel, rfl, by decide +kernel, by decide +kernel⟩
theorem ok_cost {f : Addr} {fd : FuncData} (F : Fun K "cost" "cost" s_cost f fd) (T : Txt mg)  : FnOk P w K mg base (L2.CX P w) 1 f fd ["system", "heights"] (spV K w m_cost 2) :=
  fn_v F sc_cost fun cdv A outer s H E hr =>
      (vss_cons (vs_set 2 sc_cost.nd rfl (by first | exact Or.inl rfl | exact Or.inr rfl) vx_int)
      (vss_cons (vs_for [3, 4, 5, 6] (passes_of rfl) rfl (vi_seq (vx_ix (vx_var 0) vx_int)) (vg_tup rfl (vgs_cons (vg_name 3 sc_cost.nd rfl (by first | exact Or.inl rfl | exact Or.inr rfl)) (vgs_cons (vg_name 4 sc_cost.nd rfl (by first | exact Or.inl rfl | exact Or.inr rfl)) (vgs_cons (vg_name 5 sc_cost.nd rfl (by first | exact Or.inl rfl | exact Or.inr rfl)) (vgs_cons (vg_name 6 sc_cost.nd rfl (by first | exact Or.inl rfl | exact Or.inr rfl)) vgs_nil))))) (vss_one (vs_aug 2 sc_cost.nd rfl (by first | exact Or.inl rfl | exact Or.inr rfl) (vx_op opv_mul (vx_var 6) (vx_callB cv_abs (by rfl) T.b_abs VE.boot_abs (va_cons (vx_op opv_sub (vx_op opv_sub (vx_ix (vx_var 1) (vx_var 4)) (vx_ix (vx_var 1) (vx_var 3))) (vx_var 5)) va_nil))) ipv_add)))
      (vss_one (vs_ret (vx_var 2)))))
/-! _law_whole -/
abbrev s__law_whole : Stmt := topS 6
abbrev N__law_whole : List Str := ["got"]
def b__law_whole : Sx := (sRet (eAnd (eFn bIsi (aCons (eVar 0) (aCons (eC (.ty "int")) aNil))) (eNot (eFn bIsi (aCons (eVar 0) (aCons (eC (.ty "bool")) aNil))))))
def m__law_whole : FM := mkF 1 b__law_whole
theorem sc__law_whole : FnScope N__law_whole ["got"] (defScope s__law_whole) := ⟨rfl, rfl, rfl, by decide +kernel, rfl, by decide +kernel, by decide +kernel⟩
theorem ok__law_whole {f : Addr} {fd : FuncData} (F : Fun K "_law_whole" "_law_whole" s__law_whole f fd) (T : Txt mg)  : FnOk P w K mg base (L2.CX P w) 1 f fd ["got"] (spV K w m__law_whole 1) :=
  fn_v F sc__law_whole fun cdv A outer s H E hr =>
      (vss_one (vs_ret (vx_and (vx_callB cv_isi (by rfl) T.b_isinstance VE.boot_isinstance (va_cons (vx_var 0) (va_cons (vx_ty (by rfl) T.b_int VE.boot_int) va_nil))) (vx_one (vx_not (vx_callB cv_isi (by rfl) T.b_isinstance VE.boot_isinstance (va_cons (vx_var 0) (va_cons (vx_ty (by rfl) T.b_bool VE.boot_bool) va_nil))))))))
/-! _law_spent -/
abbrev s__law_spent : Stmt := topS 16
abbrev N__law_spent : List Str := ["system", "tall", "total", "p", "here", "wanted"]
def b__law_spent_1 : Sx := (sSeq (sSet 4 (eOp gIx (eVar 1) (eOp gIx (eVar 3) (eC (.int 1))))) (sSeq (sSet 5 (eOp gAdd (eOp gIx (eVar 1) (eOp gIx (eVar 3) (eC (.int 0)))) (eOp gIx (eVar 3) (eC (.int 2))))) (sSet 2 (eOp gAdd (eVar 2) (eOp gMul (eOp gIx (eVar 3) (eC (.int 3))) (eOp gDif (eFn bMax (aCons (eVar 4) (aCons (eVar 5) aNil))) (eFn bMin (aCons (eVar 4) (aCons (eVar 5) aNil)))))))))
def b__law_spent : Sx := (sSeq (sSet 2 (eC (.int 0))) (sSeq (sFor [3, 4, 5] (itSeq (eOp gIx (eVar 0) (eC (.int 2)))) (gN 3) b__law_spent_1) (sRet (eVar 2))))
def m__law_spent : FM := mkF 6 b__law_spent
theorem sc__law_spent : FnScope N__law_spent ["system", "tall"] (defScope s__law_spent) := ⟨rfl, rfl, rfl, by decide +kernel, rfl, by decide +kernel, by decide +kernel⟩
theorem ok__law_spent {f : Addr} {fd : FuncData} (F : Fun K "_law_spent" "_law_spent" s__law_spent f fd) (T : Txt mg)  : FnOk P w K mg base (L2.CX P w) 1 f fd ["system", "tall"] (spV K w m__law_spent 2) :=
  fn_v F sc__law_spent fun cdv A outer s H E hr =>
      (vss_cons (vs_set 2 sc__law_spent.nd rfl (by first | exact Or.inl rfl | exact Or.inr rfl) vx_int)
      (vss_cons (vs_for [3, 4, 5] (passes_of rfl) rfl (vi_seq (vx_ix (vx_var 0) vx_int)) (vg_name 3 sc__law_spent.nd rfl (by first | exact Or.inl rfl | exact Or.inr rfl)) (vss_cons (vs_set 4 sc__law_spent.nd rfl (by first | exact Or.inl rfl | exact Or.inr rfl) (vx_ix (vx_var 1) (vx_ix (vx_var 3) vx_int)))
      (vss_cons (vs_set 5 sc__law_spent.nd rfl (by first | exact Or.inl rfl | exact Or.inr rfl) (vx_op opv_add (vx_ix (vx_var 1) (vx_ix (vx_var 3) vx_int)) (vx_ix (vx_var 3) vx_int)))
      (vss_one (vs_set 2 sc__law_spent.nd rfl (by first | exact Or.inl rfl | exact Or.inr rfl) (vx_op opv_add (vx_var 2) (vx_op opv_mul (vx_ix (vx_var 3) vx_int) (vx_op opv_sub (vx_callB (cv_max rfl) (by rfl) T.b_max VE.boot_max (va_cons (vx_var 4) (va_cons (vx_var 5) va_nil))) (vx_callB (cv_min rfl) (by rfl) T.b_min VE.boot_min (va_cons (vx_var 4) (va_cons (vx_var 5) va_nil)))))))))))
      (vss_one (vs_ret (vx_var 2)))))
/-! _law_broken -/
abbrev s__law_broken : Stmt := topS 15
abbrev N__law_broken : List Str := ["system", "tall", "b"]
def b__law_broken_1 : Ex W := (eVar 2)
def b__law_broken : Sx := (sRet (eFn bLen (aCons (eComp [2] (itSeq (eOp gIx (eVar 0) (eC (.int 1)))) (gN 2) (eB (eOp gGt (eOp gAdd (eOp gIx (eVar 1) (eOp gIx (eVar 2) (eC (.int 0)))) (eOp gIx (eVar 2) (eC (.int 2)))) (eOp gIx (eVar 1) (eOp gIx (eVar 2) (eC (.int 1)))))) b__law_broken_1) aNil)))
def m__law_broken : FM := mkF 3 b__law_broken
theorem sc__law_broken : FnScope N__law_broken ["system", "tall"] (defScope s__law_broken) := ⟨rfl, rfl, rfl, by decide +kernel, rfl, by decide +kernel, by decide +kernel⟩
theorem ok__law_broken {f : Addr} {fd : FuncData} (F : Fun K "_law_broken" "_law_broken" s__law_broken f fd) (T : Txt mg)  : FnOk P w K mg base (L2.CX P w) 1 f fd ["system", "tall"] (spV K w m__law_broken 2) :=
  fn_v F sc__law_broken fun cdv A outer s H E hr =>
      (vss_one (vs_ret (vx_callB cv_len (by rfl) T.b_len VE.boot_len (va_cons (vx_comp [2] rfl sc__law_broken.nd (vi_seq (vx_ix (vx_var 0) vx_int)) (blkOk_by (N := N__law_broken) (sc := defScope s__law_broken) (own := [("b", 2)]) (by decide +kernel)) rfl (fun s2 H2 C2 cl2 fp2 => (vgc_name 2 (by decide) sc__law_broken.nd rfl (by first | exact Or.inl rfl | exact Or.inr rfl))) (fun s2 H2 C2 cl2 fp2 => (vts_one (vt_cmp opv_gt (vx_op opv_add (vx_ix (vx_var 1) (vx_ix (vx_var 2) vx_int)) (vx_ix (vx_var 2) vx_int)) (vx_ix (vx_var 1) (vx_ix (vx_var 2) vx_int))))) (fun s2 H2 C2 cl2 fp2 => (vx_var 2))) va_nil))))
/-! law -/
abbrev s_law : Stmt := topS 17
abbrev N_law : List Str := ["script", "bag", "system", "tall", "near", "heights", "told", "spent"]
def b_law_1 : Sx := (sSeq (sSet 6 (eCall m_keeps 2 (aCons (eVal (eVar 2)) (aCons (eFn bTuple (aCons (eVar 5) aNil)) aNil)))) (sSeq (sIf (eOrT (eNotT (eB (eFn bIsi (aCons (eVar 6) (aCons (eC (.ty "bool")) aNil))))) (eB (eOp gNe (eVar 6) (eOp gEq (eCall m__law_broken 2 (aCons (eVal (eVar 2)) (aCons (eVal (eVar 5)) aNil))) (eC (.int 0)))))) (sRet (eC (.bl false))) sNil) (sSeq (sSet 7 (eCall m_cost 2 (aCons (eVal (eVar 2)) (aCons (eFn bTuple (aCons (eVar 5) aNil)) aNil)))) (sIf (eOrT (eNotT (eB (eCall m__law_whole 1 (aCons (eVal (eVar 7)) aNil)))) (eB (eOp gNe (eVar 7) (eCall m__law_spent 2 (aCons (eVal (eVar 2)) (aCons (eVal (eVar 5)) aNil)))))) (sRet (eC (.bl false))) sNil))))
def b_law : Sx := (sSeq (sSet 1 (eCall m__law_bag 1 (aCons (eVal (eVar 0)) aNil))) (sSeq (sSet 2 (eCall m__law_any_system 2 (aCons (eVar 1) (aCons (eC (.int 16)) aNil)))) (sSeq (sSet 3 (eCall m__law_tall 2 (aCons (eVar 1) (aCons (eVal (eVar 2)) aNil)))) (sSeq (sSet 4 (eCall m__law_beside 2 (aCons (eVar 1) (aCons (eVal (eVar 3)) aNil)))) (sSeq (sFor [5, 6, 7] (itSeq (eLst (aCons (eVar 3) (aCons (eVar 4) (aCons (eVar 3) aNil))))) (gN 5) b_law_1) (sRet (eC (.bl true))))))))
def m_law : FM := mkF 8 b_law
theorem sc_law : FnScope N_law ["script"] (defScope s_law) := ⟨rfl, rfl, rfl, by decide +kernel, rfl, by decide +kernel, by decide +kernel⟩
theorem ok_law {f : Addr} {fd : FuncData} (F : Fun K "law" "law" s_law f fd) (T : Txt mg) (c__law_bag : Cal P w K mg base 1 "_law_bag" ["script"] m__law_bag) (c__law_any_system : Cal P w K mg base 3 "_law_any_system" ["bag", "most"] m__law_any_system) (c__law_tall : Cal P w K mg base 3 "_law_tall" ["bag", "system"] m__law_tall) (c__law_beside : Cal P w K mg base 2 "_law_beside" ["bag", "tall"] m__law_beside) (c_keeps : Cal P w K mg base 1 "keeps" ["system", "heights"] m_keeps) (c__law_broken : Cal P w K mg base 1 "_law_broken" ["system", "tall"] m__law_broken) (c_cost : Cal P w K mg base 1 "cost" ["system", "heights"] m_cost) (c__law_whole : Cal P w K mg base 1 "_law_whole" ["got"] m__law_whole) (c__law_spent : Cal P w K mg base 1 "_law_spent" ["system", "tall"] m__law_spent) : FnOk P w K mg base (L2.CX P w) 4 f fd ["script"] (spV K w m_law 1) :=
  fn_v F sc_law fun cdv A outer s H E hr =>
      (vss_cons (vs_set 1 sc_law.nd rfl (by first | exact Or.inl rfl | exact Or.inr rfl) (vx_fn c__law_bag hr (by decide) (by rfl) (takes_of rfl rfl rfl rfl) (va_cons (vx_val (vx_var 0)) va_nil)))
      (vss_cons (vs_set 2 sc_law.nd rfl (by first | exact Or.inl rfl | exact Or.inr rfl) (vx_fn c__law_any_system hr (by decide) (by rfl) (takes_of rfl rfl rfl rfl) (va_cons (vx_var 1) (va_cons vx_int va_nil))))
      (vss_cons (vs_set 3 sc_law.nd rfl (by first | exact Or.inl rfl | exact Or.inr rfl) (vx_fn c__law_tall hr (by decide) (by rfl) (takes_of rfl rfl rfl rfl) (va_cons (vx_var 1) (va_cons (vx_val (vx_var 2)) va_nil))))
      (vss_cons (vs_set 4 sc_law.nd rfl (by first | exact Or.inl rfl | exact Or.inr rfl) (vx_fn c__law_beside hr (by decide) (by rfl) (takes_of rfl rfl rfl rfl) (va_cons (vx_var 1) (va_cons (vx_val (vx_var 3)) va_nil))))
      (vss_cons (vs_for [5, 6, 7] (passes_of rfl) rfl (vi_seq (vx_lst (va_cons (vx_var 3) (va_cons (vx_var 4) (va_cons (vx_var 3) va_nil))))) (vg_name 5 sc_law.nd rfl (by first | exact Or.inl rfl | exact Or.inr rfl)) (vss_cons (vs_set 6 sc_law.nd rfl (by first | exact Or.inl rfl | exact Or.inr rfl) (vx_fn c_keeps hr (by decide) (by rfl) (takes_of rfl rfl rfl rfl) (va_cons (vx_val (vx_var 2)) (va_cons (vx_callTy cv_tuple (by rfl) T.b_tuple VE.boot_tuple (va_cons (vx_var 5) va_nil)) va_nil))))
      (vss_cons (vs_if (VW.vt (vw_or (vt_not (vt_val (vx_callB cv_isi (by rfl) T.b_isinstance VE.boot_isinstance (va_cons (vx_var 6) (va_cons (vx_ty (by rfl) T.b_bool VE.boot_bool) va_nil))))) (vw_or1 (vt_cmp (opv_ne hr.units) (vx_var 6) (vx_cmp (opv_eq hr.units) (vx_fn c__law_broken hr (by decide) (by rfl) (takes_of rfl rfl rfl rfl) (va_cons (vx_val (vx_var 2)) (va_cons (vx_val (vx_var 5)) va_nil))) vx_int))))) (vss_one (vs_ret vx_bl)) vss_nil)
      (vss_cons (vs_set 7 sc_law.nd rfl (by first | exact Or.inl rfl | exact Or.inr rfl) (vx_fn c_cost hr (by decide) (by rfl) (takes_of rfl rfl rfl rfl) (va_cons (vx_val (vx_var 2)) (va_cons (vx_callTy cv_tuple (by rfl) T.b_tuple VE.boot_tuple (va_cons (vx_var 5) va_nil)) va_nil))))
      (vss_one (vs_if (VW.vt (vw_or (vt_not (vt_val (vx_fn c__law_whole hr (by decide) (by rfl) (takes_of rfl rfl rfl rfl) (va_cons (vx_val (vx_var 7)) va_nil)))) (vw_or1 (vt_cmp (opv_ne hr.units) (vx_var 7) (vx_fn c__law_spent hr (by decide) (by rfl) (takes_of rfl rfl rfl rfl) (va_cons (vx_val (vx_var 2)) (va_cons (vx_val (vx_var 5)) va_nil))))))) (vss_one (vs_ret vx_bl)) vss_nil))))))
      (vss_one (vs_ret vx_bl)))))))
end
theorem all_mk {w : World} {K : PySem.W.Frag} {h : Heap} {mg : Str → Option Value} {fa : Addr} (X : K.In h) (G : h.Ns mainGlobals mg) (hfa : mg "law" = some (.ref fa))
    {f0 : Addr} {od0 an0 : Option Addr} {sl0 : Array (Option Value)} {oc0 kV0 dc0 pm0 cd0 ct0 : Value}
    (a0 : PySem.W.nsIn K mainGlobals "_law_bag" = some (some (.ref f0))) (l0 : K.lookup f0 = some ⟨oc0, od0, .func (PySem.W.fnOf "_law_bag" "_law_bag" (defArgs s__law_bag) (defBody s__law_bag) (defScope s__law_bag) .none kV0 dc0 pm0 an0 cd0 ct0), sl0⟩) (c0 : PySem.W.codeIn K cd0 "_law_bag" = true) (k0 : PySem.W.keepIn K (.ref f0) = true)
    {f1 : Addr} {od1 an1 : Option Addr} {sl1 : Array (Option Value)} {oc1 kV1 dc1 pm1 cd1 ct1 : Value}
    (a1 : PySem.W.nsIn K mainGlobals "_law_draw" = some (some (.ref f1))) (l1 : K.lookup f1 = some ⟨oc1, od1, .func (PySem.W.fnOf "_law_draw" "_law_draw" (defArgs s__law_draw) (defBody s__law_draw) (defScope s__law_draw) .none kV1 dc1 pm1 an1 cd1 ct1), sl1⟩) (c1 : PySem.W.codeIn K cd1 "_law_draw" = true) (k1 : PySem.W.keepIn K (.ref f1) = true)
    {f2 : Addr} {od2 an2 : Option Addr} {sl2 : Array (Option Value)} {oc2 kV2 dc2 pm2 cd2 ct2 : Value}
    (a2 : PySem.W.nsIn K mainGlobals "_law_doubled" = some (some (.ref f2))) (l2 : K.lookup f2 = some ⟨oc2, od2, .func (PySem.W.fnOf "_law_doubled" "_law_doubled" (defArgs s__law_doubled) (defBody s__law_doubled) (defScope s__law_doubled) .none kV2 dc2 pm2 an2 cd2 ct2), sl2⟩) (c2 : PySem.W.codeIn K cd2 "_law_doubled" = true) (k2 : PySem.W.keepIn K (.ref f2) = true)
    {f3 : Addr} {od3 an3 : Option Addr} {sl3 : Array (Option Value)} {oc3 kV3 dc3 pm3 cd3 ct3 : Value}
    (a3 : PySem.W.nsIn K mainGlobals "_law_ends" = some (some (.ref f3))) (l3 : K.lookup f3 = some ⟨oc3, od3, .func (PySem.W.fnOf "_law_ends" "_law_ends" (defArgs s__law_ends) (defBody s__law_ends) (defScope s__law_ends) .none kV3 dc3 pm3 an3 cd3 ct3), sl3⟩) (c3 : PySem.W.codeIn K cd3 "_law_ends" = true) (k3 : PySem.W.keepIn K (.ref f3) = true)
    {f4 : Addr} {od4 an4 : Option Addr} {sl4 : Array (Option Value)} {oc4 kV4 dc4 pm4 cd4 ct4 : Value}
    (a4 : PySem.W.nsIn K mainGlobals "_law_gap" = some (some (.ref f4))) (l4 : K.lookup f4 = some ⟨oc4, od4, .func (PySem.W.fnOf "_law_gap" "_law_gap" (defArgs s__law_gap) (defBody s__law_gap) (defScope s__law_gap) .none kV4 dc4 pm4 an4 cd4 ct4), sl4⟩) (c4 : PySem.W.codeIn K cd4 "_law_gap" = true) (k4 : PySem.W.keepIn K (.ref f4) = true)
    {f5 : Addr} {od5 an5 : Option Addr} {sl5 : Array (Option Value)} {oc5 kV5 dc5 pm5 cd5 ct5 : Value}
    (a5 : PySem.W.nsIn K mainGlobals "_law_any_system" = some (some (.ref f5))) (l5 : K.lookup f5 = some ⟨oc5, od5, .func (PySem.W.fnOf "_law_any_system" "_law_any_system" (defArgs s__law_any_system) (defBody s__law_any_system) (defScope s__law_any_system) .none kV5 dc5 pm5 an5 cd5 ct5), sl5⟩) (c5 : PySem.W.codeIn K cd5 "_law_any_system" = true) (k5 : PySem.W.keepIn K (.ref f5) = true)
    {f6 : Addr} {od6 an6 : Option Addr} {sl6 : Array (Option Value)} {oc6 kV6 dc6 pm6 cd6 ct6 : Value}
    (a6 : PySem.W.nsIn K mainGlobals "_law_climbed" = some (some (.ref f6))) (l6 : K.lookup f6 = some ⟨oc6, od6, .func (PySem.W.fnOf "_law_climbed" "_law_climbed" (defArgs s__law_climbed) (defBody s__law_climbed) (defScope s__law_climbed) .none kV6 dc6 pm6 an6 cd6 ct6), sl6⟩) (c6 : PySem.W.codeIn K cd6 "_law_climbed" = true) (k6 : PySem.W.keepIn K (.ref f6) = true)
    {f7 : Addr} {od7 an7 : Option Addr} {sl7 : Array (Option Value)} {oc7 kV7 dc7 pm7 cd7 ct7 : Value}
    (a7 : PySem.W.nsIn K mainGlobals "_law_signed" = some (some (.ref f7))) (l7 : K.lookup f7 = some ⟨oc7, od7, .func (PySem.W.fnOf "_law_signed" "_law_signed" (defArgs s__law_signed) (defBody s__law_signed) (defScope s__law_signed) .none kV7 dc7 pm7 an7 cd7 ct7), sl7⟩) (c7 : PySem.W.codeIn K cd7 "_law_signed" = true) (k7 : PySem.W.keepIn K (.ref f7) = true)
    {f8 : Addr} {od8 an8 : Option Addr} {sl8 : Array (Option Value)} {oc8 kV8 dc8 pm8 cd8 ct8 : Value}
    (a8 : PySem.W.nsIn K mainGlobals "_law_tall" = some (some (.ref f8))) (l8 : K.lookup f8 = some ⟨oc8, od8, .func (PySem.W.fnOf "_law_tall" "_law_tall" (defArgs s__law_tall) (defBody s__law_tall) (defScope s__law_tall) .none kV8 dc8 pm8 an8 cd8 ct8), sl8⟩) (c8 : PySem.W.codeIn K cd8 "_law_tall" = true) (k8 : PySem.W.keepIn K (.ref f8) = true)
    {f9 : Addr} {od9 an9 : Option Addr} {sl9 : Array (Option Value)} {oc9 kV9 dc9 pm9 cd9 ct9 : Value}
    (a9 : PySem.W.nsIn K mainGlobals "_law_beside" = some (some (.ref f9))) (l9 : K.lookup f9 = some ⟨oc9, od9, .func (PySem.W.fnOf "_law_beside" "_law_beside" (defArgs s__law_beside) (defBody s__law_beside) (defScope s__law_beside) .none kV9 dc9 pm9 an9 cd9 ct9), sl9⟩) (c9 : PySem.W.codeIn K cd9 "_law_beside" = true) (k9 : PySem.W.keepIn K (.ref f9) = true)
    {f10 : Addr} {od10 an10 : Option Addr} {sl10 : Array (Option Value)} {oc10 kV10 dc10 pm10 cd10 ct10 : Value}
    (a10 : PySem.W.nsIn K mainGlobals "keeps" = some (some (.ref f10))) (l10 : K.lookup f10 = some ⟨oc10, od10, .func (PySem.W.fnOf "keeps" "keeps" (defArgs s_keeps) (defBody s_keeps) (defScope s_keeps) .none kV10 dc10 pm10 an10 cd10 ct10), sl10⟩) (c10 : PySem.W.codeIn K cd10 "keeps" = true) (k10 : PySem.W.keepIn K (.ref f10) = true)
    {f11 : Addr} {od11 an11 : Option Addr} {sl11 : Array (Option Value)} {oc11 kV11 dc11 pm11 cd11 ct11 : Value}
    (a11 : PySem.W.nsIn K mainGlobals "cost" = some (some (.ref f11))) (l11 : K.lookup f11 = some ⟨oc11, od11, .func (PySem.W.fnOf "cost" "cost" (defArgs s_cost) (defBody s_cost) (defScope s_cost) .none kV11 dc11 pm11 an11 cd11 ct11), sl11⟩) (c11 : PySem.W.codeIn K cd11 "cost" = true) (k11 : PySem.W.keepIn K (.ref f11) = true)
    {f12 : Addr} {od12 an12 : Option Addr} {sl12 : Array (Option Value)} {oc12 kV12 dc12 pm12 cd12 ct12 : Value}
    (a12 : PySem.W.nsIn K mainGlobals "_law_whole" = some (some (.ref f12))) (l12 : K.lookup f12 = some ⟨oc12, od12, .func (PySem.W.fnOf "_law_whole" "_law_whole" (defArgs s__law_whole) (defBody s__law_whole) (defScope s__law_whole) .none kV12 dc12 pm12 an12 cd12 ct12), sl12⟩) (c12 : PySem.W.codeIn K cd12 "_law_whole" = true) (k12 : PySem.W.keepIn K (.ref f12) = true)
    {f13 : Addr} {od13 an13 : Option Addr} {sl13 : Array (Option Value)} {oc13 kV13 dc13 pm13 cd13 ct13 : Value}
    (a13 : PySem.W.nsIn K mainGlobals "_law_spent" = some (some (.ref f13))) (l13 : K.lookup f13 = some ⟨oc13, od13, .func (PySem.W.fnOf "_law_spent" "_law_spent" (defArgs s__law_spent) (defBody s__law_spent) (defScope s__law_spent) .none kV13 dc13 pm13 an13 cd13 ct13), sl13⟩) (c13 : PySem.W.codeIn K cd13 "_law_spent" = true) (k13 : PySem.W.keepIn K (.ref f13) = true)
    {f14 : Addr} {od14 an14 : Option Addr} {sl14 : Array (Option Value)} {oc14 kV14 dc14 pm14 cd14 ct14 : Value}
    (a14 : PySem.W.nsIn K mainGlobals "_law_broken" = some (some (.ref f14))) (l14 : K.lookup f14 = some ⟨oc14, od14, .func (PySem.W.fnOf "_law_broken" "_law_broken" (defArgs s__law_broken) (defBody s__law_broken) (defScope s__law_broken) .none kV14 dc14 pm14 an14 cd14 ct14), sl14⟩) (c14 : PySem.W.codeIn K cd14 "_law_broken" = true) (k14 : PySem.W.keepIn K (.ref f14) = true)
    {f15 : Addr} {od15 an15 : Option Addr} {sl15 : Array (Option Value)} {oc15 kV15 dc15 pm15 cd15 ct15 : Value}
    (a15 : PySem.W.nsIn K mainGlobals "law" = some (some (.ref f15))) (l15 : K.lookup f15 = some ⟨oc15, od15, .func (PySem.W.fnOf "law" "law" (defArgs s_law) (defBody s_law) (defScope s_law) .none kV15 dc15 pm15 an15 cd15 ct15), sl15⟩) (c15 : PySem.W.codeIn K cd15 "law" = true) (k15 : PySem.W.keepIn K (.ref f15) = true)
    (z_abs : PySem.W.nsIn K mainGlobals "abs" = some none)
    (z_bool : PySem.W.nsIn K mainGlobals "bool" = some none)
    (z_int : PySem.W.nsIn K mainGlobals "int" = some none)
    (z_isinstance : PySem.W.nsIn K mainGlobals "isinstance" = some none)
    (z_len : PySem.W.nsIn K mainGlobals "len" = some none)
    (z_list : PySem.W.nsIn K mainGlobals "list" = some none)
    (z_max : PySem.W.nsIn K mainGlobals "max" = some none)
    (z_min : PySem.W.nsIn K mainGlobals "min" = some none)
    (z_range : PySem.W.nsIn K mainGlobals "range" = some none)
    (z_tuple : PySem.W.nsIn K mainGlobals "tuple" = some none)
    : ∃ fd : FuncData, (∀ (s : Shared) (v : Value), BindsTo s fd ⟨[v], []⟩ [("script", v)]) ∧ ∀ base : Heap, K.In base → base.Ns mainGlobals mg → FnOk PySem.Challenge.pw_drawnlayers_k36_kept_and_cost w K mg base (L2.CX PySem.Challenge.pw_drawnlayers_k36_kept_and_cost w) 4 fa fd ["script"] (spV K w m_law 1) := by
  have e := hfa.symm.trans (PySem.W.mg_of X G a15)
  cases e
  have T : Txt mg := ⟨PySem.W.mg_none_of X G z_abs, PySem.W.mg_none_of X G z_bool, PySem.W.mg_none_of X G z_int, PySem.W.mg_none_of X G z_isinstance, PySem.W.mg_none_of X G z_len, PySem.W.mg_none_of X G z_list, PySem.W.mg_none_of X G z_max, PySem.W.mg_none_of X G z_min, PySem.W.mg_none_of X G z_range, PySem.W.mg_none_of X G z_tuple⟩
  have F0 := fun_mk (st := s__law_bag) l0 c0 k0
  have F1 := fun_mk (st := s__law_draw) l1 c1 k1
  have F2 := fun_mk (st := s__law_doubled) l2 c2 k2
  have F3 := fun_mk (st := s__law_ends) l3 c3 k3
  have F4 := fun_mk (st := s__law_gap) l4 c4 k4
  have F5 := fun_mk (st := s__law_any_system) l5 c5 k5
  have F6 := fun_mk (st := s__law_climbed) l6 c6 k6
  have F7 := fun_mk (st := s__law_signed) l7 c7 k7
  have F8 := fun_mk (st := s__law_tall) l8 c8 k8
  have F9 := fun_mk (st := s__law_beside) l9 c9 k9
  have F10 := fun_mk (st := s_keeps) l10 c10 k10
  have F11 := fun_mk (st := s_cost) l11 c11 k11
  have F12 := fun_mk (st := s__law_whole) l12 c12 k12
  have F13 := fun_mk (st := s__law_spent) l13 c13 k13
  have F14 := fun_mk (st := s__law_broken) l14 c14 k14
  have F15 := fun_mk (st := s_law) l15 c15 k15
  refine ⟨PySem.W.fnOf "law" "law" (defArgs s_law) (defBody s_law) (defScope s_law) .none kV15 dc15 pm15 an15 cd15 ct15, fun s v => .of_eq rfl, fun base _ _ => ?_⟩
  have c__law_bag : Cal PySem.Challenge.pw_drawnlayers_k36_kept_and_cost w K mg base 1 "_law_bag" ["script"] m__law_bag := ⟨f0, _, ok__law_bag F0 T , PySem.W.mg_of X G a0, k0, F0.binds (ps := ["script"]) fun _ _ _ _ _ _ us hl => match us, hl with | [_], _ => rfl⟩
  have c__law_draw : Cal PySem.Challenge.pw_drawnlayers_k36_kept_and_cost w K mg base 1 "_law_draw" ["bag", "many"] m__law_draw := ⟨f1, _, ok__law_draw F1 T , PySem.W.mg_of X G a1, k1, F1.binds (ps := ["bag", "many"]) fun _ _ _ _ _ _ us hl => match us, hl with | [_, _], _ => rfl⟩
  have c__law_doubled : Cal PySem.Challenge.pw_drawnlayers_k36_kept_and_cost w K mg base 2 "_law_doubled" ["bag", "rows"] m__law_doubled := ⟨f2, _, ok__law_doubled F2 T c__law_draw, PySem.W.mg_of X G a2, k2, F2.binds (ps := ["bag", "rows"]) fun _ _ _ _ _ _ us hl => match us, hl with | [_, _], _ => rfl⟩
  have c__law_ends : Cal PySem.Challenge.pw_drawnlayers_k36_kept_and_cost w K mg base 2 "_law_ends" ["bag", "count"] m__law_ends := ⟨f3, _, ok__law_ends F3 T c__law_draw, PySem.W.mg_of X G a3, k3, F3.binds (ps := ["bag", "count"]) fun _ _ _ _ _ _ us hl => match us, hl with | [_, _], _ => rfl⟩
  have c__law_gap : Cal PySem.Challenge.pw_drawnlayers_k36_kept_and_cost w K mg base 2 "_law_gap" ["bag"] m__law_gap := ⟨f4, _, ok__law_gap F4 T c__law_draw, PySem.W.mg_of X G a4, k4, F4.binds (ps := ["bag"]) fun _ _ _ _ _ _ us hl => match us, hl with | [_], _ => rfl⟩
  have c__law_any_system : Cal PySem.Challenge.pw_drawnlayers_k36_kept_and_cost w K mg base 3 "_law_any_system" ["bag", "most"] m__law_any_system := ⟨f5, _, ok__law_any_system F5 T c__law_draw c__law_ends c__law_gap c__law_doubled, PySem.W.mg_of X G a5, k5, F5.binds (ps := ["bag", "most"]) fun _ _ _ _ _ _ us hl => match us, hl with | [_, _], _ => rfl⟩
  have c__law_climbed : Cal PySem.Challenge.pw_drawnlayers_k36_kept_and_cost w K mg base 1 "_law_climbed" ["system", "begin"] m__law_climbed := ⟨f6, _, ok__law_climbed F6 T , PySem.W.mg_of X G a6, k6, F6.binds (ps := ["system", "begin"]) fun _ _ _ _ _ _ us hl => match us, hl with | [_, _], _ => rfl⟩
  have c__law_signed : Cal PySem.Challenge.pw_drawnlayers_k36_kept_and_cost w K mg base 2 "_law_signed" ["bag", "many"] m__law_signed := ⟨f7, _, ok__law_signed F7 T c__law_draw, PySem.W.mg_of X G a7, k7, F7.binds (ps := ["bag", "many"]) fun _ _ _ _ _ _ us hl => match us, hl with | [_, _], _ => rfl⟩
  have c__law_tall : Cal PySem.Challenge.pw_drawnlayers_k36_kept_and_cost w K mg base 3 "_law_tall" ["bag", "system"] m__law_tall := ⟨f8, _, ok__law_tall F8 T c__law_draw c__law_signed c__law_climbed, PySem.W.mg_of X G a8, k8, F8.binds (ps := ["bag", "system"]) fun _ _ _ _ _ _ us hl => match us, hl with | [_, _], _ => rfl⟩
  have c__law_beside : Cal PySem.Challenge.pw_drawnlayers_k36_kept_and_cost w K mg base 2 "_law_beside" ["bag", "tall"] m__law_beside := ⟨f9, _, ok__law_beside F9 T c__law_draw, PySem.W.mg_of X G a9, k9, F9.binds (ps := ["bag", "tall"]) fun _ _ _ _ _ _ us hl => match us, hl with | [_, _], _ => rfl⟩
  have c_keeps : Cal PySem.Challenge.pw_drawnlayers_k36_kept_and_cost w K mg base 1 "keeps" ["system", "heights"] m_keeps := ⟨f10, _, ok_keeps F10 T , PySem.W.mg_of X G a10, k10, F10.binds (ps := ["system", "heights"]) fun _ _ _ _ _ _ us hl => match us, hl with | [_, _], _ => rfl⟩
  have c_cost : Cal PySem.Challenge.pw_drawnlayers_k36_kept_and_cost w K mg base 1 "cost" ["system", "heights"] m_cost := ⟨f11, _, ok_cost F11 T , PySem.W.mg_of X G a11, k11, F11.binds (ps := ["system", "heights"]) fun _ _ _ _ _ _ us hl => match us, hl with | [_, _], _ => rfl⟩
  have c__law_whole : Cal PySem.Challenge.pw_drawnlayers_k36_kept_and_cost w K mg base 1 "_law_whole" ["got"] m__law_whole := ⟨f12, _, ok__law_whole F12 T , PySem.W.mg_of X G a12, k12, F12.binds (ps := ["got"]) fun _ _ _ _ _ _ us hl => match us, hl with | [_], _ => rfl⟩
  have c__law_spent : Cal PySem.Challenge.pw_drawnlayers_k36_kept_and_cost w K mg base 1 "_law_spent" ["system", "tall"] m__law_spent := ⟨f13, _, ok__law_spent F13 T , PySem.W.mg_of X G a13, k13, F13.binds (ps := ["system", "tall"]) fun _ _ _ _ _ _ us hl => match us, hl with | [_, _], _ => rfl⟩
  have c__law_broken : Cal PySem.Challenge.pw_drawnlayers_k36_kept_and_cost w K mg base 1 "_law_broken" ["system", "tall"] m__law_broken := ⟨f14, _, ok__law_broken F14 T , PySem.W.mg_of X G a14, k14, F14.binds (ps := ["system", "tall"]) fun _ _ _ _ _ _ us hl => match us, hl with | [_, _], _ => rfl⟩
  exact ok_law F15 T c__law_bag c__law_any_system c__law_tall c__law_beside c_keeps c__law_broken c_cost c__law_whole c__law_spent
local macro_rules
  | `(tactic| simp_arith) => `(tactic| simp only [wE_ok, wE_no, wE_bind, wE_noex, wE_ite, wS_seq, wS_nx, wS_re, wS_bk, wS_ct, wS_no, wS_then, wS_ite, obl_bl, oint_int, w_seq, w_nil, w_set, w_drop, w_ret, w_retN, w_brk, w_cont, w_if, w_asg,
      eVar, w_c, w_op, w_eB, w_notT, w_andT, w_orT, w_eAnd, w_eOr, w_eNot, w_eNeg, w_eIf, w_chain, w_aNil, w_aCons, w_eVal, w_eFn, w_eMt, w_eTup, w_eLst, w_oNone, w_oSome, w_eSl, w_isN, w_notN, w_gN, w_gSb, w_gT, w_gNil, w_gCons, w_call, w_call0, w_callF, w_mkF, w_retD, w_retR, ipA, w_augS, w_itSeq,
      atI_0, atI_1, atI_2, atI_3, atI_4, atI_5, atI_6, ixN_0, ixN_1, ixN_2, ixN_3, ixN_4, ixN_5, ixN_6, eqD_int, eqD_bl, bIsi, tyName, kit_ii, kit_ib, kit_bb, kit_bi, kit_tt, kit_nt, kit_ll, kit_ss, kit_tl, kit_lt, kit_is, kit_bs, kit_ts, kit_ti, kit_tb, kit_si, kit_sb, kit_st, kit_sl, kit_dd, kit_td, kit_ld, kit_ls, kit_li, kit_lb, ite_and, dec_t, mulOk_r, mulOk_l, divOk_of, pow10_18, nab10, news_nil, news_none, news_d, news_r, kill, gcSl, gcRt, gcW, ixOf, roots, renum, pk, put, back, okRoots, vOf_d, vOf_r, w_yes, lkD_d, lkD_r, toD_lst, toD_d, toD_dk, toD_dt, lsOf, tpOf, W.isN,
      gAdd, gDif, gMul, gMod_int, gDiv_int, gPow_int, gEq, gNe, gLt, gLe, gGt, gGe, cmpI, gIx, gIxA, gAddI, bMax, bMin, setIx, valsOf, mkTup, mkLst, lenD, bLen, bInt, bAbs, bList, bTuple, isLs, isSt, mAppend, mExtend, mPop, mInsert, mReverse, mClear, itRng, itRng2, itEnum, itZip, seqOf,
      List.getElem?_cons_zero, List.getElem?_cons_succ, List.set_cons_zero, List.set_cons_succ, List.length_cons, List.length_nil, List.map_cons, List.map_nil, List.cons_append, List.nil_append, List.replicate_succ, List.replicate_zero, List.take_succ_cons, List.take_zero, List.take_nil, List.drop_succ_cons, List.drop_zero, List.drop_nil, List.getD_cons_zero, List.getD_cons_succ, List.append_nil, List.singleton_append,
      Option.isSome_some, Option.isSome_none, Option.map_some, Option.map_none, Option.bind_some, List.all_cons, List.all_nil, List.nodup_cons, List.not_mem_nil, List.mem_cons, List.nodup_nil,
      if_true, if_false, ite_true, ite_false, and_true, true_and, or_true, true_or, and_false, false_and, or_false, false_or, not_false_eq_true, not_true_eq_false, Bool.and_true, Bool.true_and, Bool.and_false, Bool.false_and, Bool.not_true, Bool.not_false, reduceIte, Nat.add_zero, Nat.zero_add, Nat.reduceAdd, Nat.reduceSub, Nat.reduceLT, Nat.reduceLeDiff, Nat.reduceEqDiff, Int.reduceLT, Int.reduceLE, Int.reduceEq, Int.reduceNeg, Int.reduceNe, Int.reduceAdd, Int.reduceSub, Int.reduceMul, Nat.reduceMul, Int.reducePow, Int.reduceToNat, List.reduceReplicate, Nat.sub_self, beq_self_eq_true, decide_true, decide_false, Bool.false_eq_true, eq_self, beq_self_eq_true])
  | `(tactic| simp_arith [$ls,*]) => `(tactic| simp only [wE_ok, wE_no, wE_bind, wE_noex, wE_ite, wS_seq, wS_nx, wS_re, wS_bk, wS_ct, wS_no, wS_then, wS_ite, obl_bl, oint_int, w_seq, w_nil, w_set, w_drop, w_ret, w_retN, w_brk, w_cont, w_if, w_asg,
      eVar, w_c, w_op, w_eB, w_notT, w_andT, w_orT, w_eAnd, w_eOr, w_eNot, w_eNeg, w_eIf, w_chain, w_aNil, w_aCons, w_eVal, w_eFn, w_eMt, w_eTup, w_eLst, w_oNone, w_oSome, w_eSl, w_isN, w_notN, w_gN, w_gSb, w_gT, w_gNil, w_gCons, w_call, w_call0, w_callF, w_mkF, w_retD, w_retR, ipA, w_augS, w_itSeq,
      atI_0, atI_1, atI_2, atI_3, atI_4, atI_5, atI_6, ixN_0, ixN_1, ixN_2, ixN_3, ixN_4, ixN_5, ixN_6, eqD_int, eqD_bl, bIsi, tyName, kit_ii, kit_ib, kit_bb, kit_bi, kit_tt, kit_nt, kit_ll, kit_ss, kit_tl, kit_lt, kit_is, kit_bs, kit_ts, kit_ti, kit_tb, kit_si, kit_sb, kit_st, kit_sl, kit_dd, kit_td, kit_ld, kit_ls, kit_li, kit_lb, ite_and, dec_t, mulOk_r, mulOk_l, divOk_of, pow10_18, nab10, news_nil, news_none, news_d, news_r, kill, gcSl, gcRt, gcW, ixOf, roots, renum, pk, put, back, okRoots, vOf_d, vOf_r, w_yes, lkD_d, lkD_r, toD_lst, toD_d, toD_dk, toD_dt, lsOf, tpOf, W.isN,
      gAdd, gDif, gMul, gMod_int, gDiv_int, gPow_int, gEq, gNe, gLt, gLe, gGt, gGe, cmpI, gIx, gIxA, gAddI, bMax, bMin, setIx, valsOf, mkTup, mkLst, lenD, bLen, bInt, bAbs, bList, bTuple, isLs, isSt, mAppend, mExtend, mPop, mInsert, mReverse, mClear, itRng, itRng2, itEnum, itZip, seqOf,
      List.getElem?_cons_zero, List.getElem?_cons_succ, List.set_cons_zero, List.set_cons_succ, List.length_cons, List.length_nil, List.map_cons, List.map_nil, List.cons_append, List.nil_append, List.replicate_succ, List.replicate_zero, List.take_succ_cons, List.take_zero, List.take_nil, List.drop_succ_cons, List.drop_zero, List.drop_nil, List.getD_cons_zero, List.getD_cons_succ, List.append_nil, List.singleton_append,
      Option.isSome_some, Option.isSome_none, Option.map_some, Option.map_none, Option.bind_some, List.all_cons, List.all_nil, List.nodup_cons, List.not_mem_nil, List.mem_cons, List.nodup_nil,
      if_true, if_false, ite_true, ite_false, and_true, true_and, or_true, true_or, and_false, false_and, or_false, false_or, not_false_eq_true, not_true_eq_false, Bool.and_true, Bool.true_and, Bool.and_false, Bool.false_and, Bool.not_true, Bool.not_false, reduceIte, Nat.add_zero, Nat.zero_add, Nat.reduceAdd, Nat.reduceSub, Nat.reduceLT, Nat.reduceLeDiff, Nat.reduceEqDiff, Int.reduceLT, Int.reduceLE, Int.reduceEq, Int.reduceNeg, Int.reduceNe, Int.reduceAdd, Int.reduceSub, Int.reduceMul, Nat.reduceMul, Int.reducePow, Int.reduceToNat, List.reduceReplicate, Nat.sub_self, beq_self_eq_true, decide_true, decide_false, Bool.false_eq_true, eq_self, beq_self_eq_true, $ls,*])
  | `(tactic| simp_arith $l:location) => `(tactic| simp only [wE_ok, wE_no, wE_bind, wE_noex, wE_ite, wS_seq, wS_nx, wS_re, wS_bk, wS_ct, wS_no, wS_then, wS_ite, obl_bl, oint_int, w_seq, w_nil, w_set, w_drop, w_ret, w_retN, w_brk, w_cont, w_if, w_asg,
      eVar, w_c, w_op, w_eB, w_notT, w_andT, w_orT, w_eAnd, w_eOr, w_eNot, w_eNeg, w_eIf, w_chain, w_aNil, w_aCons, w_eVal, w_eFn, w_eMt, w_eTup, w_eLst, w_oNone, w_oSome, w_eSl, w_isN, w_notN, w_gN, w_gSb, w_gT, w_gNil, w_gCons, w_call, w_call0, w_callF, w_mkF, w_retD, w_retR, ipA, w_augS, w_itSeq,
      atI_0, atI_1, atI_2, atI_3, atI_4, atI_5, atI_6, ixN_0, ixN_1, ixN_2, ixN_3, ixN_4, ixN_5, ixN_6, eqD_int, eqD_bl, bIsi, tyName, kit_ii, kit_ib, kit_bb, kit_bi, kit_tt, kit_nt, kit_ll, kit_ss, kit_tl, kit_lt, kit_is, kit_bs, kit_ts, kit_ti, kit_tb, kit_si, kit_sb, kit_st, kit_sl, kit_dd, kit_td, kit_ld, kit_ls, kit_li, kit_lb, ite_and, dec_t, mulOk_r, mulOk_l, divOk_of, pow10_18, nab10, news_nil, news_none, news_d, news_r, kill, gcSl, gcRt, gcW, ixOf, roots, renum, pk, put, back, okRoots, vOf_d, vOf_r, w_yes, lkD_d, lkD_r, toD_lst, toD_d, toD_dk, toD_dt, lsOf, tpOf, W.isN,
      gAdd, gDif, gMul, gMod_int, gDiv_int, gPow_int, gEq, gNe, gLt, gLe, gGt, gGe, cmpI, gIx, gIxA, gAddI, bMax, bMin, setIx, valsOf, mkTup, mkLst, lenD, bLen, bInt, bAbs, bList, bTuple, isLs, isSt, mAppend, mExtend, mPop, mInsert, mReverse, mClear, itRng, itRng2, itEnum, itZip, seqOf,
      List.getElem?_cons_zero, List.getElem?_cons_succ, List.set_cons_zero, List.set_cons_succ, List.length_cons, List.length_nil, List.map_cons, List.map_nil, List.cons_append, List.nil_append, List.replicate_succ, List.replicate_zero, List.take_succ_cons, List.take_zero, List.take_nil, List.drop_succ_cons, List.drop_zero, List.drop_nil, List.getD_cons_zero, List.getD_cons_succ, List.append_nil, List.singleton_append,
      Option.isSome_some, Option.isSome_none, Option.map_some, Option.map_none, Option.bind_some, List.all_cons, List.all_nil, List.nodup_cons, List.not_mem_nil, List.mem_cons, List.nodup_nil,
      if_true, if_false, ite_true, ite_false, and_true, true_and, or_true, true_or, and_false, false_and, or_false, false_or, not_false_eq_true, not_true_eq_false, Bool.and_true, Bool.true_and, Bool.and_false, Bool.false_and, Bool.not_true, Bool.not_false, reduceIte, Nat.add_zero, Nat.zero_add, Nat.reduceAdd, Nat.reduceSub, Nat.reduceLT, Nat.reduceLeDiff, Nat.reduceEqDiff, Int.reduceLT, Int.reduceLE, Int.reduceEq, Int.reduceNeg, Int.reduceNe, Int.reduceAdd, Int.reduceSub, Int.reduceMul, Nat.reduceMul, Int.reducePow, Int.reduceToNat, List.reduceReplicate, Nat.sub_self, beq_self_eq_true, decide_true, decide_false, Bool.false_eq_true, eq_self, beq_self_eq_true] $l)
  | `(tactic| simp_arith [$ls,*] $l:location) => `(tactic| simp only [wE_ok, wE_no, wE_bind, wE_noex, wE_ite, wS_seq, wS_nx, wS_re, wS_bk, wS_ct, wS_no, wS_then, wS_ite, obl_bl, oint_int, w_seq, w_nil, w_set, w_drop, w_ret, w_retN, w_brk, w_cont, w_if, w_asg,
      eVar, w_c, w_op, w_eB, w_notT, w_andT, w_orT, w_eAnd, w_eOr, w_eNot, w_eNeg, w_eIf, w_chain, w_aNil, w_aCons, w_eVal, w_eFn, w_eMt, w_eTup, w_eLst, w_oNone, w_oSome, w_eSl, w_isN, w_notN, w_gN, w_gSb, w_gT, w_gNil, w_gCons, w_call, w_call0, w_callF, w_mkF, w_retD, w_retR, ipA, w_augS, w_itSeq,
      atI_0, atI_1, atI_2, atI_3, atI_4, atI_5, atI_6, ixN_0, ixN_1, ixN_2, ixN_3, ixN_4, ixN_5, ixN_6, eqD_int, eqD_bl, bIsi, tyName, kit_ii, kit_ib, kit_bb, kit_bi, kit_tt, kit_nt, kit_ll, kit_ss, kit_tl, kit_lt, kit_is, kit_bs, kit_ts, kit_ti, kit_tb, kit_si, kit_sb, kit_st, kit_sl, kit_dd, kit_td, kit_ld, kit_ls, kit_li, kit_lb, ite_and, dec_t, mulOk_r, mulOk_l, divOk_of, pow10_18, nab10, news_nil, news_none, news_d, news_r, kill, gcSl, gcRt, gcW, ixOf, roots, renum, pk, put, back, okRoots, vOf_d, vOf_r, w_yes, lkD_d, lkD_r, toD_lst, toD_d, toD_dk, toD_dt, lsOf, tpOf, W.isN,
      gAdd, gDif, gMul, gMod_int, gDiv_int, gPow_int, gEq, gNe, gLt, gLe, gGt, gGe, cmpI, gIx, gIxA, gAddI, bMax, bMin, setIx, valsOf, mkTup, mkLst, lenD, bLen, bInt, bAbs, bList, bTuple, isLs, isSt, mAppend, mExtend, mPop, mInsert, mReverse, mClear, itRng, itRng2, itEnum, itZip, seqOf,
      List.getElem?_cons_zero, List.getElem?_cons_succ, List.set_cons_zero, List.set_cons_succ, List.length_cons, List.length_nil, List.map_cons, List.map_nil, List.cons_append, List.nil_append, List.replicate_succ, List.replicate_zero, List.take_succ_cons, List.take_zero, List.take_nil, List.drop_succ_cons, List.drop_zero, List.drop_nil, List.getD_cons_zero, List.getD_cons_succ, List.append_nil, List.singleton_append,
      Option.isSome_some, Option.isSome_none, Option.map_some, Option.map_none, Option.bind_some, List.all_cons, List.all_nil, List.nodup_cons, List.not_mem_nil, List.mem_cons, List.nodup_nil,
      if_true, if_false, ite_true, ite_false, and_true, true_and, or_true, true_or, and_false, false_and, or_false, false_or, not_false_eq_true, not_true_eq_false, Bool.and_true, Bool.true_and, Bool.and_false, Bool.false_and, Bool.not_true, Bool.not_false, reduceIte, Nat.add_zero, Nat.zero_add, Nat.reduceAdd, Nat.reduceSub, Nat.reduceLT, Nat.reduceLeDiff, Nat.reduceEqDiff, Int.reduceLT, Int.reduceLE, Int.reduceEq, Int.reduceNeg, Int.reduceNe, Int.reduceAdd, Int.reduceSub, Int.reduceMul, Nat.reduceMul, Int.reducePow, Int.reduceToNat, List.reduceReplicate, Nat.sub_self, beq_self_eq_true, decide_true, decide_false, Bool.false_eq_true, eq_self, beq_self_eq_true, $ls,*] $l)




def IsBag (o : O) : Prop := ∃ (cells : List Int) (a : Nat) (b c d e : Int), o = .lst [.lst (cells.map D.int), .int a, .int b, .int c, .int d, .int e] ∧ 0 ≤ b 
theorem IsBag.mk {cells : List Int} {a b c d e : Int} (ha : 0 ≤ a) (hb : 0 ≤ b) : IsBag (.lst [.lst (cells.map D.int), .int a, .int b, .int c, .int d, .int e]) :=
  ⟨cells, a.toNat, b, c, d, e, by rw [Int.toNat_of_nonneg ha], hb⟩
theorem draw_ok {o : O} {many : Int} (h : IsBag o) (hd : divOk many = true) : wE (m__law_draw [.r 0, .d (.int many)] [o]) fun x rt => ∃ v o', x = .d (.int v) ∧ rt = [o'] ∧ IsBag o' ∧ 0 ≤ v ∧ v < many := by
  have hm := divOk_pos hd
  obtain ⟨cells, a, b, c, d, e, rfl, hb⟩ := h
  unfold m__law_draw b__law_draw
  rw [w_mkF]
  refine w_cut (fun sl rt => ∃ x o', sl = [some (.r 0), some (.d (.int many)), x, none, none, none, none] ∧ rt = [o'] ∧ IsBag o') ?_ ?_
  · simp_arith
    have stop : ∀ (e : Int), ∃ x o', ([some (W.r 0), some (W.d (D.int many)), none, none, none, none, none] : Sl) = [some (W.r 0), some (W.d (D.int many)), x, none, none, none, none] ∧
        [O.lst [D.lst (List.map D.int cells), D.int a, D.int b, D.int c, D.int d, D.int e]] = [o'] ∧ IsBag o' := fun e => ⟨none, _, rfl, rfl, IsBag.mk (by omega) hb⟩
    split
    · split
      · split
        · rename_i hlt
          rw [List.length_map] at hlt
          have hx : atI (List.map D.int cells) (a : Int) = some (.int (cells[a]'(by omega))) := by rw [atI_ofNat, List.getElem?_map, List.getElem?_eq_getElem (by omega)]; rfl
          generalize cells[a]'(by omega) = x at hx
          simp_arith [hx, kont]
          split
          · rename_i hx18
            exact ⟨_, _, rfl, rfl, IsBag.mk (by omega) (by omega)⟩
          · exact ⟨_, _, rfl, rfl, IsBag.mk (by omega) hb⟩
        · exact stop _
      · exact stop _
    · exact stop _
  · rintro _ _ ⟨x, o', rfl, rfl, cells, a, b, c, d, e, rfl, hb⟩
    refine w_cut (fun sl rt => ∃ x o', sl = [some (.r 0), some (.d (.int many)), x, none, none, none, none] ∧ rt = [o'] ∧ IsBag o') ?_ ?_
    · simp_arith
      split
      · simp_arith [kont]
        refine ⟨hm, hd, _, _, rfl, rfl, IsBag.mk (by omega) (Int.ediv_nonneg hb (by omega)), Int.emod_nonneg _ (by omega), Int.emod_lt_of_pos _ hm⟩
      · exact ⟨_, _, rfl, rfl, IsBag.mk (by omega) hb⟩
    · rintro _ _ ⟨x, o', rfl, rfl, cells, a, b, c, d, e, rfl, hb⟩
      refine w_cut (fun sl rt => ∃ x o', sl = [some (.r 0), some (.d (.int many)), x, none, none, none, none] ∧ rt = [o'] ∧ IsBag o') ?_ ?_
      · simp_arith
        exact ⟨_, _, rfl, rfl, IsBag.mk (by omega) hb⟩
      · rintro _ _ ⟨x, o', rfl, rfl, cells, a, b, c, d, e, rfl, hb⟩
        refine w_cut (fun sl rt => ∃ x o', sl = [some (.r 0), some (.d (.int many)), x, none, none, none, none] ∧ rt = [o'] ∧ IsBag o') ?_ ?_
        · simp_arith
          split
          · exact ⟨_, _, rfl, rfl, IsBag.mk (by omega) hb⟩
          · exact ⟨_, _, rfl, rfl, IsBag.mk (by omega) hb⟩
        · rintro _ _ ⟨x, o', rfl, rfl, cells, a, b, c, d, e, rfl, hb⟩
          refine w_cut (fun sl rt => ∃ f, sl = [some (.r 0), some (.d (.int many)), x, none, some (.d (.int f)), none, none] ∧ rt = [O.lst [D.lst (List.map D.int cells), D.int a, D.int b, D.int c, D.int d, D.int e]] ∧ 0 ≤ f ∧ f < 2147483647) ?_ ?_
          · simp_arith
            exact ⟨_, rfl, Int.emod_nonneg _ (by omega), Int.emod_lt_of_pos _ (by omega)⟩
          · rintro _ _ ⟨f, rfl, rfl, f0, f1⟩
            refine w_cut (fun sl rt => ∃ g, sl = [some (.r 0), some (.d (.int many)), x, none, some (.d (.int f)), some (.d (.int g)), none] ∧ rt = [O.lst [D.lst (List.map D.int cells), D.int a, D.int b, D.int c, D.int d, D.int e]] ∧ 0 ≤ g ∧ g < 2147483399) ?_ ?_
            · simp_arith
              exact ⟨mulOk_r (by omega) (by omega), _, rfl, Int.emod_nonneg _ (by omega), Int.emod_lt_of_pos _ (by omega)⟩
            · rintro _ _ ⟨g, rfl, rfl, g0, g1⟩
              refine w_cut (fun sl rt => ∃ h, sl = [some (.r 0), some (.d (.int many)), x, none, some (.d (.int f)), some (.d (.int g)), some (.d (.int h))] ∧ rt = [O.lst [D.lst (List.map D.int cells), D.int a, D.int b, D.int c, D.int d, D.int e]]) ?_ ?_
              · simp_arith
                exact ⟨mulOk_r (by omega) (by omega), _, rfl⟩
              · rintro _ _ ⟨h, rfl, rfl⟩
                simp_arith
                exact ⟨hm, _, _, rfl, rfl, IsBag.mk (by omega) hb, Int.emod_nonneg _ (by omega), Int.emod_lt_of_pos _ hm⟩






theorem atI_ints {ts : List Int} {a : Nat} (h : a < ts.length) : atI (ts.map D.int) (a : Int) = some (.int (ts.getD a 0)) := by
  rw [atI_ofNat, List.getElem?_map, List.getElem?_eq_getElem h, List.getD_eq_getElem?_getD, List.getElem?_eq_getElem h]; rfl
theorem bag_ok (ns : List Int) (hn : ns.length ≤ 63) : wE (m__law_bag [.d (.fz (ns.map D.int))] []) fun x rt => x = .r 0 ∧ ∃ o, rt = [o] ∧ IsBag o := by
  unfold m__law_bag b__law_bag
  rw [w_mkF]
  simp_arith
  refine w_comp (fun xs i r acc => ∃ cs : List Int, r = [] ∧ acc = cs.map D.int ∧ acc.length = i) ?_
  simp_arith
  refine ⟨⟨[], rfl⟩, ?_, ?_⟩
  · rintro i x r acc hx ⟨cs, rfl, rfl, hl⟩ _
    rw [List.getElem?_map] at hx
    obtain ⟨n, hn, rfl⟩ := Option.map_eq_some_iff.mp hx
    have hi := (List.getElem?_eq_some_iff.mp hn).1
    unfold b__law_bag_1
    simp_arith
    rw [List.length_map] at hl
    refine ⟨[], rfl, rfl, by rw [List.length_map]; omega, cs ++ [if n < 0 then -n else n], rfl, by rw [List.map_append]; rfl, by simp [hl]⟩
  · rintro r acc ⟨cs, rfl, rfl, hl⟩ _
    simp_arith
    exact ⟨_, rfl, IsBag.mk (a := 0) (by omega) (by omega)⟩
theorem gap_ok {o : O} (hb : IsBag o) : wE (m__law_gap [.r 0] [o]) fun x rt => ∃ v o', x = .d (.int v) ∧ rt = [o'] ∧ IsBag o' ∧ -1000000 ≤ v ∧ v ≤ 1000000 := by
  unfold m__law_gap b__law_gap
  rw [w_mkF]
  simp_arith
  (refine wE.imp (draw_ok hb (divOk_of (by omega) (by omega))) ?_; intro _ _ ⟨v, o1, ee1, ee2, h1, v0, v1⟩; subst ee1 ee2)
  simp_arith
  split
  · (refine wE.imp (draw_ok h1 (divOk_of (by omega) (by omega))) ?_; intro _ _ ⟨u, o2, ee1, ee2, h2, u0, u1⟩; subst ee1 ee2)
    simp_arith
    exact ⟨_, _, rfl, rfl, h2, by omega, by omega⟩
  · simp_arith [kont]
    (refine wE.imp (draw_ok h1 (divOk_of (by omega) (by omega))) ?_; intro _ _ ⟨u, o2, ee1, ee2, h2, u0, u1⟩; subst ee1 ee2)
    simp_arith
    exact ⟨_, _, rfl, rfl, h2, by omega, by omega⟩
theorem ends_ok {o : O} {n : Nat} (hb : IsBag o) (hn : 2 ≤ n) (hn2 : n < 1000000) : wE (m__law_ends [.r 0, .d (.int n)] [o]) fun x rt => ∃ (a b : Nat) (o' : O), x = .d (.tup [.int a, .int b]) ∧ rt = [o'] ∧ IsBag o' ∧ a < n ∧ b < n := by
  unfold m__law_ends b__law_ends
  rw [w_mkF]
  simp_arith
  (refine wE.imp (draw_ok hb (divOk_of (by omega) (by omega))) ?_; intro _ _ ⟨v, o1, ee1, ee2, h1, v0, v1⟩; subst ee1 ee2)
  simp_arith [kont]
  (refine wE.imp (draw_ok h1 (divOk_of (by omega) (by omega))) ?_; intro _ _ ⟨u, o2, ee1, ee2, h2, u0, u1⟩; subst ee1 ee2)
  simp_arith
  obtain ⟨a, rfl⟩ := Int.eq_ofNat_of_zero_le v0
  refine ⟨by omega, a, (((a : Int) + 1 + u) % n).toNat, ?_⟩
  have e := Int.emod_nonneg ((a : Int) + 1 + u) (show (n : Int) ≠ 0 by omega)
  have e2 := Int.emod_lt_of_pos ((a : Int) + 1 + u) (show (0 : Int) < n by omega)
  refine ⟨_, by rw [Int.toNat_of_nonneg e], rfl, h2, by omega, by omega⟩
theorem doubled_ok {o : O} {rows : List D} (hb : IsBag o) (hl : rows.length < 10000) : wE (m__law_doubled [.r 0, .r 1] [o, .lst rows]) fun x rt => ∃ (o' : O) (rows' : List D), x = .d (.tup rows') ∧ rt = [o', .lst rows'] ∧ IsBag o' ∧ (∀ y ∈ rows', y ∈ rows) ∧ rows'.length ≤ rows.length + 1 := by
  unfold m__law_doubled b__law_doubled
  rw [w_mkF]
  refine w_cut (fun sl rt => ∃ (o' : O) (rows' : List D), sl = [some (.r 0), some (.r 1)] ∧ rt = [o', .lst rows'] ∧ IsBag o' ∧ (∀ y ∈ rows', y ∈ rows) ∧ rows'.length ≤ rows.length + 1) ?_ ?_
  · simp_arith
    have stop : ∀ {o}, IsBag o → ∃ (o' : O) (rows' : List D), [o, O.lst rows] = [o', .lst rows'] ∧ IsBag o' ∧ (∀ y ∈ rows', y ∈ rows) ∧ rows'.length ≤ rows.length + 1 := fun h => ⟨_, _, rfl, h, fun _ h => h, by omega⟩
    split
    · split
      · (refine wE.imp (draw_ok hb (divOk_of (by omega) (by omega))) ?_; intro _ _ ⟨v, o1, ee1, ee2, h1, v0, v1⟩; subst ee1 ee2)
        simp_arith
        split
        · (refine wE.imp (draw_ok h1 (divOk_of (by omega) (by omega))) ?_; intro _ _ ⟨u, o2, ee1, ee2, h2, u0, u1⟩; subst ee1 ee2)
          obtain ⟨a, rfl⟩ := Int.eq_ofNat_of_zero_le u0
          have ha : a < rows.length := by omega
          simp_arith [atI_ofNat, List.getElem?_eq_getElem ha]
          refine ⟨by omega, _, _, rfl, h2, fun y hy => ?_, by simp⟩
          rcases List.mem_append.mp hy with hy | hy
          · exact hy
          · rw [List.mem_singleton.mp hy]; exact List.getElem_mem ha
        · exact stop h1
      · exact stop hb
    · exact stop hb
  · rintro _ _ ⟨o', rows', rfl, rfl, h1, h2, h3⟩
    simp_arith
    exact ⟨_, _, rfl, rfl, h1, h2, h3⟩
def bd (b : Nat × Nat × Int) : D := .tup [.int b.1, .int b.2.1, .int b.2.2]
def pd (b : Nat × Nat × Int × Int) : D := .tup [.int b.1, .int b.2.1, .int b.2.2.1, .int b.2.2.2]
structure IsSys (x : D) (c : Nat) (bs : List (Nat × Nat × Int)) (ps : List (Nat × Nat × Int × Int)) : Prop where
  eq : x = .tup [.int c, .tup (bs.map bd), .tup (ps.map pd)]
  b : ∀ y ∈ bs, y.1 < c ∧ y.2.1 < c
  p : ∀ y ∈ ps, y.1 < c ∧ y.2.1 < c ∧ 0 ≤ y.2.2.2 ∧ y.2.2.2 < 100
  c : c < 1000
  l : bs.length < 100000
theorem sub_map {α : Type} {f : α → D} {bs : List α} : ∀ {rows : List D}, (∀ y ∈ rows, y ∈ bs.map f) → ∃ bs2 : List α, rows = bs2.map f ∧ ∀ y ∈ bs2, y ∈ bs
  | [], _ => ⟨[], rfl, by simp⟩
  | z :: rows, h => by
    obtain ⟨bs2, h1, h2⟩ := sub_map fun y hy => h y (List.mem_cons_of_mem _ hy)
    obtain ⟨y, hy, e⟩ := List.mem_map.mp (h z (List.mem_cons_self ..))
    refine ⟨y :: bs2, by rw [List.map_cons, e, ← h1], fun w hw => ?_⟩
    rcases List.mem_cons.mp hw with rfl | hw
    · exact hy
    · exact h2 w hw
theorem pick4 {y : Int} (a b c d : Int) (y0 : 0 ≤ y) (y1 : y < 4) : ∃ z : Int, atI [D.int a, D.int b, D.int c, D.int d] y = some (.int z) ∧ (z = a ∨ z = b ∨ z = c ∨ z = d) := by
  have : y = 0 ∨ y = 1 ∨ y = 2 ∨ y = 3 := by omega
  rcases this with rfl | rfl | rfl | rfl
  · exact ⟨_, rfl, .inl rfl⟩
  · exact ⟨_, rfl, .inr (.inl rfl)⟩
  · exact ⟨_, rfl, .inr (.inr (.inl rfl))⟩
  · exact ⟨_, rfl, .inr (.inr (.inr rfl))⟩






theorem any_ok {o : O} {most : Nat} (hb : IsBag o) (hm : most < 100) : wE (m__law_any_system [.r 0, .d (.int most)] [o]) fun x rt => ∃ y o' c bs ps, x = .d y ∧ rt = [o'] ∧ IsBag o' ∧ IsSys y c bs ps := by
  unfold m__law_any_system b__law_any_system
  rw [w_mkF]
  simp_arith
  (refine wE.imp (draw_ok hb (divOk_of (by omega) (by omega))) ?_; intro _ _ ⟨v, o1, ee1, ee2, h1, v0, v1⟩; subst ee1 ee2)
  simp_arith
  refine w_cut (fun sl rt => ∃ (n : Nat) (o' : O), sl = [some (.r 0), some (.d (.int most)), some (.d (.int n)), none, none, none, none, none, none, none, none, none, none, none, none, none] ∧ rt = [o'] ∧ IsBag o' ∧ n < 1000) ?_ ?_
  · simp_arith
    (refine wE.imp (draw_ok h1 (divOk_of (by omega) (by omega))) ?_; intro _ _ ⟨u, o2, ee1, ee2, h2, u0, u1⟩; subst ee1 ee2)
    simp_arith
    split
    · (refine wE.imp (draw_ok h2 (divOk_of (by omega) (by omega))) ?_; intro _ _ ⟨y, o3, ee1, ee2, h3, y0, y1⟩; subst ee1 ee2)
      simp_arith
      obtain ⟨n, rfl⟩ := Int.eq_ofNat_of_zero_le y0
      exact ⟨n, _, rfl, rfl, h3, by omega⟩
    · obtain ⟨n, rfl⟩ := Int.eq_ofNat_of_zero_le v0
      refine ⟨2 + n, _, by push_cast; rfl, rfl, h2, by omega⟩
  · rintro _ _ ⟨n, o, rfl, rfl, hb, hn⟩
    simp_arith
    split
    · exact ⟨_, _, _, [], [], rfl, rfl, hb, rfl, (by simp), (by simp), hn, (by simp)⟩
    · rename_i hn2
      rw [kont, w_seq, w_set]
      simp_arith
      refine w_cut (fun sl rt => ∃ (r : Nat) (o' : O), sl = [some (.r 0), some (.d (.int most)), some (.d (.int n)), some (.d (.int r)), none, none, none, none, none, none, none, none, none, none, none, none] ∧ rt = [o'] ∧ IsBag o' ∧ 0 < r ∧ r < 3000) ?_ ?_
      · simp_arith
        (refine wE.imp (draw_ok hb (divOk_of (by omega) (by omega))) ?_; intro _ _ ⟨u, o2, ee1, ee2, h2, u0, u1⟩; subst ee1 ee2)
        simp_arith
        split
        · exact ⟨41, _, rfl, rfl, h2, by omega, by omega⟩
        · have : max 9 (2 * (n : Int)) = ((max 9 (2 * n) : Nat) : Int) := by omega
          exact ⟨max 9 (2 * n), _, by rw [this], rfl, h2, by omega, by omega⟩
      · rintro _ _ ⟨r, o, rfl, rfl, hb, hr, hr2⟩
        simp_arith
        (refine wE.imp (draw_ok hb (divOk_of (by omega) (by omega))) ?_; intro _ _ ⟨u, o2, ee1, ee2, h2, u0, u1⟩; subst ee1 ee2)
        simp_arith
        (rw [kont]; simp_arith)
        (refine wE.imp (draw_ok h2 (divOk_of (by omega) (by omega))) ?_; intro _ _ ⟨y, o3, ee1, ee2, h3, y0, y1⟩; subst ee1 ee2)
        simp_arith
        have hy : ∃ sg : Int, atI [D.int 1, D.int 1, D.int 1, D.int 50000] y = some (.int sg) ∧ 0 < sg ∧ sg ≤ 50000 := by
          have : y = 0 ∨ y = 1 ∨ y = 2 ∨ y = 3 := by omega
          rcases this with rfl | rfl | rfl | rfl
          · exact ⟨1, rfl, by omega, by omega⟩
          · exact ⟨1, rfl, by omega, by omega⟩
          · exact ⟨1, rfl, by omega, by omega⟩
          · exact ⟨50000, rfl, by omega, by omega⟩
        obtain ⟨sg, e, s0, s1⟩ := hy
        simp_arith [e]
        (rw [kont]; simp_arith)
        refine w_comp (fun xs i r acc => ∃ (hs : List Int) (o' : O), r = [o', O.lst [D.int 1, D.int 1, D.int 1, D.int 50000]] ∧ IsBag o' ∧ acc = hs.map D.int ∧ hs.length = i ∧ xs.length = n) ?_
        simp_arith
        refine ⟨by omega, ⟨[], _, rfl, h3, rfl, rfl, by simp [rangeD]⟩, ?_, ?_⟩
        · rintro i x r acc hx ⟨hs, o', rfl, hb, rfl, hl, hn⟩ _
          unfold b__law_any_system_1
          simp_arith
          (refine wE.imp (draw_ok hb (divOk_of (by omega) (by omega))) ?_; intro _ _ ⟨u, o2, ee1, ee2, h2, u0, u1⟩; subst ee1 ee2)
          simp_arith
          have hi := (List.getElem?_eq_some_iff.mp hx).1
          exact ⟨mulOk_r (by omega) (by omega), _, rfl, rfl, by rw [List.length_map]; omega, hs ++ [sg * u], _, rfl, h2, by simp, by simp [hl], hn⟩
        · rintro r acc ⟨hs, o', rfl, hb, rfl, hl, hn3⟩ _
          rw [hn3] at hl
          (rw [kont]; simp_arith)
          (rw [kont]; simp_arith)
          refine w_for (fun xs L i sl rt => ∃ (bs : List (Nat × Nat × Int)) (o' : O), sl = [some (W.r 0), some (W.d (D.int ↑most)), some (W.d (D.int ↑n)), some (W.d (D.int ↑r)), some (W.d (D.bl (decide (u = 0)))), some (W.d (D.int sg)), some (W.r 2), some (W.r 3), none, none, none, none, none, none, none, none] ∧
            rt = [o', O.lst [D.int 1, D.int 1, D.int 1, D.int 50000], O.lst (List.map D.int hs), O.lst (bs.map bd)] ∧ IsBag o' ∧ L = 4 ∧ (∀ y ∈ bs, y.1 < n ∧ y.2.1 < n) ∧ bs.length = i ∧ xs.length < 3000) ?_
          simp_arith
          (refine wE.imp (draw_ok hb (divOk_of (by omega) (by omega))) ?_; intro _ _ ⟨v2, o2, ee1, ee2, h2, v0, v1⟩; subst ee1 ee2)
          simp_arith
          refine ⟨by omega, ⟨[], _, rfl, h2, ?_⟩, ?_, ?_⟩
          · simp [rangeD]; omega
          · rintro i x sl rt hx ⟨bs, o', rfl, rfl, hb, hbs, hi, hxs⟩
            unfold b__law_any_system_2
            simp_arith
            refine wE.imp (ends_ok hb (by omega) (by omega)) ?_
            rintro _ _ ⟨a, b, o', rfl, rfl, hb, ha, hb2⟩
            simp_arith
            (rw [kont]; simp_arith)
            refine wE.imp (gap_ok hb) ?_
            rintro _ _ ⟨g, o', rfl, rfl, hb, g0, g1⟩
            simp_arith
            (rw [kont]; simp_arith)
            (refine wE.imp (draw_ok hb (divOk_of (by omega) (by omega))) ?_; intro _ _ ⟨v3, o3, ee1, ee2, h3, v30, v31⟩; subst ee1 ee2)
            obtain ⟨ls, e, _⟩ := pick4 0 0 1 (if g < 0 then -g else g) v30 v31
            simp_arith [e]
            have at6 : ∀ k : Nat, k < n → atI (hs.map D.int) (k : Int) = some (.int (hs.getD k 0)) := fun k hk => atI_ints (by omega)
            refine w_cut (fun sl rt => ∃ (g : Int) (gb : O), sl = [some (W.r 0), some (W.d (D.int ↑most)), some (W.d (D.int ↑n)), some (W.d (D.int ↑r)), some (W.d (D.bl (decide (u = 0)))), some (W.d (D.int sg)), some (W.r 2), some (W.r 3), some (.d x), some (.d (.tup [.int a, .int b])), some (.d (.int g)), some (.d (.int ls)), none, none, none, none] ∧
              rt = [o3, O.lst [D.int 1, D.int 1, D.int 1, D.int 50000], O.lst (List.map D.int hs), O.lst (bs.map bd), gb]) ?_ ?_
            · simp_arith
              split
              · simp_arith [at6 a ha, at6 b hb2]
                exact ⟨_, _, rfl, rfl⟩
              · exact ⟨_, _, rfl, rfl⟩
            · rintro _ _ ⟨g, gb, rfl, rfl⟩
              have hi2 := (List.getElem?_eq_some_iff.mp hx).1
              simp_arith
              refine ⟨by rw [List.length_map]; omega, bs ++ [(a, b, g)], o3, by rw [List.map_append]; rfl, h3, ?_, by simp [hi], hxs⟩
              intro y hy
              rcases List.mem_append.mp hy with hy | hy
              · exact hbs y hy
              · rw [List.mem_singleton.mp hy]; exact ⟨ha, hb2⟩
          · rintro sl rt ⟨bs, o', rfl, rfl, hb, hbs, hi, hxs⟩
            (rw [kont]; simp_arith)
            (rw [kont]; simp_arith)
            refine wE.imp (doubled_ok hb (by rw [List.length_map]; omega)) ?_
            rintro _ _ ⟨o', rows, rfl, rfl, hb, hrows, hbl⟩
            obtain ⟨bs2, rfl, hb2⟩ := sub_map hrows
            simp_arith
            rw [kont]
            refine w_cut (fun sl rt => ∃ (ps : List (Nat × Nat × Int × Int)) (o' : O), sl = [some (W.r 0), some (W.d (D.int ↑most)), some (W.d (D.int ↑n)), some (W.d (D.int ↑r)), some (W.d (D.bl (decide (u = 0)))), some (W.d (D.int sg)), some (W.r 2), some (W.r 3), none, none, none, none, some (W.r 4), some (W.d (D.tup (List.map bd bs2))), none, none] ∧
              rt = [o', O.lst [D.int 1, D.int 1, D.int 1, D.int 50000], O.lst (List.map D.int hs), O.lst (List.map bd bs2), O.lst (List.map pd ps)] ∧ IsBag o' ∧ (∀ y ∈ ps, y.1 < n ∧ y.2.1 < n ∧ 0 ≤ y.2.2.2 ∧ y.2.2.2 < 100) ∧ ps.length < 3000) ?_ ?_
            · refine w_for (fun xs L i sl rt => ∃ (ps : List (Nat × Nat × Int × Int)) (o' : O), sl = [some (W.r 0), some (W.d (D.int ↑most)), some (W.d (D.int ↑n)), some (W.d (D.int ↑r)), some (W.d (D.bl (decide (u = 0)))), some (W.d (D.int sg)), some (W.r 2), some (W.r 3), none, none, none, none, some (W.r 4), some (W.d (D.tup (List.map bd bs2))), none, none] ∧
                rt = [o', O.lst [D.int 1, D.int 1, D.int 1, D.int 50000], O.lst (List.map D.int hs), O.lst (List.map bd bs2), O.lst (List.map pd ps)] ∧ IsBag o' ∧ L = 5 ∧ (∀ y ∈ ps, y.1 < n ∧ y.2.1 < n ∧ 0 ≤ y.2.2.2 ∧ y.2.2.2 < 100) ∧ ps.length = i ∧ xs.length < 3000) ?_
              simp_arith
              (refine wE.imp (draw_ok hb (divOk_of (by omega) (by omega))) ?_; intro _ _ ⟨v2, o2, ee1, ee2, h2, v0, v1⟩; subst ee1 ee2)
              simp_arith
              refine ⟨by omega, ⟨[], _, rfl, h2, ?_⟩, ?_, ?_⟩
              · simp [rangeD]; omega
              · rintro i x sl rt hx ⟨ps, o', rfl, rfl, hb, hps, hi, hxs⟩
                unfold b__law_any_system_3
                simp_arith
                refine wE.imp (ends_ok hb (by omega) (by omega)) ?_
                rintro _ _ ⟨a, b, o', rfl, rfl, hb, ha, hb2⟩
                simp_arith
                (rw [kont]; simp_arith)
                refine wE.imp (gap_ok hb) ?_
                rintro _ _ ⟨g, o', rfl, rfl, hb, g0, g1⟩
                simp_arith
                (rw [kont]; simp_arith)
                (refine wE.imp (draw_ok hb (divOk_of (by omega) (by omega))) ?_; intro _ _ ⟨v4, o4, ee1, ee2, h4, v40, v41⟩; subst ee1 ee2)
                simp_arith
                (refine wE.imp (draw_ok h4 (divOk_of (by omega) (by omega))) ?_; intro _ _ ⟨v3, o3, ee1, ee2, h3, v30, v31⟩; subst ee1 ee2)
                obtain ⟨ls, e, hls⟩ := pick4 0 1 2 v4 v30 v31
                simp_arith [e]
                (rw [kont]; simp_arith)
                have hi2 := (List.getElem?_eq_some_iff.mp hx).1
                refine ⟨by rw [List.length_map]; omega, ps ++ [(a, b, g, ls)], o3, by rw [List.map_append]; rfl, h3, ?_, by simp [hi], hxs⟩
                intro y hy
                rcases List.mem_append.mp hy with hy | hy
                · exact hps y hy
                · rw [List.mem_singleton.mp hy]; exact ⟨ha, hb2, show 0 ≤ ls by omega, show ls < 100 by omega⟩
              · rintro sl rt ⟨ps, o', rfl, rfl, hb, hps, hi, hxs⟩
                exact ⟨ps, o', rfl, rfl, hb, hps, by omega⟩
            · rintro _ _ ⟨ps, o', rfl, rfl, hb, hps, hxs⟩
              simp_arith
              refine wE.imp (doubled_ok hb (by rw [List.length_map]; omega)) ?_
              rintro _ _ ⟨o', rows, rfl, rfl, hb, hrows, _⟩
              obtain ⟨ps2, rfl, hp2⟩ := sub_map hrows
              simp_arith
              exact ⟨_, _, n, bs2, ps2, rfl, rfl, hb, rfl, fun y hy => hbs y (hb2 y hy), fun y hy => hps y (hp2 y hy), hn, by rw [List.length_map, List.length_map] at hbl; omega⟩






theorem flat_rep {n : Nat} : (List.replicate n [D.int 0]).flatten = (List.replicate n (0 : Int)).map D.int := by
  induction n with
  | zero => rfl
  | succ n ih => rw [List.replicate_succ, List.flatten_cons, ih, List.replicate_succ, List.map_cons]; rfl
theorem at_set {ts : List Int} {a : Nat} {z : Int} : (ts.map D.int).set a (.int z) = (ts.set a z).map D.int := by rw [List.map_set]
theorem mem_at {α : Type} {f : α → D} {xs : List α} {i : Nat} {x : D} (h : (xs.map f)[i]? = some x) : ∃ y, xs[i]? = some y ∧ y ∈ xs ∧ x = f y := by
  rw [List.getElem?_map] at h
  obtain ⟨y, h1, h2⟩ := Option.map_eq_some_iff.mp h
  exact ⟨y, h1, List.mem_of_getElem? h1, h2.symm⟩
theorem bd_mk {a b : Nat} {g : Int} : bd (a, b, g) = .tup [.int a, .int b, .int g] := rfl
theorem pd_mk {a b : Nat} {g h : Int} : pd (a, b, g, h) = .tup [.int a, .int b, .int g, .int h] := rfl
theorem climbed_ok {y : D} {c : Nat} {bs : List (Nat × Nat × Int)} {ps : List (Nat × Nat × Int × Int)} (hy : IsSys y c bs ps) {ts : List Int} (ht : ts.length = c) :
    wE (m__law_climbed [.d y, .d (.lst (ts.map D.int))] []) fun x rt => rt = [] ∧ (x = .d .non ∨ ∃ us : List Int, x = .d (.tup (us.map D.int)) ∧ us.length = c) := by
  have hb := hy.b
  have hp := hy.p
  have hc := hy.c
  rw [hy.eq]
  clear hy
  unfold m__law_climbed b__law_climbed
  simp only [w_mkF]
  simp_arith
  (rw [kont]; simp_arith)
  refine w_for (fun xs L i sl rt => ∃ us : List Int, sl = [some (W.d (D.tup [D.int ↑c, D.tup (List.map bd bs), D.tup (List.map pd ps)])), some (W.d (D.lst (List.map D.int ts))), some (W.r 0), none, none, none] ∧ rt = [.lst (us.map D.int)] ∧ us.length = c ∧ L = 1) ?_
  simp_arith
  refine ⟨by omega, ⟨ts, rfl, ht⟩, ?_, ?_⟩
  · rintro i x sl rt hx ⟨us, rfl, rfl, hu⟩
    unfold b__law_climbed_2
    simp_arith
    rw [kont]
    refine w_cut (fun sl rt => ∃ (us : List Int) (b : Bool), sl = [some (W.d (D.tup [D.int ↑c, D.tup (List.map bd bs), D.tup (List.map pd ps)])), some (W.d (D.lst (List.map D.int ts))), some (W.r 0), some (.d x), some (.d (.bl b)), none] ∧ rt = [.lst (us.map D.int)] ∧ us.length = c) ?_ ?_
    · refine w_for (fun xs L i sl rt => ∃ (us : List Int) (b : Bool), sl = [some (W.d (D.tup [D.int ↑c, D.tup (List.map bd bs), D.tup (List.map pd ps)])), some (W.d (D.lst (List.map D.int ts))), some (W.r 0), some (.d x), some (.d (.bl b)), none] ∧ rt = [.lst (us.map D.int)] ∧ us.length = c ∧ L = 1) ?_
      simp_arith
      refine ⟨⟨us, false, rfl, rfl, hu⟩, ?_, ?_⟩
      · rintro i z sl rt hz ⟨us, b, rfl, rfl, hu⟩
        obtain ⟨⟨p, q, g⟩, h1, h2, rfl⟩ := mem_at hz
        obtain ⟨hp1, hq1⟩ := hb _ h2
        simp only at hp1 hq1
        unfold b__law_climbed_1
        simp_arith [bd_mk, atI_ints (show p < us.length by omega), atI_ints (show q < us.length by omega), ixN_nat (show q < (us.map D.int).length by rw [List.length_map]; omega), List.length_map]
        split
        · simp_arith [ixN_nat (show q < us.length by omega), at_set]
          exact ⟨us.set q (us.getD p 0 + g), true, rfl, rfl, by rw [List.length_set]; exact hu⟩
        · exact ⟨us, b, rfl, rfl, hu⟩
      · rintro sl rt ⟨us, b, rfl, rfl, hu⟩
        exact ⟨us, b, rfl, rfl, hu⟩
    · rintro _ _ ⟨us, b, rfl, rfl, hu⟩
      simp_arith
      cases b with
      | true =>
        simp_arith
        exact ⟨us, rfl, hu⟩
      | false =>
        simp_arith
        exact .inr ⟨us, rfl, hu⟩
  · rintro sl rt ⟨us, rfl, rfl, hu⟩
    (rw [kont]; simp_arith)
theorem signed_ok {o : O} {many : Int} (hb : IsBag o) (hd : divOk many = true) : wE (m__law_signed [.r 0, .d (.int many)] [o]) fun x rt => ∃ v o', x = .d (.int v) ∧ rt = [o'] ∧ IsBag o' := by
  unfold m__law_signed b__law_signed
  simp only [w_mkF]
  simp_arith
  refine wE.imp (draw_ok hb hd) ?_
  rintro _ _ ⟨v, o', rfl, rfl, hb, _, _⟩
  simp_arith
  (rw [kont]; simp_arith)
  (refine wE.imp (draw_ok hb (divOk_of (by omega) (by omega))) ?_; intro _ _ ⟨u, o2, ee1, ee2, h2, u0, u1⟩; subst ee1 ee2)
  simp_arith
  split
  · exact ⟨_, _, rfl, rfl, h2⟩
  · (rw [kont]; simp_arith)
    exact ⟨_, _, rfl, rfl, h2⟩
theorem zeros_ok {n : Nat} : (List.replicate (n : Int).toNat [D.int 0]).flatten = (List.replicate n (0 : Int)).map D.int := by
  rw [Int.toNat_natCast, flat_rep]
theorem tall_ok {o : O} {y : D} {c : Nat} {bs : List (Nat × Nat × Int)} {ps : List (Nat × Nat × Int × Int)} (hb : IsBag o) (hy : IsSys y c bs ps) :
    wE (m__law_tall [.r 0, .d y] [o]) fun x rt => ∃ (o' : O) (ts : List Int), x = .r 1 ∧ rt = [o', .lst (ts.map D.int)] ∧ IsBag o' ∧ ts.length = c := by
  have hc := hy.c
  have hs := hy
  have e := hy.eq
  clear hy
  subst e
  unfold m__law_tall b__law_tall
  simp only [w_mkF]
  simp_arith
  (refine wE.imp (draw_ok hb (divOk_of (by omega) (by omega))) ?_; intro _ _ ⟨way, o1, ee1, ee2, h1, w0, w1⟩; subst ee1 ee2)
  simp_arith
  (rw [kont]; simp_arith)
  split
  · simp_arith [zeros_ok]
    exact ⟨by omega, _, _, rfl, h1, by simp⟩
  · (rw [kont]; simp_arith)
    split
    · refine w_comp (fun xs i r acc => ∃ (ts : List Int) (o' : O), r = [o'] ∧ IsBag o' ∧ acc = ts.map D.int ∧ ts.length = i ∧ xs.length = c) ?_
      simp_arith
      refine ⟨by omega, ⟨[], _, rfl, h1, rfl, rfl, by simp [rangeD]⟩, ?_, ?_⟩
      · rintro i x r acc hx ⟨ts, o', rfl, hb, rfl, hl, hn⟩ _
        have hi := (List.getElem?_eq_some_iff.mp hx).1
        unfold b__law_tall_1
        simp_arith
        refine wE.imp (signed_ok hb (divOk_of (by omega) (by omega))) ?_
        rintro _ _ ⟨v, o', rfl, rfl, hb⟩
        simp_arith
        exact ⟨_, rfl, rfl, by rw [List.length_map]; omega, ts ++ [v], _, rfl, hb, by simp, by simp [hl], hn⟩
      · rintro r acc ⟨ts, o', rfl, hb, rfl, hl, hn⟩ _
        simp_arith
        exact ⟨o', ts, rfl, hb, by omega⟩
    · (rw [kont]; simp_arith)
      split
      · refine w_comp (fun xs i r acc => ∃ (ts : List Int) (o' : O), r = [o'] ∧ IsBag o' ∧ acc = ts.map D.int ∧ ts.length = i ∧ xs.length = c) ?_
        simp_arith
        refine ⟨by omega, ⟨[], _, rfl, h1, rfl, rfl, by simp [rangeD]⟩, ?_, ?_⟩
        · rintro i x r acc hx ⟨ts, o', rfl, hb, rfl, hl, hn⟩ _
          have hi := (List.getElem?_eq_some_iff.mp hx).1
          unfold b__law_tall_2
          simp_arith [show ((10:Int) ^ Int.toNat 40) = 10000000000000000000000000000000000000000 from rfl]
          refine wE.imp (signed_ok hb (by decide)) ?_
          rintro _ _ ⟨v, o', rfl, rfl, hb⟩
          simp_arith
          exact ⟨_, rfl, rfl, by rw [List.length_map]; omega, ts ++ [v], _, rfl, hb, by simp, by simp [hl], hn⟩
        · rintro r acc ⟨ts, o', rfl, hb, rfl, hl, hn⟩ _
          simp_arith
          exact ⟨o', ts, rfl, hb, by omega⟩
      · rw [kont, w_seq, w_set]
        simp_arith [zeros_ok]
        refine ⟨by omega, ?_⟩
        refine wE.imp (climbed_ok hs (by simp)) ?_
        rintro _ _ ⟨rfl, hx⟩
        refine w_cut (fun sl rt => ∃ us : List Int, c ≠ 0 ∧ us.length = c ∧ sl = [some (W.r 0), some (W.d (D.tup [D.int ↑c, D.tup (List.map bd bs), D.tup (List.map pd ps)])), some (W.d (D.int way)), some (.d (.tup (us.map D.int))), none, none, none, none, none] ∧ rt = [o1, O.lst [D.int 0], O.d (D.lst (List.map D.int (List.replicate c 0)))]) ?_ ?_
        · have hx2 : ∀ P : W → Prop, (∀ z, (z = .d .non ∨ ∃ us : List Int, z = .d (.tup (us.map D.int)) ∧ us.length = c) → P z) → P _ := fun P h => h _ hx
          have done : ∀ (q : Option W), wE (eComp [6] (itRng (aCons (eOp gIx (eVar 1) (eC (D.int 0))) aNil)) (gN 6) eYes b__law_tall_3 [some (W.r 0), some (W.d (D.tup [D.int ↑c, D.tup (List.map bd bs), D.tup (List.map pd ps)])), some (W.d (D.int way)), q, none, none, none, none, none] [o1, O.lst [D.int 0], O.d (D.lst (List.map D.int (List.replicate c 0)))])
              fun x rt => wE (ret 1 x rt) fun x rt => ∃ (o' : O) (ts : List Int), x = W.r 1 ∧ rt = [o', O.lst (List.map D.int ts)] ∧ IsBag o' ∧ ts.length = c := by
            intro q
            refine w_comp (fun xs i r acc => ∃ (ts : List Int) (o' : O), r = [o', O.lst [D.int 0], O.d (D.lst (List.map D.int (List.replicate c 0)))] ∧ IsBag o' ∧ acc = ts.map D.int ∧ ts.length = i ∧ xs.length = c) ?_
            simp_arith
            refine ⟨by omega, ⟨[], _, rfl, h1, rfl, rfl, by simp [rangeD]⟩, ?_, ?_⟩
            · rintro i x r acc hx ⟨ts, o', rfl, hb, rfl, hl, hn⟩ _
              have hi := (List.getElem?_eq_some_iff.mp hx).1
              unfold b__law_tall_3
              simp_arith
              (refine wE.imp (draw_ok hb (divOk_of (by omega) (by omega))) ?_; intro _ _ ⟨v, o2, ee1, ee2, hb, v0, v1⟩; subst ee1 ee2)
              simp_arith
              exact ⟨_, rfl, rfl, by rw [List.length_map]; omega, ts ++ [v - 3], _, rfl, hb, by simp, by simp [hl], hn⟩
            · rintro r acc ⟨ts, o', rfl, hb, rfl, hl, hn⟩ _
              simp_arith
              exact ⟨o', ts, rfl, hb, by omega⟩
          rcases hx with rfl | ⟨us, rfl, hu⟩
          · simp_arith
            split
            · exact done _
            · exact done _
          · simp_arith
            split
            · exact done _
            · split
              · exact done _
              · rename_i hc0
                exact ⟨us, by omega, hu, rfl⟩
        · rintro _ _ ⟨us, hc0, hu, rfl, rfl⟩
          simp_arith
          (rw [kont]; simp_arith)
          (refine wE.imp (draw_ok h1 (divOk_of (by omega) (by omega))) ?_; intro _ _ ⟨v, o2, ee1, ee2, h2, v0, v1⟩; subst ee1 ee2)
          simp_arith
          (rw [kont]; simp_arith)
          (refine wE.imp (draw_ok h2 (divOk_of (by omega) (by omega))) ?_; intro _ _ ⟨u, o3, ee1, ee2, h3, u0, u1⟩; subst ee1 ee2)
          simp_arith
          obtain ⟨a, rfl⟩ := Int.eq_ofNat_of_zero_le u0
          refine w_cut (fun sl rt => ∃ (vs : List Int), vs.length = c ∧ sl = [some (W.r 0), some (W.d (D.tup [D.int ↑c, D.tup (List.map bd bs), D.tup (List.map pd ps)])), some (W.d (D.int way)), some (.d (.tup (us.map D.int))), some (.r 3), some (.d (.int v)), some (.d (.int a)), none, none] ∧ rt = [o3, O.lst [D.int 0], O.d (D.lst (List.map D.int (List.replicate c 0))), .lst (vs.map D.int)]) ?_ ?_
          · simp_arith
            split
            · simp_arith [atI_ints (show a < us.length by omega), List.length_map, ixN_nat (show a < us.length by omega), at_set]
              exact ⟨us.set a (us.getD a 0 - 1), by rw [List.length_set]; exact hu, rfl⟩
            · exact ⟨us, hu, rfl⟩
          · rintro _ _ ⟨vs, hv, rfl, rfl⟩
            refine w_cut (fun sl rt => ∃ (vs : List Int), vs.length = c ∧ sl = [some (W.r 0), some (W.d (D.tup [D.int ↑c, D.tup (List.map bd bs), D.tup (List.map pd ps)])), some (W.d (D.int way)), some (.d (.tup (us.map D.int))), some (.r 3), some (.d (.int v)), some (.d (.int a)), none, none] ∧ rt = [o3, O.lst [D.int 0], O.d (D.lst (List.map D.int (List.replicate c 0))), .lst (vs.map D.int)]) ?_ ?_
            · simp_arith
              split
              · simp_arith [atI_ints (show a < vs.length by omega), List.length_map, ixN_nat (show a < vs.length by omega), at_set]
                exact ⟨vs.set a (vs.getD a 0 + 1), by rw [List.length_set]; exact hv, rfl⟩
              · exact ⟨vs, hv, rfl⟩
            · rintro _ _ ⟨vs, hv, rfl, rfl⟩
              simp_arith
              split
              · (refine wE.imp (draw_ok h3 (divOk_of (by omega) (by omega))) ?_; intro _ _ ⟨u2, o4, ee1, ee2, h4, u20, u21⟩; subst ee1 ee2)
                simp_arith
                (rw [kont]; simp_arith)
                refine w_comp (fun xs i r acc => ∃ (ts : List Int), r = [o4, O.lst [D.int 0], O.d (D.lst (List.map D.int (List.replicate c 0))), .d (.lst (vs.map D.int))] ∧ acc = ts.map D.int ∧ ts.length = i ∧ xs = vs.map D.int) ?_
                simp_arith
                refine ⟨⟨[], rfl, rfl⟩, ?_, ?_⟩
                · rintro i x r acc hx ⟨ts, rfl, rfl, hl⟩ _
                  obtain ⟨y, _, _, rfl⟩ := mem_at hx
                  have hi := (List.getElem?_eq_some_iff.mp hx).1
                  rw [List.length_map] at hi
                  unfold b__law_tall_4
                  simp_arith
                  exact ⟨_, rfl, rfl, by rw [List.length_map]; omega, ts ++ [y + (u2 - 1000000)], rfl, by simp, by simp [hl]⟩
                · rintro r acc ⟨ts, rfl, rfl, hl⟩ _
                  (rw [kont]; simp_arith)
                  exact ⟨o4, ts, rfl, h4, by rw [List.length_map] at hl; omega⟩
              · (rw [kont]; simp_arith)
                exact ⟨o3, vs, rfl, h3, hv⟩
theorem beside_ok {o : O} {ts : List Int} (hb : IsBag o) (hl : ts.length < 1000) :
    wE (m__law_beside [.r 0, .d (.lst (ts.map D.int))] [o]) fun x rt => ∃ (o' : O) (us : List Int), x = .r 1 ∧ rt = [o', .lst (us.map D.int)] ∧ IsBag o' ∧ us.length = ts.length := by
  unfold m__law_beside b__law_beside
  simp only [w_mkF]
  simp_arith
  refine w_cut (fun sl rt => ∃ (o' : O) (us : List Int) (q : Option W), sl = [some (.r 0), some (.d (.lst (ts.map D.int))), some (.r 1), q] ∧ rt = [o', .lst (us.map D.int)] ∧ IsBag o' ∧ us.length = ts.length) ?_ ?_
  · simp_arith
    split
    · have hlm : (ts.map D.int).length = ts.length := List.length_map ..
      (refine wE.imp (draw_ok hb (divOk_of (by omega) (by omega))) ?_; intro _ _ ⟨v, o1, ee1, ee2, h1, v0, v1⟩; subst ee1 ee2)
      rw [List.length_map] at v1
      obtain ⟨a, rfl⟩ := Int.eq_ofNat_of_zero_le v0
      simp_arith
      rw [kont, w_if]
      simp_arith [atI_ints (show a < ts.length by omega), List.length_map, ixN_nat (show a < ts.length by omega), at_set]
      split
      · exact ⟨o1, ts.set a (ts.getD a 0 - 1), _, rfl, rfl, h1, by rw [List.length_set]⟩
      · exact ⟨o1, ts.set a (ts.getD a 0 + 1), _, rfl, rfl, h1, by rw [List.length_set]⟩
    · exact ⟨o, ts, _, rfl, rfl, hb, rfl⟩
  · rintro _ _ ⟨o', us, q, rfl, rfl, hb, hu⟩
    simp_arith
    exact ⟨_, _, rfl, hb, hu⟩






theorem keeps_ok {y : D} {c : Nat} {bs : List (Nat × Nat × Int)} {ps : List (Nat × Nat × Int × Int)} (hy : IsSys y c bs ps) {ts : List Int} (ht : ts.length = c) :
    wE (m_keeps [.d y, .d (.tup (ts.map D.int))] []) fun x rt => x = .d (.bl (bs.all fun b => decide (ts.getD b.1 0 + b.2.2 ≤ ts.getD b.2.1 0))) ∧ rt = [] := by
  have hb := hy.b
  have e := hy.eq
  clear hy
  subst e
  unfold m_keeps b_keeps
  simp only [w_mkF]
  simp_arith
  refine w_for (fun xs L i sl rt => sl = [some (W.d (D.tup [D.int ↑c, D.tup (List.map bd bs), D.tup (List.map pd ps)])), some (.d (.tup (ts.map D.int))), none, none, none] ∧ rt = [] ∧ L = 0 ∧ xs = bs.map bd ∧ ∀ j b, j < i → bs[j]? = some b → ts.getD b.1 0 + b.2.2 ≤ ts.getD b.2.1 0) ?_
  simp_arith
  refine ⟨fun j b h => absurd h (Nat.not_lt_zero _), ?_, ?_⟩
  · rintro i z sl rt hz ⟨rfl, rfl, hi⟩
    obtain ⟨⟨p, q, g⟩, h1, h2, rfl⟩ := mem_at hz
    obtain ⟨hp1, hq1⟩ := hb _ h2
    simp only at hp1 hq1
    unfold b_keeps_1
    simp_arith [bd_mk, atI_ints (show p < ts.length by omega), atI_ints (show q < ts.length by omega)]
    split
    · rename_i hlt
      have e : (bs.all fun b => decide (ts.getD b.1 0 + b.2.2 ≤ ts.getD b.2.1 0)) = false := List.all_eq_false.mpr ⟨_, h2, fun h => by have := of_decide_eq_true h; simp only at this; omega⟩
      rw [e]
    · rename_i hlt
      intro j b hj hb2
      by_cases hji : j = i
      · subst hji
        rw [h1] at hb2
        cases hb2
        simp only
        omega
      · exact hi j b (by omega) hb2
  · rintro sl rt ⟨rfl, rfl, hi⟩
    (rw [kont]; simp_arith)
    have e : (bs.all fun b => decide (ts.getD b.1 0 + b.2.2 ≤ ts.getD b.2.1 0)) = true := by
      rw [List.all_eq_true]
      intro b hb
      obtain ⟨j, hj, rfl⟩ := List.getElem_of_mem hb
      exact decide_eq_true (hi j _ (by simpa using hj) (List.getElem?_eq_getElem hj))
    rw [e]
theorem sum_take {α : Type} {f : α → Int} {xs : List α} {i : Nat} {x : α} (h : xs[i]? = some x) : ((xs.take (i + 1)).map f).sum = ((xs.take i).map f).sum + f x := by
  rw [List.take_succ, h, List.map_append, List.sum_append]
  simp
def ab (x : Int) : Int := if x < 0 then -x else x
def fc (ts : List Int) (p : Nat × Nat × Int × Int) : Int := p.2.2.2 * ab (ts.getD p.2.1 0 - ts.getD p.1 0 - p.2.2.1)
theorem cost_ok {y : D} {c : Nat} {bs : List (Nat × Nat × Int)} {ps : List (Nat × Nat × Int × Int)} (hy : IsSys y c bs ps) {ts : List Int} (ht : ts.length = c) :
    wE (m_cost [.d y, .d (.tup (ts.map D.int))] []) fun x rt => x = .d (.int ((ps.map (fc ts)).sum)) ∧ rt = [] := by
  have hp := hy.p
  have e := hy.eq
  clear hy
  subst e
  unfold m_cost b_cost
  simp only [w_mkF]
  simp_arith
  (rw [kont]; simp_arith)
  refine w_for (fun xs L i sl rt => sl = [some (W.d (D.tup [D.int ↑c, D.tup (List.map bd bs), D.tup (List.map pd ps)])), some (.d (.tup (ts.map D.int))), some (.d (.int (((ps.take i).map (fc ts)).sum))), none, none, none, none] ∧ rt = [] ∧ L = 0 ∧ xs = ps.map pd) ?_
  simp_arith
  refine ⟨rfl, ?_, ?_⟩
  · rintro i z sl rt hz ⟨rfl, rfl⟩
    obtain ⟨⟨p, q, g, h⟩, h1, h2, rfl⟩ := mem_at hz
    obtain ⟨hp1, hq1, h0, hh⟩ := hp _ h2
    simp only at hp1 hq1 h0 hh
    unfold b_cost_1
    simp_arith [pd_mk, atI_ints (show p < ts.length by omega), atI_ints (show q < ts.length by omega), sum_take h1]
    exact ⟨mulOk_l (by omega) (by omega), rfl⟩
  · rintro sl rt ⟨rfl, rfl⟩
    (rw [kont]; simp_arith)
    rw [List.length_map, List.take_length]
theorem spent_ok {y : D} {c : Nat} {bs : List (Nat × Nat × Int)} {ps : List (Nat × Nat × Int × Int)} (hy : IsSys y c bs ps) {ts : List Int} (ht : ts.length = c) :
    wE (m__law_spent [.d y, .d (.lst (ts.map D.int))] []) fun x rt => x = .d (.int ((ps.map (fc ts)).sum)) ∧ rt = [] := by
  have hp := hy.p
  have e := hy.eq
  clear hy
  subst e
  unfold m__law_spent b__law_spent
  simp only [w_mkF]
  simp_arith
  (rw [kont]; simp_arith)
  refine w_for (fun xs L i sl rt => sl = [some (W.d (D.tup [D.int ↑c, D.tup (List.map bd bs), D.tup (List.map pd ps)])), some (.d (.lst (ts.map D.int))), some (.d (.int (((ps.take i).map (fc ts)).sum))), none, none, none] ∧ rt = [] ∧ L = 0 ∧ xs = ps.map pd) ?_
  simp_arith
  refine ⟨rfl, ?_, ?_⟩
  · rintro i z sl rt hz ⟨rfl, rfl⟩
    obtain ⟨⟨p, q, g, h⟩, h1, h2, rfl⟩ := mem_at hz
    obtain ⟨hp1, hq1, h0, hh⟩ := hp _ h2
    simp only at hp1 hq1 h0 hh
    unfold b__law_spent_1
    have e : fc ts (p, q, g, h) = h * (max (ts.getD q 0) (ts.getD p 0 + g) - min (ts.getD q 0) (ts.getD p 0 + g)) := by
      show h * ab (ts.getD q 0 - ts.getD p 0 - g) = _
      congr 1
      unfold ab
      split <;> omega
    have a1 := atI_ints (show p < ts.length by omega)
    have a2 := atI_ints (show q < ts.length by omega)
    simp_arith [pd_mk, a1, a2, sum_take h1]
    rw [kont]
    simp_arith [a1]
    (rw [kont]; simp_arith)
    refine ⟨mulOk_l (by omega) (by omega), ?_⟩
    rw [e]
  · rintro sl rt ⟨rfl, rfl⟩
    (rw [kont]; simp_arith)
    rw [List.length_map, List.take_length]
theorem broken_ok {y : D} {c : Nat} {bs : List (Nat × Nat × Int)} {ps : List (Nat × Nat × Int × Int)} (hy : IsSys y c bs ps) {ts : List Int} (ht : ts.length = c) :
    wE (m__law_broken [.d y, .d (.lst (ts.map D.int))] []) fun x rt => ∃ n : Nat, x = .d (.int n) ∧ rt = [] ∧ (n = 0 ↔ (bs.all fun b => decide (ts.getD b.1 0 + b.2.2 ≤ ts.getD b.2.1 0)) = true) := by
  have hb := hy.b
  have hbl := hy.l
  have e := hy.eq
  clear hy
  subst e
  unfold m__law_broken b__law_broken
  simp only [w_mkF]
  simp_arith
  refine w_comp (fun xs i r acc => r = [] ∧ xs = bs.map bd ∧ acc.length ≤ i ∧ (acc.length = 0 ↔ ∀ j b, j < i → bs[j]? = some b → ts.getD b.1 0 + b.2.2 ≤ ts.getD b.2.1 0)) ?_
  simp_arith
  refine ⟨⟨fun _ j b h => absurd h (Nat.not_lt_zero _), fun _ => trivial⟩, ?_, ?_⟩
  · rintro i z r acc hz ⟨rfl, hl, hi⟩ _
    obtain ⟨⟨p, q, g⟩, h1, h2, rfl⟩ := mem_at hz
    obtain ⟨hp1, hq1⟩ := hb _ h2
    simp only at hp1 hq1
    have hi2 := (List.getElem?_eq_some_iff.mp h1).1
    unfold b__law_broken_1
    simp_arith [bd_mk, atI_ints (show p < ts.length by omega), atI_ints (show q < ts.length by omega)]
    split
    · rename_i hlt
      refine ⟨[], rfl, rfl, ?_, rfl, by rw [List.length_append, List.length_singleton]; omega, ?_⟩
      · omega
      · rw [List.length_append, List.length_singleton]
        constructor
        · intro h; omega
        · intro h
          have := h i _ (Nat.lt_succ_self _) h1
          simp only at this
          omega
    · rename_i hlt
      refine ⟨[], rfl, rfl, rfl, by omega, ?_⟩
      rw [hi]
      constructor
      · intro h j b hj hb2
        by_cases hji : j = i
        · subst hji
          rw [h1] at hb2
          cases hb2
          simp only
          omega
        · exact h j b (by omega) hb2
      · exact fun h j b hj => h j b (by omega)
  · rintro r acc ⟨rfl, hl, hi⟩ _
    simp_arith
    refine ⟨_, rfl, ?_⟩
    rw [hi, List.all_eq_true]
    constructor
    · intro h b hb
      obtain ⟨j, hj, rfl⟩ := List.getElem_of_mem hb
      exact decide_eq_true (h j _ (by simpa using hj) (List.getElem?_eq_getElem hj))
    · intro h j b hj hb
      exact of_decide_eq_true (h b (List.mem_of_getElem? hb))
theorem whole_ok {n : Int} : wE (m__law_whole [.d (.int n)] []) fun x rt => x = .d (.bl true) ∧ rt = [] := by
  unfold m__law_whole b__law_whole
  simp_arith
theorem law_true (ns : List Int) (hn : ns.length ≤ 63) : ∃ rt, m_law [.d (.fz (ns.map D.int))] [] = .ok (.d (.bl true)) rt := by
  have h : wE (m_law [.d (.fz (ns.map D.int))] []) fun x rt => x = .d (.bl true) := by
    unfold m_law b_law
    simp only [w_mkF]
    simp_arith
    refine wE.imp (bag_ok ns hn) ?_
    rintro _ _ ⟨rfl, o, rfl, hb⟩
    simp_arith
    (rw [kont]; simp_arith)
    refine wE.imp (any_ok hb (most := 16) (by omega)) ?_
    rintro _ _ ⟨y, o, c, bs, ps, rfl, rfl, hb, hy⟩
    simp_arith
    (rw [kont]; simp_arith)
    refine wE.imp (tall_ok hb hy) ?_
    rintro _ _ ⟨o, ts, rfl, rfl, hb, ht⟩
    simp_arith
    (rw [kont]; simp_arith)
    refine wE.imp (beside_ok hb (by have := hy.c; omega)) ?_
    rintro _ _ ⟨o, us, rfl, rfl, hb, hu⟩
    simp_arith
    (rw [kont]; simp_arith)
    refine w_for (fun xs L i sl rt => L = 4 ∧ xs = [.lst (ts.map D.int), .lst (us.map D.int), .lst (ts.map D.int)] ∧ ∃ o', sl = [some (W.d (D.fz (List.map D.int ns))), some (W.r 0), some (W.d y), some (W.r 1), some (W.r 2), none, none, none] ∧ rt = [o, O.d (D.lst (List.map D.int ts)), O.d (D.lst (List.map D.int us)), o']) ?_
    simp_arith
    refine ⟨⟨_, rfl⟩, ?_, ?_⟩
    · rintro i x sl rt hx ⟨o', rfl, rfl⟩
      have hx2 : ∃ vs : List Int, x = .lst (vs.map D.int) ∧ vs.length = c := by
        match i, hx with
        | 0, hx => cases hx; exact ⟨ts, rfl, ht⟩
        | 1, hx => cases hx; exact ⟨us, rfl, by omega⟩
        | 2, hx => cases hx; exact ⟨ts, rfl, ht⟩
      obtain ⟨vs, rfl, hv⟩ := hx2
      unfold b_law_1
      simp_arith
      refine wE.imp (keeps_ok hy hv) ?_
      rintro _ _ ⟨rfl, rfl⟩
      simp_arith
      rw [kont, w_seq, w_if]
      simp_arith
      refine wE.imp (broken_ok hy hv) ?_
      rintro _ _ ⟨n, rfl, rfl, hn⟩
      have e1 : (bs.all fun b => decide (vs.getD b.1 0 + b.2.2 ≤ vs.getD b.2.1 0)) = decide ((n : Int) = 0) := by
        rw [Bool.eq_iff_iff, ← hn, decide_eq_true_eq]
        omega
      rw [e1]
      simp_arith
      (rw [kont]; simp_arith)
      refine wE.imp (cost_ok hy hv) ?_
      rintro _ _ ⟨rfl, rfl⟩
      simp_arith
      (rw [kont]; simp_arith)
      refine wE.imp whole_ok ?_
      rintro _ _ ⟨rfl, rfl⟩
      simp_arith
      refine wE.imp (spent_ok hy hv) ?_
      rintro _ _ ⟨rfl, rfl⟩
      simp_arith
      exact ⟨_, rfl⟩
    · rintro sl rt ⟨o', rfl, rfl⟩
      (rw [kont]; simp_arith)
  obtain ⟨x, rt, e, rfl⟩ := h.ex
  exact ⟨rt, e⟩


theorem walk {l : PySem.W.OpenLaw} {q : Program} {loose : List Str} {XP : (Str → Option Value) → Heap → Prop} {YP : World → Heap → Prop} {d : DefRec} {K : Params → PySem.W.Frag} (hn : l.most = some 63) (hdf : d.params.defaults = [])
    (hY : ∀ (w : World) (h : Heap), YP w h → (K w.params).In h)
    (F : ∀ (w : World) (mg : Str → Option Value) (fa : Addr) (h : Heap), (K w.params).In h → h.Ns mainGlobals mg → mg d.name = some (.ref fa) →
      ∃ fd : FuncData, (∀ (s : Shared) (u : Value), BindsTo s fd ⟨[u], []⟩ [("script", u)]) ∧ ∀ base : Heap, (K w.params).In base → base.Ns mainGlobals mg → FnOk l.prog w (K w.params) mg base (L2.CX l.prog w) 4 fa fd ["script"] (spV (K w.params) w m_law 1)) :
    PySem.W.WalkO q loose XP YP l.row.toRowW d [] (fun f vs => PySem.call f vs) :=
  walk_v hn hdf ⟨rfl, by decide, by decide⟩ hY F law_true
end VL
open PySem PySem.W PyProof.Rows in
set_option maxRecDepth 100000 in
set_option maxHeartbeats 0 in
theorem PySem.Challenge.cw_drawnlayers_k36_kept_and_cost_holds : PySem.Challenge.rw_drawnlayers_k36_kept_and_cost.Holds := by
  w_on; o_law; k_head; (case hw => w_witness2)
  k_fill
  refine VL.walk (l := PySem.Challenge.rw_drawnlayers_k36_kept_and_cost) rfl rfl (fun w h Y => PySem.W.kIn_of Y) ?F
  case F =>
    intro w mg fa h KX G hmg
    refine' VL.all_mk KX G hmg ?a0 ?l0 ?c0 ?k0 ?a1 ?l1 ?c1 ?k1 ?a2 ?l2 ?c2 ?k2 ?a3 ?l3 ?c3 ?k3 ?a4 ?l4 ?c4 ?k4 ?a5 ?l5 ?c5 ?k5 ?a6 ?l6 ?c6 ?k6 ?a7 ?l7 ?c7 ?k7 ?a8 ?l8 ?c8 ?k8 ?a9 ?l9 ?c9 ?k9 ?a10 ?l10 ?c10 ?k10 ?a11 ?l11 ?c11 ?k11 ?a12 ?l12 ?c12 ?k12 ?a13 ?l13 ?c13 ?k13 ?a14 ?l14 ?c14 ?k14 ?a15 ?l15 ?c15 ?k15 ?z_abs ?z_bool ?z_int ?z_isinstance ?z_len ?z_list ?z_max ?z_min ?z_range ?z_tuple
    (case a0 => k_is)
    (case l0 => k_is)
    (case c0 => k_is)
    (case k0 => k_is)
    (case a1 => k_is)
    (case l1 => k_is)
    (case c1 => k_is)
    (case k1 => k_is)
    (case a2 => k_is)
    (case l2 => k_is)
    (case c2 => k_is)
    (case k2 => k_is)
    (case a3 => k_is)
    (case l3 => k_is)
    (case c3 => k_is)
    (case k3 => k_is)
    (case a4 => k_is)
    (case l4 => k_is)
    (case c4 => k_is)
    (case k4 => k_is)
    (case a5 => k_is)
    (case l5 => k_is)
    (case c5 => k_is)
    (case k5 => k_is)
    (case a6 => k_is)
    (case l6 => k_is)
    (case c6 => k_is)
    (case k6 => k_is)
    (case a7 => k_is)
    (case l7 => k_is)
    (case c7 => k_is)
    (case k7 => k_is)
    (case a8 => k_is)
    (case l8 => k_is)
    (case c8 => k_is)
    (case k8 => k_is)
    (case a9 => k_is)
    (case l9 => k_is)
    (case c9 => k_is)
    (case k9 => k_is)
    (case a10 => k_is)
    (case l10 => k_is)
    (case c10 => k_is)
    (case k10 => k_is)
    (case a11 => k_is)
    (case l11 => k_is)
    (case c11 => k_is)
    (case k11 => k_is)
    (case a12 => k_is)
    (case l12 => k_is)
    (case c12 => k_is)
    (case k12 => k_is)
    (case a13 => k_is)
    (case l13 => k_is)
    (case c13 => k_is)
    (case k13 => k_is)
    (case a14 => k_is)
    (case l14 => k_is)
    (case c14 => k_is)
    (case k14 => k_is)
    (case a15 => k_is)
    (case l15 => k_is)
    (case c15 => k_is)
    (case k15 => k_is)
    (case z_abs => k_is)
    (case z_bool => k_is)
    (case z_int => k_is)
    (case z_isinstance => k_is)
    (case z_len => k_is)
    (case z_list => k_is)
    (case z_max => k_is)
    (case z_min => k_is)
    (case z_range => k_is)
    (case z_tuple => k_is)
#print axioms PySem.Challenge.cw_drawnlayers_k36_kept_and_cost_holds
