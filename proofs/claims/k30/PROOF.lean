import PyProof.Rows.All
import Wide.All
import OpenK.AllK
import Wide.FinOn
import HandS.ForMost
import HandS.ForExc
import HandS.Walk
import HandS.Wide
import HandS.CallSlots
import HandS.TupAny
import HandS.Deep
import HandS.Codes
import HandS.TupLe
import HandS.Small
import HandS.More
import HandS.SetFor
import HandS.SortInts
import HandS.StrMore
import HandS.Style
import HandS.TupLen
import HandS.WordsDict
import HandS.IsInst
import HandS.Zip
import HandS.Conv
import HandS.TupSets
import HandS.DictComp
import KE.GoesMore
import KE.SortData
import KE.KIndexOf
import KE.DataFind
import HandS.SortKw
import KE.DatumOrd
import HandS.Defaults
import KE.KOpsOwn
import HandS.ClsMeth
import HandS.Star
import PyProof.P3Eq
import PySem.Challenge.RW_drawnlayers_k30_whole_no_cheaper_order
set_option Elab.async false
set_option linter.all false
set_option maxRecDepth 100000
set_option maxHeartbeats 4000000
set_option maxRecDepth 100000
set_option maxHeartbeats 1000000
namespace VE
open PySem PySem.Spec L2

/-- plain data: a value with all that hangs on it -/
inductive D where
  | non | bl (b : Bool) | int (i : Int) | str (x : Str)
  | tup (xs : List D) | ktup (xs : List D) | lst (xs : List D) | fz (xs : List D) | dk (kvs : List (Key × D)) | dt (kvs : List (List Key × D))
  | obj (C : Addr) (fs : List (Str × D)) | ref (a : Addr) | ty (n : String)

/-- a table of the written part -/
def WDict (K : PySem.W.Frag) (w : World) (a : Addr) (kvs : List (Key × V)) : Prop :=
  ∃ es n, K.lookup a = some ⟨.type "dict", none, .dict es n, #[]⟩ ∧ PySem.W.KeysLit w.params es.toList ∧ (a == sysModules) = false ∧
    (∀ k ∈ kvs, ∃ z, k.1 = Sum.inr z) ∧ ∀ z, ∃ o, PySem.W.nsIn K a z = some o ∧ RelO (valV kvs (Sum.inr z)) o

/-- a tuple that is known to bear no dict -/
def NdT (K : PySem.W.Frag) (H : Hp) (a : Addr) (vs : List V) : Prop :=
  (∃ ob : Obj, H a = some (.frz ob (.tup vs)) ∧ ob.cls = .type "tuple" ∧ ob.dict = none) ∨
    ∃ (o : Obj) (its : Array Value) (n : Nat), K.lookup a = some o ∧ o.cls = .type "tuple" ∧ o.dict = none ∧ o.data = .seq its n ∧ its.size ≤ sizeLine ∧ Vals vs its.toList
theorem NdT.sqt {K : PySem.W.Frag} {H : Hp} {a : Addr} {vs : List V} (h : NdT K H a vs) : SqT K H a vs := by
  rcases h with ⟨ob, h, _, _⟩ | ⟨o, its, n, h1, h2, _, h4, h5, h6⟩
  · exact .inl (.inr ⟨ob, h⟩)
  · exact .inr ⟨o, its, n, h1, h2, h4, h5, h6⟩
theorem NdT.mono {K : PySem.W.Frag} {H H' : Hp} {a : Addr} {vs : List V} (s : Same H H') (h : NdT K H a vs) : NdT K H' a vs := by
  rcases h with ⟨ob, h, h2⟩ | h
  · exact .inl ⟨ob, s _ _ h, h2⟩
  · exact .inr h
mutual
inductive Den (K : PySem.W.Frag) (w : World) (H : Hp) : V → D → Prop
  | non : Den K w H .non .non
  | bl (b : Bool) : Den K w H (.bl b) (.bl b)
  | int (i : Int) : Den K w H (.int i) (.int i)
  | str (x : Str) : Den K w H (.str x) (.str x)
  | tup {a : Addr} {vs : List V} {xs : List D} : H a = some (.tup vs) → Dens K w H vs xs → Den K w H (.ref a) (.tup xs)
  | ktup {a : Addr} {vs : List V} {xs : List D} : NdT K H a vs → Dens K w H vs xs → Den K w H (.ref a) (.ktup xs)
  | lst {a : Addr} {vs : List V} {xs : List D} : H a = some (.lst vs) → Dens K w H vs xs → Den K w H (.ref a) (.lst xs)
  | fz {a : Addr} {vs : List V} {xs : List D} : SqL K H a vs → Dens K w H vs xs → Den K w H (.ref a) (.fz xs)
  | dk {a : Addr} {kvs : List (Key × V)} {xs : List (Key × D)} : Rd H a (.dK kvs) → DenA K w H kvs xs → Den K w H (.ref a) (.dk xs)
  | wd {a : Addr} {kvs : List (Key × V)} {xs : List (Key × D)} : WDict K w a kvs → DenA K w H kvs xs → Den K w H (.ref a) (.dk xs)
  | dt {a : Addr} {kvs : List (List Key × V)} {xs : List (List Key × D)} : Rd H a (.dT kvs) → DenA K w H kvs xs → Den K w H (.ref a) (.dt xs)
  | obj {a C dx : Addr} {fs : List (Str × V)} {xs : List (Str × D)} : H a = some (.ins C dx fs) → H dx = some (.own a) → DenA K w H fs xs → Den K w H (.ref a) (.obj C xs)
  | ref (a : Addr) : Den K w H (.ref a) (.ref a)
  | ty (n : String) : Den K w H (.ty n) (.ty n)
inductive Dens (K : PySem.W.Frag) (w : World) (H : Hp) : List V → List D → Prop
  | nil : Dens K w H [] []
  | cons {v : V} {x : D} {vs : List V} {xs : List D} : Den K w H v x → Dens K w H vs xs → Dens K w H (v :: vs) (x :: xs)
inductive DenA (K : PySem.W.Frag) (w : World) (H : Hp) : {κ : Type} → List (κ × V) → List (κ × D) → Prop
  | nil {κ : Type} : DenA K w H (κ := κ) [] []
  | cons {κ : Type} {k : κ} {v : V} {x : D} {vs : List (κ × V)} {xs : List (κ × D)} : Den K w H v x → DenA K w H vs xs → DenA K w H ((k, v) :: vs) ((k, x) :: xs)
end

theorem Rd.mono {H H' : Hp} {a : Addr} {o : HO} (s : Same H H') (r : Rd H a o) : Rd H' a o := by
  rcases r with r | ⟨b, r⟩
  · exact .inl (s _ _ r)
  · exact .inr ⟨b, s _ _ r⟩
theorem SqL.mono {K : PySem.W.Frag} {H H' : Hp} {a : Addr} {xs : List V} (s : Same H H') (r : SqL K H a xs) : SqL K H' a xs := r.imp (Rd.mono s) id
theorem SqT.mono {K : PySem.W.Frag} {H H' : Hp} {a : Addr} {xs : List V} (s : Same H H') (r : SqT K H a xs) : SqT K H' a xs := r.imp (Rd.mono s) id

section
variable {K : PySem.W.Frag} {w : World} {H H' : Hp}
mutual
theorem Den.mono (s : Same H H') : ∀ {v : V} {x : D}, Den K w H v x → Den K w H' v x
  | _, _, .non => .non
  | _, _, .bl b => .bl b
  | _, _, .int i => .int i
  | _, _, .str x => .str x
  | _, _, .tup h r => .tup (s _ _ h) (r.mono s)
  | _, _, .ktup h r => .ktup (NdT.mono s h) (r.mono s)
  | _, _, .lst h r => .lst (s _ _ h) (r.mono s)
  | _, _, .fz h r => .fz (SqL.mono s h) (r.mono s)
  | _, _, .dk h r => .dk (Rd.mono s h) (r.mono s)
  | _, _, .wd h r => .wd h (r.mono s)
  | _, _, .dt h r => .dt (Rd.mono s h) (r.mono s)
  | _, _, .obj h1 h2 r => .obj (s _ _ h1) (s _ _ h2) (r.mono s)
  | _, _, .ref a => .ref a
  | _, _, .ty n => .ty n
theorem Dens.mono (s : Same H H') : ∀ {vs : List V} {xs : List D}, Dens K w H vs xs → Dens K w H' vs xs
  | _, _, .nil => .nil
  | _, _, .cons h r => .cons (h.mono s) (r.mono s)
theorem DenA.mono (s : Same H H') : ∀ {κ : Type} {vs : List (κ × V)} {xs : List (κ × D)}, DenA K w H vs xs → DenA K w H' vs xs
  | _, _, _, .nil => .nil
  | _, _, _, .cons h r => .cons (h.mono s) (r.mono s)
end
end
end VE

set_option maxRecDepth 100000
set_option maxHeartbeats 1000000
namespace VE
open PySem PySem.Spec L2

/-- what a root holds: plain data (frozen), a list, a dict, an instance, a list of owned things -/
inductive Sel where
  | ix (i : Nat) | fld (f : Str) | key (k : Key) | keys (k : List Key)
inductive O where
  | d (x : D) | lst (xs : List D) | dk (kvs : List (Key × D)) | dt (kvs : List (List Key × D)) | ins (C : Addr) (fs : List (Str × O)) | nst (xs : List O)
  | ndk (kvs : List (Key × O)) | ndt (kvs : List (List Key × O)) | vw (n : Nat) (p : List Sel)
/-- a value: plain data, or the root of this number -/
inductive W where
  | d (x : D) | r (n : Nat)
abbrev Sl := List (Option W)

mutual
inductive Own (K : PySem.W.Frag) (w : World) (Hs H : Hp) : V → O → List Addr → Prop
  | d {v : V} {x : D} : Den K w Hs v x → Own K w Hs H v (.d x) []
  | lst {a : Addr} {vs : List V} {xs : List D} : H a = some (.lst vs) → Dens K w Hs vs xs → Own K w Hs H (.ref a) (.lst xs) [a]
  | dk {a : Addr} {vs : List (Key × V)} {xs : List (Key × D)} : H a = some (.dK vs) → DenA K w Hs vs xs → Own K w Hs H (.ref a) (.dk xs) [a]
  | dt {a : Addr} {vs : List (List Key × V)} {xs : List (List Key × D)} : H a = some (.dT vs) → DenA K w Hs vs xs → Own K w Hs H (.ref a) (.dt xs) [a]
  | ins {a C dx : Addr} {fs : List (Str × V)} {xs : List (Str × O)} {A : List Addr} : H a = some (.ins C dx fs) → H dx = some (.own a) → OwnA K w Hs H fs xs A → Own K w Hs H (.ref a) (.ins C xs) (a :: dx :: A)
  | nst {a : Addr} {vs : List V} {xs : List O} {A : List Addr} : H a = some (.lst vs) → Owns K w Hs H vs xs A → Own K w Hs H (.ref a) (.nst xs) (a :: A)
  | ndk {a : Addr} {vs : List (Key × V)} {xs : List (Key × O)} {A : List Addr} : H a = some (.dK vs) → OwnA K w Hs H vs xs A → Own K w Hs H (.ref a) (.ndk xs) (a :: A)
  | ndt {a : Addr} {vs : List (List Key × V)} {xs : List (List Key × O)} {A : List Addr} : H a = some (.dT vs) → OwnA K w Hs H vs xs A → Own K w Hs H (.ref a) (.ndt xs) (a :: A)
inductive Owns (K : PySem.W.Frag) (w : World) (Hs H : Hp) : List V → List O → List Addr → Prop
  | nil : Owns K w Hs H [] [] []
  | cons {v : V} {x : O} {A B : List Addr} {vs : List V} {xs : List O} : Own K w Hs H v x A → Owns K w Hs H vs xs B → Owns K w Hs H (v :: vs) (x :: xs) (A ++ B)
inductive OwnA (K : PySem.W.Frag) (w : World) (Hs H : Hp) : {κ : Type} → List (κ × V) → List (κ × O) → List Addr → Prop
  | nil {κ : Type} : OwnA K w Hs H (κ := κ) [] [] []
  | cons {κ : Type} {k : κ} {v : V} {x : O} {A B : List Addr} {vs : List (κ × V)} {xs : List (κ × O)} : Own K w Hs H v x A → OwnA K w Hs H vs xs B → OwnA K w Hs H ((k, v) :: vs) ((k, x) :: xs) (A ++ B)
end

mutual
def O.toD : O → D
  | .d x => x
  | .lst xs => .lst xs
  | .dk kvs => .dk kvs
  | .dt kvs => .dt kvs
  | .ins C fs => .obj C (O.toDF fs)
  | .nst xs => .lst (O.toDs xs)
  | .ndk kvs => .dk (O.toDK kvs)
  | .ndt kvs => .dt (O.toDT kvs)
  | .vw _ _ => .non
def O.toDs : List O → List D
  | [] => []
  | x :: xs => x.toD :: O.toDs xs
def O.toDF : List (Str × O) → List (Str × D)
  | [] => []
  | (k, x) :: xs => (k, x.toD) :: O.toDF xs
def O.toDK : List (Key × O) → List (Key × D)
  | [] => []
  | (k, x) :: xs => (k, x.toD) :: O.toDK xs
def O.toDT : List (List Key × O) → List (List Key × D)
  | [] => []
  | (k, x) :: xs => (k, x.toD) :: O.toDT xs
end

section
variable {K : PySem.W.Frag} {w : World} {Hs Hs' H H' : Hp}
mutual
/-- what is owned stands, where its own objects stand -/
theorem Own.mono (s : Same Hs Hs') : ∀ {v : V} {o : O} {A : List Addr}, Own K w Hs H v o A → (∀ a ∈ A, H' a = H a) → Own K w Hs' H' v o A
  | _, _, _, .d h, _ => .d (h.mono s)
  | _, _, _, .lst h r, e => .lst ((e _ (by simp)).trans h) (r.mono s)
  | _, _, _, .dk h r, e => .dk ((e _ (by simp)).trans h) (r.mono s)
  | _, _, _, .dt h r, e => .dt ((e _ (by simp)).trans h) (r.mono s)
  | _, _, _, .ins h1 h2 r, e => .ins ((e _ (by simp)).trans h1) ((e _ (by simp)).trans h2) (r.mono s fun a ha => e a (by simp [ha]))
  | _, _, _, .nst h r, e => .nst ((e _ (by simp)).trans h) (r.mono s fun a ha => e a (by simp [ha]))
  | _, _, _, .ndk h r, e => .ndk ((e _ (by simp)).trans h) (r.mono s fun a ha => e a (by simp [ha]))
  | _, _, _, .ndt h r, e => .ndt ((e _ (by simp)).trans h) (r.mono s fun a ha => e a (by simp [ha]))
theorem Owns.mono (s : Same Hs Hs') : ∀ {v : List V} {o : List O} {A : List Addr}, Owns K w Hs H v o A → (∀ a ∈ A, H' a = H a) → Owns K w Hs' H' v o A
  | _, _, _, .nil, _ => .nil
  | _, _, _, .cons h r, e => .cons (h.mono s fun a ha => e a (by simp [ha])) (r.mono s fun a ha => e a (by simp [ha]))
theorem OwnA.mono (s : Same Hs Hs') : ∀ {κ : Type} {v : List (κ × V)} {o : List (κ × O)} {A : List Addr}, OwnA K w Hs H v o A → (∀ a ∈ A, H' a = H a) → OwnA K w Hs' H' v o A
  | _, _, _, _, .nil, _ => .nil
  | _, _, _, _, .cons h r, e => .cons (h.mono s fun a ha => e a (by simp [ha])) (r.mono s fun a ha => e a (by simp [ha]))
end
mutual
/-- what is owned, read as plain data in a heap that has it -/
theorem Own.den (s : Same Hs H') : ∀ {v : V} {o : O} {A : List Addr}, Own K w Hs H v o A → (∀ a ∈ A, H' a = H a) → Den K w H' v o.toD
  | _, _, _, .d h, _ => by rw [O.toD]; exact h.mono s
  | _, _, _, .lst h r, e => by rw [O.toD]; exact .lst ((e _ (by simp)).trans h) (r.mono s)
  | _, _, _, .dk h r, e => by rw [O.toD]; exact .dk (.inl ((e _ (by simp)).trans h)) (r.mono s)
  | _, _, _, .dt h r, e => by rw [O.toD]; exact .dt (.inl ((e _ (by simp)).trans h)) (r.mono s)
  | _, _, _, .ins h1 h2 r, e => by rw [O.toD]; exact .obj ((e _ (by simp)).trans h1) ((e _ (by simp)).trans h2) (r.den s O.toDF (by rw [O.toDF]) (fun _ _ _ => by rw [O.toDF]) fun a ha => e a (by simp [ha]))
  | _, _, _, .nst h r, e => by rw [O.toD]; exact .lst ((e _ (by simp)).trans h) (r.den s fun a ha => e a (by simp [ha]))
  | _, _, _, .ndk h r, e => by rw [O.toD]; exact .dk (.inl ((e _ (by simp)).trans h)) (r.den s O.toDK (by rw [O.toDK]) (fun _ _ _ => by rw [O.toDK]) fun a ha => e a (by simp [ha]))
  | _, _, _, .ndt h r, e => by rw [O.toD]; exact .dt (.inl ((e _ (by simp)).trans h)) (r.den s O.toDT (by rw [O.toDT]) (fun _ _ _ => by rw [O.toDT]) fun a ha => e a (by simp [ha]))
theorem Owns.den (s : Same Hs H') : ∀ {v : List V} {o : List O} {A : List Addr}, Owns K w Hs H v o A → (∀ a ∈ A, H' a = H a) → Dens K w H' v (O.toDs o)
  | _, _, _, .nil, _ => by rw [O.toDs]; exact .nil
  | _, _, _, .cons h r, e => by rw [O.toDs]; exact .cons (h.den s fun a ha => e a (by simp [ha])) (r.den s fun a ha => e a (by simp [ha]))
theorem OwnA.den (s : Same Hs H') : ∀ {κ : Type} {v : List (κ × V)} {o : List (κ × O)} {A : List Addr}, OwnA K w Hs H v o A → ∀ (f : List (κ × O) → List (κ × D)), f [] = [] → (∀ k x xs, f ((k, x) :: xs) = (k, x.toD) :: f xs) → (∀ a ∈ A, H' a = H a) → DenA K w H' v (f o)
  | _, _, _, _, .nil, f, f0, f1, _ => by rw [f0]; exact .nil
  | _, _, _, _, .cons h r, f, f0, f1, e => by rw [f1]; exact .cons (h.den s fun a ha => e a (by simp [ha])) (r.den s f f0 f1 fun a ha => e a (by simp [ha]))
end
mutual
/-- its objects stand in the heap -/
theorem Own.there : ∀ {v : V} {o : O} {A : List Addr}, Own K w Hs H v o A → ∀ a ∈ A, H a ≠ none
  | _, _, _, .d _, _, ha => by cases ha
  | _, _, _, .lst h _, _, ha => by rw [List.mem_singleton.mp ha, h]; exact fun z => nomatch z
  | _, _, _, .dk h _, _, ha => by rw [List.mem_singleton.mp ha, h]; exact fun z => nomatch z
  | _, _, _, .dt h _, _, ha => by rw [List.mem_singleton.mp ha, h]; exact fun z => nomatch z
  | _, _, _, .ins h1 h2 r, _, ha => by
    rcases List.mem_cons.mp ha with e | ha
    · rw [e, h1]; exact fun z => nomatch z
    rcases List.mem_cons.mp ha with e | ha
    · rw [e, h2]; exact fun z => nomatch z
    exact r.there _ ha
  | _, _, _, .nst h r, _, ha => by
    rcases List.mem_cons.mp ha with e | ha
    · rw [e, h]; exact fun z => nomatch z
    exact r.there _ ha
  | _, _, _, .ndk h r, _, ha => by
    rcases List.mem_cons.mp ha with e | ha
    · rw [e, h]; exact fun z => nomatch z
    exact r.there _ ha
  | _, _, _, .ndt h r, _, ha => by
    rcases List.mem_cons.mp ha with e | ha
    · rw [e, h]; exact fun z => nomatch z
    exact r.there _ ha
theorem Owns.there : ∀ {v : List V} {o : List O} {A : List Addr}, Owns K w Hs H v o A → ∀ a ∈ A, H a ≠ none
  | _, _, _, .nil, _, ha => by cases ha
  | _, _, _, .cons h r, _, ha => (List.mem_append.mp ha).elim (h.there _) (r.there _)
theorem OwnA.there : ∀ {κ : Type} {v : List (κ × V)} {o : List (κ × O)} {A : List Addr}, OwnA K w Hs H v o A → ∀ a ∈ A, H a ≠ none
  | _, _, _, _, .nil, _, ha => by cases ha
  | _, _, _, _, .cons h r, _, ha => (List.mem_append.mp ha).elim (h.there _) (r.there _)
end
end

/-! ### places in what is owned -/
def aget {κ α : Type} [DecidableEq κ] : List (κ × α) → κ → Option α
  | [], _ => none
  | (k', x) :: xs, k => if k' = k then some x else aget xs k
def aset {κ α : Type} [DecidableEq κ] : List (κ × α) → κ → α → List (κ × α)
  | [], _, _ => []
  | (k', x) :: xs, k, y => if k' = k then (k', y) :: xs else (k', x) :: aset xs k y
def adr (H : Hp) : V → O → List Sel → Option V
  | v, _, [] => some v
  | .ref a, .nst xs, .ix i :: p => match H a with
    | some (.lst vs) => match vs[i]?, xs[i]? with
      | some v, some x => adr H v x p
      | _, _ => none
    | _ => none
  | .ref a, .ins _ xs, .fld f :: p => match H a with
    | some (.ins _ _ vs) => match aget vs f, aget xs f with
      | some v, some x => adr H v x p
      | _, _ => none
    | _ => none
  | .ref a, .ndk xs, .key f :: p => match H a with
    | some (.dK vs) => match aget vs f, aget xs f with
      | some v, some x => adr H v x p
      | _, _ => none
    | _ => none
  | .ref a, .ndt xs, .keys f :: p => match H a with
    | some (.dT vs) => match aget vs f, aget xs f with
      | some v, some x => adr H v x p
      | _, _ => none
    | _ => none
  | _, _, _ => none
def getP : O → List Sel → Option O
  | o, [] => some o
  | .nst xs, .ix i :: p => (xs[i]?).bind fun x => getP x p
  | .ins _ xs, .fld f :: p => (aget xs f).bind fun x => getP x p
  | .ndk xs, .key f :: p => (aget xs f).bind fun x => getP x p
  | .ndt xs, .keys f :: p => (aget xs f).bind fun x => getP x p
  | _, _ => none
def setP : O → List Sel → O → O
  | _, [], y => y
  | .nst xs, .ix i :: p, y => match xs[i]? with
    | some x => .nst (xs.set i (setP x p y))
    | none => .nst xs
  | .ins C xs, .fld f :: p, y => match aget xs f with
    | some x => .ins C (aset xs f (setP x p y))
    | none => .ins C xs
  | .ndk xs, .key f :: p, y => match aget xs f with
    | some x => .ndk (aset xs f (setP x p y))
    | none => .ndk xs
  | .ndt xs, .keys f :: p, y => match aget xs f with
    | some x => .ndt (aset xs f (setP x p y))
    | none => .ndt xs
  | o, _, _ => o
/-- what stands at a number: owned, or a place in another root -/
def Own1 (K : PySem.W.Frag) (w : World) (Hs H : Hp) (v : V) : O → List Addr → Prop
  | .vw _ _, A => A = []
  | o, A => Own K w Hs H v o A
def O.isVw : O → Bool
  | .vw _ _ => true
  | _ => false
theorem Own1.of {K : PySem.W.Frag} {w : World} {Hs H : Hp} {v : V} {o : O} {A : List Addr} (h : Own K w Hs H v o A) : Own1 K w Hs H v o A := by
  cases o <;> first | exact h | cases h
theorem Own1.own {K : PySem.W.Frag} {w : World} {Hs H : Hp} {v : V} {o : O} {A : List Addr} (h : Own1 K w Hs H v o A) (hv : o.isVw = false) : Own K w Hs H v o A := by
  cases o <;> first | exact h | cases hv
theorem Own1.mono {K : PySem.W.Frag} {w : World} {Hs Hs' H H' : Hp} (s : Same Hs Hs') {v : V} {o : O} {A : List Addr} (h : Own1 K w Hs H v o A) (e : ∀ a ∈ A, H' a = H a) : Own1 K w Hs' H' v o A := by
  cases hv : o.isVw with
  | false => exact .of (Own.mono s (h.own hv) e)
  | true =>
    cases o <;> first | (exfalso; exact Bool.noConfusion hv) | exact h
theorem Own1.there {K : PySem.W.Frag} {w : World} {Hs H : Hp} {v : V} {o : O} {A : List Addr} (h : Own1 K w Hs H v o A) : ∀ a ∈ A, H a ≠ none := by
  cases hv : o.isVw with
  | false => exact (h.own hv).there
  | true =>
    cases o <;> first | (exfalso; exact Bool.noConfusion hv) | skip
    have : A = [] := h
    subst this
    exact fun a ha => by cases ha
/-- where the def came in: its heap, what was plain then, what it may change -/
structure Bnd where
  H0 : Hp
  P : Hp
  M : List Addr
structure Rel (K : PySem.W.Frag) (w : World) (B : Bnd) (Hs : Hp) (ρ : List Addr) (rt : List O) (H : Hp) : Prop where
  same : Same Hs H
  len : ρ.length = rt.length
  own : ∃ F : Nat → List Addr, ∀ i o, rt[i]? = some o → ∃ a, ρ[i]? = some a ∧ Own1 K w Hs H (.ref a) o (F i) ∧ (F i).Nodup ∧ (∀ b ∈ F i, Hs b = none ∧ (b ∈ B.M ∨ B.H0 b = none)) ∧ ∀ j, j < rt.length → j ≠ i → ∀ b ∈ F i, b ∉ F j
  frame : ∀ b o, B.H0 b = some o → b ∈ B.M ∨ H b = some o
  there : ∀ b, B.H0 b ≠ none → H b ≠ none
  pers : ∀ b, Hs b ≠ none → B.P b ≠ none ∨ B.H0 b = none ∨ b ∈ B.M
  lk : ∀ (k n : Nat) (p : List Sel), rt[k]? = some (O.vw n p) → ∃ a b o, ρ[k]? = some a ∧ ρ[n]? = some b ∧ rt[n]? = some o ∧ o.isVw = false ∧ adr H (.ref b) o p = some (.ref a)
def WD (K : PySem.W.Frag) (w : World) (Hs : Hp) (ρ : List Addr) (v : V) : W → Prop
  | .d x => Den K w Hs v x
  | .r n => ∃ a, ρ[n]? = some a ∧ v = .ref a
structure SlD (K : PySem.W.Frag) (w : World) (Hs : Hp) (ρ : List Addr) (σ : St) (sl : Sl) : Prop where
  len : σ.length = sl.length
  at_ : ∀ (i : Nat) (x : W), sl[i]? = some (some x) → ∃ v, σ[i]? = some (some v) ∧ WD K w Hs ρ v x

/-- further on: more is plain, more roots -/
structure Ext (Hs : Hp) (ρ : List Addr) (Hs' : Hp) (ρ' : List Addr) : Prop where
  same : Same Hs Hs'
  pre : ∃ t, ρ' = ρ ++ t
section
variable {K : PySem.W.Frag} {w : World} {B : Bnd} {Hs Hs' Hs2 H H' : Hp} {ρ ρ' ρ2 : List Addr} {rt : List O} {σ : St} {sl : Sl}
theorem Same.rfl' : Same H H := fun _ _ h => h
theorem Same.trans' {H1 H2 H3 : Hp} (a : Same H1 H2) (b : Same H2 H3) : Same H1 H3 := fun x o h => b x o (a x o h)
theorem Ext.refl : Ext Hs ρ Hs ρ := ⟨fun _ _ h => h, [], by simp⟩
theorem Ext.trans (a : Ext Hs ρ Hs' ρ') (b : Ext Hs' ρ' Hs2 ρ2) : Ext Hs ρ Hs2 ρ2 := by
  obtain ⟨s, t, e⟩ := a
  obtain ⟨s', t', e'⟩ := b
  exact ⟨fun x o h => s' x o (s x o h), t ++ t', by rw [e', e, List.append_assoc]⟩
theorem Ext.of_same (a : Same Hs Hs') : Ext Hs ρ Hs' ρ := ⟨a, [], by simp⟩
theorem Ext.at (a : Ext Hs ρ Hs' ρ') {n : Nat} {p : Addr} (h : ρ[n]? = some p) : ρ'[n]? = some p := by
  obtain ⟨_, t, e⟩ := a
  rw [e, List.getElem?_append_left (List.getElem?_eq_some_iff.mp h).1]
  exact h
theorem WD.mono (a : Ext Hs ρ Hs' ρ') {v : V} {x : W} (h : WD K w Hs ρ v x) : WD K w Hs' ρ' v x := by
  cases x with
  | d x => exact Den.mono a.same (show Den K w Hs v x from h)
  | r n =>
    obtain ⟨p, e, rfl⟩ := h
    exact ⟨p, a.at e, rfl⟩
theorem SlD.mono (a : Ext Hs ρ Hs' ρ') (h : SlD K w Hs ρ σ sl) : SlD K w Hs' ρ' σ sl := ⟨h.len, fun i x e => by
  obtain ⟨v, e1, e2⟩ := h.at_ i x e
  exact ⟨v, e1, e2.mono a⟩⟩
theorem SlD.set (h : SlD K w Hs ρ σ sl) (i : Nat) {v : V} {x : W} (d : WD K w Hs ρ v x) : SlD K w Hs ρ (σ.set i (some v)) (sl.set i (some x)) := by
  refine ⟨by simpa using h.len, fun j y e => ?_⟩
  by_cases hj : i = j
  · subst hj
    by_cases hl : i < sl.length
    · rw [List.getElem?_set_self hl] at e
      cases e
      exact ⟨v, by rw [List.getElem?_set_self (by rw [h.len]; exact hl)], d⟩
    · rw [List.getElem?_eq_none (by simp; omega)] at e
      cases e
  · rw [List.getElem?_set_ne hj] at e
    obtain ⟨u, e1, e2⟩ := h.at_ j y e
    exact ⟨u, by rw [List.getElem?_set_ne hj]; exact e1, e2⟩

/-- a root, as it stands -/
theorem Rel.root (R : Rel K w B Hs ρ rt H) {n : Nat} {o : O} {v : V} (e : rt[n]? = some o) (d : WD K w Hs ρ v (.r n)) (hv : o.isVw = false) :
    ∃ F a, v = .ref a ∧ ρ[n]? = some a ∧ Own K w Hs H (.ref a) o F ∧ F.Nodup ∧ ∀ b ∈ F, Hs b = none ∧ (b ∈ B.M ∨ B.H0 b = none) := by
  obtain ⟨F, hF⟩ := R.own
  obtain ⟨a, e1, h1, h2, h3, _⟩ := hF n o e
  obtain ⟨p, e2, rfl⟩ := d
  rw [e1] at e2
  cases e2
  exact ⟨F n, a, rfl, e1, h1.own hv, h2, h3⟩
end
end VE

set_option maxRecDepth 100000
set_option maxHeartbeats 1000000
namespace VE
open PySem PySem.Spec L2
section
variable {K : PySem.W.Frag} {w : World} {Hs Hs' H H' : Hp}
theorem Owns.length : ∀ {vs : List V} {xs : List O} {A : List Addr}, Owns K w Hs H vs xs A → vs.length = xs.length
  | _, _, _, .nil => rfl
  | _, _, _, .cons _ t => by simp [t.length]
theorem OwnA.length : ∀ {κ : Type} {vs : List (κ × V)} {xs : List (κ × O)} {A : List Addr}, OwnA K w Hs H vs xs A → vs.length = xs.length
  | _, _, _, _, .nil => rfl
  | _, _, _, _, .cons _ t => by simp [t.length]
/-- one of the owned, by its number: what it owns, and the same with another in its place -/
theorem Owns.split : ∀ {vs : List V} {xs : List O} {A : List Addr} {i : Nat} {v : V} {x : O}, Owns K w Hs H vs xs A → vs[i]? = some v → xs[i]? = some x →
    ∃ A1 B A2, A = A1 ++ (B ++ A2) ∧ Own K w Hs H v x B ∧ (∀ H' y B', (∀ b ∈ A1 ++ A2, H' b = H b) → Own K w Hs H' v y B' → Owns K w Hs H' vs (xs.set i y) (A1 ++ (B' ++ A2)))
  | _, _, _, 0, _, _, .cons (A := A) (B := B) h t, e1, e2 => by
    cases e1; cases e2
    exact ⟨[], A, B, rfl, h, fun H' y B' hb hy => show Owns K w Hs H' _ _ (B' ++ B) from .cons hy (t.mono Same.rfl' fun b hb2 => hb b (by simpa using hb2))⟩
  | _, _, _, i + 1, _, _, .cons (A := A) (B := B) h t, e1, e2 => by
    obtain ⟨A1, B1, A2, rfl, h1, h2⟩ := t.split (i := i) (by simpa using e1) (by simpa using e2)
    refine ⟨A ++ A1, B1, A2, by simp, h1, fun H' y B' hb hy => ?_⟩
    have := Owns.cons (h.mono Same.rfl' fun b hb2 => hb b (by simp [hb2])) (h2 H' y B' (fun b hb2 => hb b (by rcases List.mem_append.mp hb2 with z | z <;> simp [z])) hy)
    rw [List.append_assoc]
    exact this
theorem OwnA.split {κ : Type} [DecidableEq κ] {k : κ} {v : V} {x : O} : ∀ {vs : List (κ × V)} {xs : List (κ × O)} {A : List Addr}, OwnA K w Hs H vs xs A → aget vs k = some v → aget xs k = some x →
    ∃ A1 B A2, A = A1 ++ (B ++ A2) ∧ Own K w Hs H v x B ∧ (∀ H' y B', (∀ b ∈ A1 ++ A2, H' b = H b) → Own K w Hs H' v y B' → OwnA K w Hs H' vs (aset xs k y) (A1 ++ (B' ++ A2)))
  | _, _, _, .nil, e1, _ => by cases e1
  | _, _, _, .cons (k := k') (A := A) (B := B) h t, e1, e2 => by
    unfold aget at e1 e2
    by_cases e : k' = k
    · rw [if_pos e] at e1 e2
      cases e1; cases e2
      refine ⟨[], A, B, rfl, h, fun H' y B' hb hy => ?_⟩
      unfold aset
      rw [if_pos e]
      exact show OwnA K w Hs H' _ _ (B' ++ B) from .cons hy (t.mono Same.rfl' fun b hb2 => hb b (by simpa using hb2))
    · rw [if_neg e] at e1 e2
      obtain ⟨A1, B1, A2, rfl, h1, h2⟩ := t.split e1 e2
      refine ⟨A ++ A1, B1, A2, by simp, h1, fun H' y B' hb hy => ?_⟩
      have := OwnA.cons (k := k') (h.mono Same.rfl' fun b hb2 => hb b (by simp [hb2])) (h2 H' y B' (fun b hb2 => hb b (by rcases List.mem_append.mp hb2 with z | z <;> simp [z])) hy)
      unfold aset
      rw [if_neg e, List.append_assoc]
      exact this
/-- one step down: the child, what it owns, and the same with another child in its place -/
inductive Kid (H : Hp) : V → O → Sel → V → O → (O → O) → Prop
  | nst {a : Addr} {vs : List V} {xs : List O} {i : Nat} {v : V} {x : O} : H a = some (.lst vs) → vs[i]? = some v → xs[i]? = some x → Kid H (.ref a) (.nst xs) (.ix i) v x (fun y => .nst (xs.set i y))
  | ins {a C C' dx : Addr} {vs : List (Str × V)} {xs : List (Str × O)} {i : Str} {v : V} {x : O} : H a = some (.ins C' dx vs) → aget vs i = some v → aget xs i = some x → Kid H (.ref a) (.ins C xs) (.fld i) v x (fun y => .ins C (aset xs i y))
  | ndk {a : Addr} {vs : List (Key × V)} {xs : List (Key × O)} {i : Key} {v : V} {x : O} : H a = some (.dK vs) → aget vs i = some v → aget xs i = some x → Kid H (.ref a) (.ndk xs) (.key i) v x (fun y => .ndk (aset xs i y))
  | ndt {a : Addr} {vs : List (List Key × V)} {xs : List (List Key × O)} {i : List Key} {v : V} {x : O} : H a = some (.dT vs) → aget vs i = some v → aget xs i = some x → Kid H (.ref a) (.ndt xs) (.keys i) v x (fun y => .ndt (aset xs i y))
theorem Kid.own {v u : V} {o x : O} {c : Sel} {f : O → O} {A : List Addr} (k : Kid H v o c u x f) (h : Own K w Hs H v o A) :
    ∃ A1 B A2, A = A1 ++ (B ++ A2) ∧ Own K w Hs H u x B ∧ (∀ H' y B', (∀ b ∈ A1 ++ A2, H' b = H b) → Own K w Hs H' u y B' → Own K w Hs H' v (f y) (A1 ++ (B' ++ A2))) := by
  cases k with
  | nst e0 e1 e2 =>
    cases h with
    | nst h r =>
      rw [e0] at h; cases h
      obtain ⟨A1, B, A2, rfl, h1, h2⟩ := r.split e1 e2
      refine ⟨_ :: A1, B, A2, rfl, h1, fun H' y B' hb hy => .nst ((hb _ (by simp)).trans e0) (h2 H' y B' (fun b hb2 => hb b (List.mem_cons_of_mem _ hb2)) hy)⟩
  | ins e0 e1 e2 =>
    cases h with
    | ins h h' r =>
      rw [e0] at h; cases h
      obtain ⟨A1, B, A2, rfl, h1, h2⟩ := r.split e1 e2
      refine ⟨_ :: _ :: A1, B, A2, rfl, h1, fun H' y B' hb hy => .ins ((hb _ (by simp)).trans e0) ((hb _ (by simp)).trans h') (h2 H' y B' (fun b hb2 => hb b (List.mem_cons_of_mem _ (List.mem_cons_of_mem _ hb2))) hy)⟩
  | ndk e0 e1 e2 =>
    cases h with
    | ndk h r =>
      rw [e0] at h; cases h
      obtain ⟨A1, B, A2, rfl, h1, h2⟩ := r.split e1 e2
      refine ⟨_ :: A1, B, A2, rfl, h1, fun H' y B' hb hy => .ndk ((hb _ (by simp)).trans e0) (h2 H' y B' (fun b hb2 => hb b (List.mem_cons_of_mem _ hb2)) hy)⟩
  | ndt e0 e1 e2 =>
    cases h with
    | ndt h r =>
      rw [e0] at h; cases h
      obtain ⟨A1, B, A2, rfl, h1, h2⟩ := r.split e1 e2
      refine ⟨_ :: A1, B, A2, rfl, h1, fun H' y B' hb hy => .ndt ((hb _ (by simp)).trans e0) (h2 H' y B' (fun b hb2 => hb b (List.mem_cons_of_mem _ hb2)) hy)⟩
/-- the first step of a path -/
theorem adr_kid {v u : V} {o : O} {c : Sel} {p : List Sel} (e : adr H v o (c :: p) = some u) : ∃ v' x f, Kid H v o c v' x f ∧ adr H v' x p = some u ∧ getP o (c :: p) = getP x p ∧ ∀ y, setP o (c :: p) y = f (setP x p y) := by
  cases v <;> cases o <;> cases c <;> simp only [adr] at e <;> first | cases e | skip
  all_goals
    split at e
    · rename_i vs hv
      split at e
      · rename_i v' x e1 e2
        first
          | exact ⟨v', x, _, .nst hv e1 e2, e, by simp [getP, e2], fun y => by simp [setP, e2]⟩
          | exact ⟨v', x, _, .ins hv e1 e2, e, by simp [getP, e2], fun y => by simp [setP, e2]⟩
          | exact ⟨v', x, _, .ndk hv e1 e2, e, by simp [getP, e2], fun y => by simp [setP, e2]⟩
          | exact ⟨v', x, _, .ndt hv e1 e2, e, by simp [getP, e2], fun y => by simp [setP, e2]⟩
      · cases e
    · cases e
theorem Kid.adr {v u : V} {o x : O} {c : Sel} {f : O → O} {p : List Sel} (k : Kid H v o c u x f) : adr H v o (c :: p) = VE.adr H u x p := by
  cases k with
  | nst e0 e1 e2 => simp only [VE.adr, e0, e1, e2]
  | ins e0 e1 e2 => simp only [VE.adr, e0, e1, e2]
  | ndk e0 e1 e2 => simp only [VE.adr, e0, e1, e2]
  | ndt e0 e1 e2 => simp only [VE.adr, e0, e1, e2]
theorem Kid.mono {v u : V} {o x : O} {c : Sel} {f : O → O} {A : List Addr} (k : Kid H v o c u x f) (h : Own K w Hs H v o A) (e : ∀ b ∈ A, H' b = H b) : Kid H' v o c u x f := by
  cases k with
  | nst e0 e1 e2 => cases h with | nst h r => exact .nst ((e _ (by simp)).trans e0) e1 e2
  | ins e0 e1 e2 => cases h with | ins h h' r => exact .ins ((e _ (by simp)).trans e0) e1 e2
  | ndk e0 e1 e2 => cases h with | ndk h r => exact .ndk ((e _ (by simp)).trans e0) e1 e2
  | ndt e0 e1 e2 => cases h with | ndt h r => exact .ndt ((e _ (by simp)).trans e0) e1 e2
theorem adr_mono : ∀ {p : List Sel} {v u : V} {o : O} {A : List Addr}, Own K w Hs H v o A → (∀ b ∈ A, H' b = H b) → adr H v o p = some u → adr H' v o p = some u
  | [], v, u, o, A, _, _, e => by simpa [adr] using e
  | c :: p, v, u, o, A, h, hb, e => by
    obtain ⟨v', x, f, k, e1, _, _⟩ := adr_kid e
    obtain ⟨A1, B, A2, rfl, h1, _⟩ := k.own h
    rw [(k.mono h hb).adr]
    exact adr_mono h1 (fun b hb2 => hb b (by simp [hb2])) e1
theorem own_at : ∀ {p : List Sel} {v u : V} {o : O} {A : List Addr}, Own K w Hs H v o A → adr H v o p = some u →
    ∃ x L B R, getP o p = some x ∧ A = L ++ (B ++ R) ∧ Own K w Hs H u x B ∧ ∀ H' y B', (∀ b ∈ L ++ R, H' b = H b) → Own K w Hs H' u y B' → Own K w Hs H' v (setP o p y) (L ++ (B' ++ R))
  | [], v, u, o, A, h, e => by
    cases (show some v = some u by simpa [adr] using e)
    refine ⟨o, [], A, [], by simp [getP], by simp, h, fun H' y B' _ hy => ?_⟩
    have : setP o [] y = y := by cases o <;> rfl
    rw [this]
    simpa using hy
  | c :: p, v, u, o, A, h, e => by
    obtain ⟨v', x, f, k, e1, e2, e3⟩ := adr_kid e
    obtain ⟨A1, B, A2, rfl, h1, h2⟩ := k.own h
    obtain ⟨x', L, B', R, g1, rfl, g3, g4⟩ := own_at h1 e1
    refine ⟨x', A1 ++ L, B', R ++ A2, by rw [e2, g1], by simp, g3, fun H' y B'' hb hy => ?_⟩
    have := h2 H' (setP x p y) (L ++ (B'' ++ R)) (fun b hb2 => hb b (by rcases List.mem_append.mp hb2 with z | z <;> simp [z])) (g4 H' y B'' (fun b hb2 => hb b (by rcases List.mem_append.mp hb2 with z | z <;> simp [z])) hy)
    rw [e3]
    simpa [List.append_assoc] using this
mutual
theorem Own.uniq : ∀ {v : V} {o : O} {A B : List Addr}, Own K w Hs H v o A → Own K w Hs H v o B → A = B
  | _, _, _, _, .d _, .d _ => rfl
  | _, _, _, _, .lst _ _, .lst _ _ => rfl
  | _, _, _, _, .dk _ _, .dk _ _ => rfl
  | _, _, _, _, .dt _ _, .dt _ _ => rfl
  | _, _, _, _, .ins h h' r, .ins g g' q => by
    rw [h] at g
    cases g
    rw [r.uniq q]
  | _, _, _, _, .nst h r, .nst g q => by
    rw [h] at g
    cases g
    rw [r.uniq q]
  | _, _, _, _, .ndk h r, .ndk g q => by
    rw [h] at g
    cases g
    rw [r.uniq q]
  | _, _, _, _, .ndt h r, .ndt g q => by
    rw [h] at g
    cases g
    rw [r.uniq q]
theorem Owns.uniq : ∀ {v : List V} {o : List O} {A B : List Addr}, Owns K w Hs H v o A → Owns K w Hs H v o B → A = B
  | _, _, _, _, .nil, .nil => rfl
  | _, _, _, _, .cons h r, .cons g q => by rw [h.uniq g, r.uniq q]
theorem OwnA.uniq : ∀ {κ : Type} {v : List (κ × V)} {o : List (κ × O)} {A B : List Addr}, OwnA K w Hs H v o A → OwnA K w Hs H v o B → A = B
  | _, _, _, _, _, .nil, .nil => rfl
  | _, _, _, _, _, .cons h r, .cons g q => by rw [h.uniq g, r.uniq q]
end
theorem Owns.two : ∀ {vs : List V} {xs : List O} {A : List Addr} {i j : Nat} {v u : V} {x y : O} {B C : List Addr}, Owns K w Hs H vs xs A → A.Nodup → i ≠ j → vs[i]? = some v → xs[i]? = some x → vs[j]? = some u → xs[j]? = some y →
    Own K w Hs H v x B → Own K w Hs H u y C → ∀ b ∈ B, b ∉ C
  | _, _, _, 0, 0, _, _, _, _, _, _, _, _, h, _, _, _, _, _, _ => absurd rfl h
  | _, _, _, 0, j + 1, _, _, _, _, _, _, .cons (A := A1) (B := B1) h t, hn, _, e1, e2, e3, e4, hB, hC => by
    cases e1; cases e2
    rw [hB.uniq h]
    obtain ⟨P, C', Q, rfl, g, _⟩ := t.split (i := j) (by simpa using e3) (by simpa using e4)
    rw [hC.uniq g]
    intro b hb hb2
    exact (List.nodup_append.mp hn).2.2 b hb b (by simp [hb2]) rfl
  | _, _, _, i + 1, 0, _, _, _, _, _, _, .cons (A := A1) (B := B1) h t, hn, _, e1, e2, e3, e4, hB, hC => by
    cases e3; cases e4
    rw [hC.uniq h]
    obtain ⟨P, C', Q, rfl, g, _⟩ := t.split (i := i) (by simpa using e1) (by simpa using e2)
    rw [hB.uniq g]
    intro b hb hb2
    exact (List.nodup_append.mp hn).2.2 b hb2 b (by simp [hb]) rfl
  | _, _, _, i + 1, j + 1, _, _, _, _, _, _, .cons (A := A1) (B := B1) h t, hn, hij, e1, e2, e3, e4, hB, hC =>
    t.two (i := i) (j := j) (List.nodup_append.mp hn).2.1 (fun z => hij (by rw [z])) (by simpa using e1) (by simpa using e2) (by simpa using e3) (by simpa using e4) hB hC
theorem OwnA.two {κ : Type} [DecidableEq κ] {i j : κ} {v u : V} {x y : O} {B C : List Addr} : ∀ {vs : List (κ × V)} {xs : List (κ × O)} {A : List Addr}, OwnA K w Hs H vs xs A → A.Nodup → i ≠ j → aget vs i = some v → aget xs i = some x → aget vs j = some u → aget xs j = some y →
    Own K w Hs H v x B → Own K w Hs H u y C → ∀ b ∈ B, b ∉ C
  | _, _, _, .nil, _, _, e1, _, _, _, _, _ => by cases e1
  | _, _, _, .cons (k := k) (A := A1) (B := B1) h t, hn, hij, e1, e2, e3, e4, hB, hC => by
    have n1 := List.nodup_append.mp hn
    unfold aget at e1 e2 e3 e4
    by_cases hi : k = i
    · rw [if_pos hi] at e1 e2
      cases e1; cases e2
      have hj : k ≠ j := fun z => hij (hi.symm.trans z)
      rw [if_neg hj] at e3 e4
      rw [hB.uniq h]
      obtain ⟨P, C', Q, rfl, g, _⟩ := t.split e3 e4
      rw [hC.uniq g]
      intro b hb hb2
      exact n1.2.2 b hb b (by simp [hb2]) rfl
    · rw [if_neg hi] at e1 e2
      by_cases hj : k = j
      · rw [if_pos hj] at e3 e4
        cases e3; cases e4
        rw [hC.uniq h]
        obtain ⟨P, C', Q, rfl, g, _⟩ := t.split e1 e2
        rw [hB.uniq g]
        intro b hb hb2
        exact n1.2.2 b hb2 b (by simp [hb]) rfl
      · rw [if_neg hj] at e3 e4
        exact t.two n1.2.1 hij e1 e2 e3 e4 hB hC
theorem aget_aset {κ α : Type} [DecidableEq κ] {k j : κ} {y : α} : ∀ {xs : List (κ × α)}, aget (aset xs k y) j = if k = j then (aget xs j).map fun _ => y else aget xs j
  | [] => by simp [aget, aset]
  | (k', x) :: xs => by
    have ih := aget_aset (k := k) (j := j) (y := y) (xs := xs)
    unfold aset
    by_cases h1 : k' = k
    · subst h1
      rw [if_pos rfl]
      unfold aget
      by_cases h2 : k' = j
      · rw [if_pos h2, if_pos h2, if_pos h2]; rfl
      · rw [if_neg h2, if_neg h2, if_neg h2]
    · rw [if_neg h1]
      unfold aget
      by_cases h2 : k' = j
      · have h3 : k ≠ j := fun z => h1 (h2.trans z.symm)
        rw [if_pos h2, if_neg h3, if_pos h2]
      · rw [if_neg h2, if_neg h2]
        exact ih
/-- another child -/
theorem Kid.other {v u u2 : V} {o x x2 : O} {c c2 : Sel} {f f2 : O → O} {A : List Addr} (h : Own K w Hs H v o A) (hn : A.Nodup) (k : Kid H v o c u x f) (k2 : Kid H v o c2 u2 x2 f2) :
    (u2 = u ∧ x2 = x ∧ ∀ y, Kid H v (f y) c2 u y f ∨ (∃ g, Kid H v (f y) c2 u y g)) ∨ ((∀ y, ∃ g, Kid H v (f y) c2 u2 x2 g) ∧ ∀ B C, Own K w Hs H u x B → Own K w Hs H u2 x2 C → ∀ b ∈ B, b ∉ C) := by
  cases k with
  | @nst a vs xs i v x e0 e1 e2 =>
    cases k2 with
    | @nst _ vs2 _ j v2 x2 g0 g1 g2 =>
      rw [e0] at g0; cases g0
      by_cases hij : i = j
      · subst hij
        rw [e1] at g1; cases g1
        rw [e2] at g2; cases g2
        exact .inl ⟨rfl, rfl, fun y => .inr ⟨_, .nst e0 e1 (by simp [(List.getElem?_eq_some_iff.mp e2).1])⟩⟩
      · refine .inr ⟨fun y => ⟨_, .nst e0 g1 (by rw [List.getElem?_set_ne hij]; exact g2)⟩, fun B C hB hC => ?_⟩
        cases h with
        | nst h r =>
          rw [e0] at h; cases h
          exact r.two (List.nodup_cons.mp hn).2 hij e1 e2 g1 g2 hB hC
  | @ins a C C' dx vs xs i v x e0 e1 e2 =>
    cases k2 with
    | @ins _ _ _ _ vs2 _ j v2 x2 g0 g1 g2 =>
      rw [e0] at g0; cases g0
      by_cases hij : i = j
      · subst hij
        rw [e1] at g1; cases g1
        rw [e2] at g2; cases g2
        exact .inl ⟨rfl, rfl, fun y => .inr ⟨_, .ins e0 e1 (by rw [aget_aset, if_pos rfl, e2]; rfl)⟩⟩
      · refine .inr ⟨fun y => ⟨_, .ins e0 g1 (by rw [aget_aset, if_neg hij]; exact g2)⟩, fun B C hB hC => ?_⟩
        cases h with
        | ins h h' r =>
          rw [e0] at h; cases h
          exact r.two (List.nodup_cons.mp (List.nodup_cons.mp hn).2).2 hij e1 e2 g1 g2 hB hC
  | @ndk a vs xs i v x e0 e1 e2 =>
    cases k2 with
    | @ndk _ vs2 _ j v2 x2 g0 g1 g2 =>
      rw [e0] at g0; cases g0
      by_cases hij : i = j
      · subst hij
        rw [e1] at g1; cases g1
        rw [e2] at g2; cases g2
        exact .inl ⟨rfl, rfl, fun y => .inr ⟨_, .ndk e0 e1 (by rw [aget_aset, if_pos rfl, e2]; rfl)⟩⟩
      · refine .inr ⟨fun y => ⟨_, .ndk e0 g1 (by rw [aget_aset, if_neg hij]; exact g2)⟩, fun B C hB hC => ?_⟩
        cases h with
        | ndk h r =>
          rw [e0] at h; cases h
          exact r.two (List.nodup_cons.mp hn).2 hij e1 e2 g1 g2 hB hC
  | @ndt a vs xs i v x e0 e1 e2 =>
    cases k2 with
    | @ndt _ vs2 _ j v2 x2 g0 g1 g2 =>
      rw [e0] at g0; cases g0
      by_cases hij : i = j
      · subst hij
        rw [e1] at g1; cases g1
        rw [e2] at g2; cases g2
        exact .inl ⟨rfl, rfl, fun y => .inr ⟨_, .ndt e0 e1 (by rw [aget_aset, if_pos rfl, e2]; rfl)⟩⟩
      · refine .inr ⟨fun y => ⟨_, .ndt e0 g1 (by rw [aget_aset, if_neg hij]; exact g2)⟩, fun B C hB hC => ?_⟩
        cases h with
        | ndt h r =>
          rw [e0] at h; cases h
          exact r.two (List.nodup_cons.mp hn).2 hij e1 e2 g1 g2 hB hC
theorem Kid.heap {v u : V} {o x : O} {c : Sel} {f : O → O} (k : Kid H v o c u x f) (e : ∀ a, v = .ref a → H' a = H a) : Kid H' v o c u x f := by
  cases k with
  | nst e0 e1 e2 => exact .nst ((e _ rfl).trans e0) e1 e2
  | ins e0 e1 e2 => exact .ins ((e _ rfl).trans e0) e1 e2
  | ndk e0 e1 e2 => exact .ndk ((e _ rfl).trans e0) e1 e2
  | ndt e0 e1 e2 => exact .ndt ((e _ rfl).trans e0) e1 e2
theorem Kid.head {v u : V} {o x : O} {c : Sel} {f : O → O} {A C : List Addr} (k : Kid H v o c u x f) (h : Own K w Hs H v o A) (hn : A.Nodup) (hC : Own K w Hs H u x C) : ∃ a, v = .ref a ∧ a ∈ A ∧ a ∉ C := by
  cases k with
  | nst e0 e1 e2 =>
    cases h with
    | nst h r =>
      rw [e0] at h; cases h
      obtain ⟨P, C', Q, rfl, g, _⟩ := r.split e1 e2
      rw [hC.uniq g]
      exact ⟨_, rfl, by simp, fun z => (List.nodup_cons.mp hn).1 (by simp [z])⟩
  | ins e0 e1 e2 =>
    cases h with
    | ins h h' r =>
      rw [e0] at h; cases h
      obtain ⟨P, C', Q, rfl, g, _⟩ := r.split e1 e2
      rw [hC.uniq g]
      exact ⟨_, rfl, by simp, fun z => (List.nodup_cons.mp hn).1 (by simp [z])⟩
  | ndk e0 e1 e2 =>
    cases h with
    | ndk h r =>
      rw [e0] at h; cases h
      obtain ⟨P, C', Q, rfl, g, _⟩ := r.split e1 e2
      rw [hC.uniq g]
      exact ⟨_, rfl, by simp, fun z => (List.nodup_cons.mp hn).1 (by simp [z])⟩
  | ndt e0 e1 e2 =>
    cases h with
    | ndt h r =>
      rw [e0] at h; cases h
      obtain ⟨P, C', Q, rfl, g, _⟩ := r.split e1 e2
      rw [hC.uniq g]
      exact ⟨_, rfl, by simp, fun z => (List.nodup_cons.mp hn).1 (by simp [z])⟩
theorem adr_nil {v : V} {o : O} : adr H v o [] = some v := by cases v <;> cases o <;> rfl
theorem getP_nil {o : O} : getP o [] = some o := by cases o <;> rfl
theorem setP_nil {o y : O} : setP o [] y = y := by cases o <;> rfl
/-- places stay where a place's object is another -/
theorem adr_set : ∀ {p : List Sel} {v u : V} {o x y : O} {A B : List Addr}, Own K w Hs H v o A → A.Nodup → adr H v o p = some u → getP o p = some x → Own K w Hs H u x B → (∀ b ∈ A, b ∉ B → H' b = H b) →
    (∀ q z, adr H u x q = some z → adr H' u y q = some z) → ∀ q z, adr H v o q = some z → adr H' v (setP o p y) q = some z
  | [], v, u, o, x, y, A, B, h, hn, e, g, hB, hb, hy, q, z, ez => by
    rw [adr_nil] at e
    cases e
    rw [getP_nil] at g
    cases g
    rw [setP_nil]
    exact hy q z ez
  | c :: p, v, u, o, x, y, A, B, h, hn, e, g, hB, hb, hy, [], z, ez => by
    rw [adr_nil] at ez ⊢
    exact ez
  | c :: p, v, u, o, x, y, A, B, h, hn, e, g, hB, hb, hy, c2 :: q, z, ez => by
    obtain ⟨v', x1, f, k, e1, e2, e3⟩ := adr_kid e
    obtain ⟨u2, x2, f2, k2, g1, g2, g3⟩ := adr_kid ez
    rw [e3]
    rw [e2] at g
    obtain ⟨A1, C, A2, rfl, hC, _⟩ := k.own h
    have hnC : C.Nodup := (List.nodup_append.mp (List.nodup_append.mp hn).2.1).1
    obtain ⟨x', L, B', R, q1, rfl, q3, _⟩ := own_at hC e1
    rw [g] at q1
    cases q1
    rw [hB.uniq q3] at hb
    obtain ⟨a, ea, ha, hac⟩ := k.head h hn hC
    have hea : ∀ a', v = .ref a' → H' a' = H a' := fun a' z => by
      rw [ea] at z; cases z
      exact hb a ha fun z => hac (by simp [z])
    rcases k.other h hn k2 with ⟨r1, r2, r3⟩ | ⟨r3, r4⟩
    · subst r1 r2
      have ih := adr_set (y := y) hC hnC e1 g q3 (fun b hb1 hb2 => hb b (List.mem_append.mpr (.inr (List.mem_append.mpr (.inl hb1)))) hb2) hy q z g1
      rcases r3 (setP x2 p y) with r3 | ⟨_, r3⟩
      · rw [(r3.heap hea).adr]; exact ih
      · rw [(r3.heap hea).adr]; exact ih
    · obtain ⟨g', r3⟩ := r3 (setP x1 p y)
      rw [(r3.heap hea).adr]
      obtain ⟨P1, C2, P2, eA, hC2, _⟩ := k2.own h
      refine adr_mono hC2 (fun b hb1 => hb b (by rw [eA]; simp [hb1]) fun hb2 => ?_) g1
      exact r4 _ _ hC hC2 b (by simp [hb2]) hb1
end
end VE

set_option maxRecDepth 100000
set_option maxHeartbeats 1000000
namespace VE
open PySem PySem.Spec L2
section
variable {K : PySem.W.Frag} {w : World} {B : Bnd} {Hs Hs' Hs2 H H' : Hp} {ρ ρ' ρ2 : List Addr} {rt : List O} {σ : L2.St} {sl : Sl}

theorem Own.nv {v : V} {o : O} {A : List Addr} (h : Own K w Hs H v o A) : o.isVw = false := by cases h <;> rfl
theorem Own1.link {v u : V} {o : O} {A : List Addr} {p : List Sel} (h : Own1 K w Hs H v o A) (e : ∀ b ∈ A, H' b = H b) (a : adr H v o p = some u) : adr H' v o p = some u := by
  cases hv : o.isVw with
  | false => exact adr_mono (h.own hv) e a
  | true =>
    cases p with
    | nil => rw [adr_nil] at a ⊢; exact a
    | cons c p => cases o <;> first | (exfalso; exact Bool.noConfusion hv) | (cases v <;> simp [adr] at a)
theorem same_upd {H : Hp} {p : Addr} {o : HO} (h : H p = none) : Same H (upd H p o) := fun b u e => by
  rw [upd_ne (ne_of_none e h)]
  exact e
theorem Rel.fresh (R : Rel K w B Hs ρ rt H) {p : Addr} (h : H p = none) : Hs p = none ∧ B.H0 p = none := by
  refine ⟨?_, ?_⟩
  · cases e : Hs p with
    | none => rfl
    | some o => rw [R.same _ _ e] at h; cases h
  · cases e : B.H0 p with
    | none => rfl
    | some o => exact absurd h (R.there p (by rw [e]; exact fun z => nomatch z))
/-- a new object that stays as it is -/
theorem Rel.alloc (R : Rel K w B Hs ρ rt H) {p : Addr} {o : HO} (h : H p = none) : Rel K w B (upd Hs p o) ρ rt (upd H p o) := by
  obtain ⟨f1, f2⟩ := R.fresh h
  obtain ⟨F, hF⟩ := R.own
  refine ⟨fun b u e => ?_, R.len, ⟨F, fun i x e => ?_⟩, fun b u e => ?_, fun b e => ?_, fun b e => ?_, fun k n q e => ?_⟩
  · by_cases hb : b = p
    · subst hb
      rw [upd_same] at e ⊢
      exact e
    · rw [upd_ne hb] at e ⊢
      exact R.same _ _ e
  · obtain ⟨a, e1, h1, h2, h3, h4⟩ := hF i x e
    have hne : ∀ b ∈ F i, b ≠ p := fun b hb z => h1.there b hb (by rw [z]; exact h)
    refine ⟨a, e1, h1.mono (same_upd f1) fun b hb => upd_ne (hne b hb), h2, fun b hb => ?_, h4⟩
    rw [upd_ne (hne b hb)]
    exact h3 b hb
  · rcases R.frame b u e with z | z
    · exact .inl z
    · exact .inr (by rw [upd_ne (ne_of_none z h)]; exact z)
  · by_cases hb : b = p
    · subst hb
      rw [upd_same]
      exact fun z => nomatch z
    · rw [upd_ne hb]
      exact R.there b e
  · by_cases hb : b = p
    · subst hb
      exact .inr (.inl f2)
    · rw [upd_ne hb] at e
      exact R.pers b e
  · obtain ⟨a, b, x, h1, h2, h3, h5, h4⟩ := R.lk k n q e
    obtain ⟨_, eb, g1, _⟩ := hF n x h3
    rw [h2] at eb; cases eb
    exact ⟨a, b, x, h1, h2, h3, h5, g1.link (fun c hc => upd_ne fun z => g1.there c hc (by rw [z]; exact h)) h4⟩
def ov (F : Nat → List Addr) (n : Nat) (A : List Addr) : Nat → List Addr := fun i => if i = n then A else F i
theorem ov_same {F : Nat → List Addr} {n : Nat} {A : List Addr} : ov F n A n = A := if_pos rfl
theorem ov_ne {F : Nat → List Addr} {n i : Nat} {A : List Addr} (h : i ≠ n) : ov F n A i = F i := if_neg h
/-- a new root -/
theorem Rel.push (R : Rel K w B Hs ρ rt H) {p : Addr} {o : O} {u : HO} (h : H p = none) (ho : Own K w Hs (upd H p u) (.ref p) o [p]) : Rel K w B Hs (ρ ++ [p]) (rt ++ [o]) (upd H p u) := by
  obtain ⟨f1, f2⟩ := R.fresh h
  obtain ⟨F, hF⟩ := R.own
  refine ⟨fun b u e => ?_, by simp [R.len], ⟨ov F rt.length [p], fun i x e => ?_⟩, fun b u e => ?_, fun b e => ?_, R.pers, fun k n q e => ?_⟩
  · rw [upd_ne (fun z => by rw [z, f1] at e; cases e)]
    exact R.same _ _ e
  · by_cases hi : i < rt.length
    · rw [List.getElem?_append_left hi] at e
      obtain ⟨a, e1, h1, h2, h3, h4⟩ := hF i x e
      have hne : ∀ b ∈ F i, b ≠ p := fun b hb z => h1.there b hb (by rw [z]; exact h)
      rw [ov_ne (show i ≠ rt.length by omega)]
      refine ⟨a, by rw [List.getElem?_append_left (by rw [R.len]; exact hi)]; exact e1, h1.mono Same.rfl' fun b hb => upd_ne (hne b hb), h2, h3, fun j hj hij b hb => ?_⟩
      by_cases hjn : j = rt.length
      · rw [hjn, ov_same]
        intro z
        exact hne b hb (List.mem_singleton.mp z)
      · rw [ov_ne hjn]
        refine h4 j ?_ hij b hb
        simp only [List.length_append, List.length_singleton] at hj
        omega
    · have hi2 : i = rt.length := by
        have := (List.getElem?_eq_some_iff.mp e).1
        simp only [List.length_append, List.length_singleton] at this
        omega
      subst hi2
      rw [List.getElem?_append_right (Nat.le_refl _), Nat.sub_self] at e
      cases e
      rw [ov_same]
      refine ⟨p, ?_, .of ho, by simp, fun b hb => ?_, fun j hj hij b hb => ?_⟩
      · rw [← R.len, List.getElem?_append_right (Nat.le_refl _), Nat.sub_self]
        rfl
      · rw [List.mem_singleton.mp hb]
        exact ⟨f1, .inr f2⟩
      · rw [ov_ne hij, List.mem_singleton.mp hb]
        intro z
        simp only [List.length_append, List.length_singleton] at hj
        obtain ⟨o2, ho2⟩ : ∃ o2, rt[j]? = some o2 := ⟨rt[j]'(by omega), by simp [show j < rt.length by omega]⟩
        obtain ⟨_, _, h1, _⟩ := hF j o2 ho2
        exact h1.there p z h
  · rcases R.frame b u e with z | z
    · exact .inl z
    · exact .inr (by rw [upd_ne (ne_of_none z h)]; exact z)
  · by_cases hb : b = p
    · subst hb
      rw [upd_same]
      exact fun z => nomatch z
    · rw [upd_ne hb]
      exact R.there b e
  · have hk : k < rt.length := by
      by_cases hk : k < rt.length
      · exact hk
      · have hk2 : k = rt.length := by
          have := (List.getElem?_eq_some_iff.mp e).1
          simp only [List.length_append, List.length_singleton] at this
          omega
        subst hk2
        rw [List.getElem?_append_right (Nat.le_refl _), Nat.sub_self] at e
        cases e
        cases ho
    rw [List.getElem?_append_left hk] at e
    obtain ⟨a, b, x, h1, h2, h3, h5, h4⟩ := R.lk k n q e
    obtain ⟨_, eb, g1, _⟩ := hF n x h3
    rw [h2] at eb; cases eb
    have hn := (List.getElem?_eq_some_iff.mp h3).1
    exact ⟨a, b, x, by rw [List.getElem?_append_left (by rw [R.len]; exact hk)]; exact h1, by rw [List.getElem?_append_left (by rw [R.len]; exact hn)]; exact h2, by rw [List.getElem?_append_left hn]; exact h3, h5,
      g1.link (fun c hc => upd_ne fun z => g1.there c hc (by rw [z]; exact h)) h4⟩
theorem Ext.push {p : Addr} : Ext Hs ρ Hs (ρ ++ [p]) := ⟨fun _ _ h => h, [p], rfl⟩

/-! ### reading and writing at a number -/
def rd (rt : List O) (k : Nat) : Option O := match rt[k]? with
  | some (.vw n p) => (rt[n]?).bind fun o => getP o p
  | o => o
def wr (rt : List O) (k : Nat) (y : O) : List O := match rt[k]? with
  | some (.vw n p) => match rt[n]? with
    | some o => rt.set n (setP o p y)
    | none => rt
  | _ => rt.set k y
def locR (rt : List O) (k : Nat) : Nat × List Sel := match rt[k]? with
  | some (.vw n p) => (n, p)
  | _ => (k, [])
/-- where a number leads -/
theorem Rel.loc (R : Rel K w B Hs ρ rt H) {k : Nat} {v : V} {x : O} (d : WD K w Hs ρ v (.r k)) (e : rd rt k = some x) (hx : x.isVw = false) :
    ∃ a n p b o, v = .ref a ∧ ρ[n]? = some b ∧ rt[n]? = some o ∧ o.isVw = false ∧ adr H (.ref b) o p = some (.ref a) ∧ getP o p = some x ∧ (∀ y, wr rt k y = rt.set n (setP o p y)) ∧ locR rt k = (n, p) := by
  obtain ⟨a, ea, rfl⟩ := d
  unfold rd at e
  cases hk : rt[k]? with
  | none => simp only [hk] at e; cases e
  | some o =>
    cases o with
    | vw n p =>
      simp only [hk] at e
      obtain ⟨a', b, o, h1, h2, h3, h5, h4⟩ := R.lk k n p hk
      rw [ea] at h1; cases h1
      rw [h3] at e
      have e : getP o p = some x := e
      exact ⟨a, n, p, b, o, rfl, h2, h3, h5, h4, e, fun y => by unfold wr; simp only [hk, h3], by unfold locR; simp only [hk]⟩
    | _ =>
      simp only [hk] at e
      cases e
      exact ⟨a, k, [], a, _, rfl, ea, hk, rfl, adr_nil, getP_nil, fun y => by unfold wr; simp only [hk, setP_nil], by unfold locR; simp only [hk]⟩
theorem Rel.has (R : Rel K w B Hs ρ rt H) {k : Nat} {v : V} (d : WD K w Hs ρ v (.r k)) : ∃ x, rd rt k = some x ∧ x.isVw = false := by
  obtain ⟨a, ea, rfl⟩ := d
  have hk : k < rt.length := by rw [← R.len]; exact (List.getElem?_eq_some_iff.mp ea).1
  have ho : rt[k]? = some rt[k] := by simp [hk]
  unfold rd
  rw [ho]
  cases hv : rt[k].isVw with
  | false =>
    refine ⟨rt[k], ?_, hv⟩
    cases he : rt[k] <;> first | rfl | (rw [he] at hv; cases hv)
  | true =>
    cases he : rt[k] <;> first | (rw [he] at hv; cases hv; done) | skip
    rename_i n p
    obtain ⟨a', b, o, h1, h2, h3, h5, h4⟩ := R.lk k n p (by rw [ho, he])
    obtain ⟨F, hF⟩ := R.own
    obtain ⟨b', eb, g1, _⟩ := hF n o h3
    rw [h2] at eb; cases eb
    obtain ⟨x, _, _, _, q1, _, q3, _⟩ := own_at (g1.own h5) h4
    exact ⟨x, by simp [h3, q1], q3.nv⟩
theorem Rel.at (R : Rel K w B Hs ρ rt H) {k : Nat} {v : V} {x : O} (d : WD K w Hs ρ v (.r k)) (e : rd rt k = some x) (hx : x.isVw = false) :
    ∃ a C, v = .ref a ∧ Own K w Hs H (.ref a) x C ∧ C.Nodup ∧ (∀ b ∈ C, Hs b = none ∧ (b ∈ B.M ∨ B.H0 b = none)) ∧
      ∀ y u, a ∈ C → Own K w Hs (upd H a u) (.ref a) y C → (∀ q z, adr H (.ref a) x q = some z → adr (upd H a u) (.ref a) y q = some z) → Rel K w B Hs ρ (wr rt k y) (upd H a u) := by
  obtain ⟨a, n, p, b, o, rfl, hb, ho, hv, h1, h2, h3, _⟩ := R.loc d e hx
  obtain ⟨F, hF⟩ := R.own
  obtain ⟨b', eb, g1, g2, g3, g4⟩ := hF n o ho
  rw [hb] at eb; cases eb
  have g1 := g1.own hv
  obtain ⟨x', L, C, Q, q1, q2, q3, q4⟩ := own_at g1 h1
  rw [h2] at q1; cases q1
  have hn : n < rt.length := (List.getElem?_eq_some_iff.mp ho).1
  have sub : ∀ c ∈ C, c ∈ F n := fun c hc => by rw [q2]; simp [hc]
  have nd : (L ++ (C ++ Q)).Nodup := by rw [← q2]; exact g2
  refine ⟨a, C, rfl, q3, (List.nodup_append.mp (List.nodup_append.mp nd).2.1).1, fun c hc => g3 c (sub c hc), fun y u haC hy hl => ?_⟩
  rw [h3]
  have haF := sub a haC
  obtain ⟨p1, p2⟩ := g3 a haF
  have hHa : H a ≠ none := g1.there a haF
  have new : Own K w Hs (upd H a u) (.ref b) (setP o p y) (F n) := by
    rw [q2]
    refine q4 _ y C (fun c hc => upd_ne fun z => ?_) hy
    rw [z] at hc
    rcases List.mem_append.mp hc with hc | hc
    · exact (List.nodup_append.mp nd).2.2 a hc a (by simp [haC]) rfl
    · exact (List.nodup_append.mp (List.nodup_append.mp nd).2.1).2.2 a haC a hc rfl
  refine ⟨fun c v e => ?_, by simp [R.len], ⟨F, fun i z e => ?_⟩, fun c v e => ?_, fun c e => ?_, R.pers, fun k' m q e => ?_⟩
  · rw [upd_ne (fun z => by rw [z, p1] at e; cases e)]
    exact R.same _ _ e
  · by_cases hi : n = i
    · subst hi
      rw [List.getElem?_set_self hn] at e
      cases e
      exact ⟨b, hb, .of new, g2, g3, fun j hj hij => g4 j (by simpa using hj) hij⟩
    · rw [List.getElem?_set_ne hi] at e
      obtain ⟨c, e1, r1, r2, r3, r4⟩ := hF i z e
      have hne : ∀ c ∈ F i, c ≠ a := fun c hc z => r4 n hn hi c hc (by rw [z]; exact haF)
      exact ⟨c, e1, r1.mono Same.rfl' fun c hc => upd_ne (hne c hc), r2, r3, fun j hj hij => r4 j (by simpa using hj) hij⟩
  · by_cases hc : c = a
    · subst hc
      rcases p2 with z | z
      · exact .inl z
      · rw [z] at e; cases e
    · rw [upd_ne hc]
      exact R.frame c v e
  · by_cases hc : c = a
    · subst hc
      rw [upd_same]
      exact fun z => nomatch z
    · rw [upd_ne hc]
      exact R.there c e
  · have hkn : n ≠ k' := fun z => by
      subst z
      rw [List.getElem?_set_self hn] at e
      have e := Option.some.inj e
      rw [e] at new
      cases new
    rw [List.getElem?_set_ne hkn] at e
    obtain ⟨a', b', o', r1, r2, r3, r5, r4⟩ := R.lk k' m q e
    by_cases hm : n = m
    · subst hm
      rw [ho] at r3; cases r3
      rw [hb] at r2; cases r2
      exact ⟨a', b, _, r1, hb, List.getElem?_set_self hn, new.nv, adr_set g1 g2 h1 h2 q3 (fun c hc hc2 => upd_ne fun z => hc2 (by rw [z]; exact haC)) hl q _ r4⟩
    · obtain ⟨_, eb, s1, s2, s3, s4⟩ := hF m o' r3
      rw [r2] at eb; cases eb
      exact ⟨a', b', o', r1, r2, by rw [List.getElem?_set_ne hm]; exact r3, r5, s1.link (fun c hc => upd_ne fun z => s4 n hn hm c hc (by rw [z]; exact haF)) r4⟩

/-- a root becomes plain, and what leads into it -/
def vfz (n : Nat) (o : O) : O → O
  | .vw m q => if m = n then (match getP o q with
    | some x => .d x.toD
    | none => .vw m q) else .vw m q
  | z => z
def frz (n : Nat) (o : O) (rt : List O) : List O := (rt.set n (.d o.toD)).map (vfz n o)
theorem vfz_vw {n m : Nat} {o : O} {q : List Sel} : vfz n o (.vw m q) = if m = n then (match getP o q with | some x => .d x.toD | none => .vw m q) else .vw m q := rfl
theorem vfz_nv {n : Nat} {o z : O} (h : z.isVw = false) : vfz n o z = z := by cases z <;> first | rfl | cases h
theorem Rel.freeze (R : Rel K w B Hs ρ rt H) {n : Nat} {a : Addr} {o : O} (ha : ρ[n]? = some a) (ho : rt[n]? = some o) (hv : o.isVw = false) :
    ∃ Hs', Same Hs Hs' ∧ Den K w Hs' (.ref a) o.toD ∧ Rel K w B Hs' ρ (frz n o rt) H ∧ ∀ p u x, adr H (.ref a) o p = some u → getP o p = some x → Den K w Hs' u x.toD := by
  obtain ⟨F, hF⟩ := R.own
  obtain ⟨a', ea, g1, g2, g3, g4⟩ := hF n o ho
  rw [ha] at ea
  cases ea
  have g1 := g1.own hv
  have hn : n < rt.length := (List.getElem?_eq_some_iff.mp ho).1
  have s1 : Same Hs fun b => if b ∈ F n then H b else Hs b := fun b v e => by
    by_cases hb : b ∈ F n
    · rw [(g3 b hb).1] at e; cases e
    · show (if b ∈ F n then H b else Hs b) = some v
      rw [if_neg hb]; exact e
  have dn := g1.den s1 fun b hb => if_pos hb
  have kid : ∀ p u x, adr H (.ref a) o p = some u → getP o p = some x → Den K w (fun b => if b ∈ F n then H b else Hs b) u x.toD := fun p u x e1 e2 => by
    obtain ⟨x', L, C, Q, q1, q2, q3, _⟩ := own_at g1 e1
    rw [e2] at q1; cases q1
    exact q3.den s1 fun b hb => if_pos (by rw [q2]; simp [hb])
  have some' : ∀ p u, adr H (.ref a) o p = some u → ∃ x, getP o p = some x := fun p u e => by
    obtain ⟨x', _, _, _, q1, _⟩ := own_at g1 e
    exact ⟨x', q1⟩
  have at' : ∀ i z, (frz n o rt)[i]? = some z → (i = n ∧ z = .d o.toD) ∨ (n ≠ i ∧ ∃ z', rt[i]? = some z' ∧ z = vfz n o z') := fun i z e => by
    unfold frz at e
    rw [List.getElem?_map] at e
    obtain ⟨z', e1, rfl⟩ := Option.map_eq_some_iff.mp e
    by_cases hi : n = i
    · subst hi
      rw [List.getElem?_set_self hn] at e1
      cases e1
      exact .inl ⟨rfl, rfl⟩
    · rw [List.getElem?_set_ne hi] at e1
      exact .inr ⟨hi, z', e1, rfl⟩
  have lenF : (frz n o rt).length = rt.length := by simp [frz]
  refine ⟨fun b => if b ∈ F n then H b else Hs b, s1, dn, ⟨fun b v e => ?_, by rw [lenF, R.len], ⟨ov F n [], fun i x e => ?_⟩, R.frame, R.there, fun b e => ?_, fun k m q e => ?_⟩, kid⟩
  · by_cases hb : b ∈ F n
    · rw [if_pos hb] at e; exact e
    · rw [if_neg hb] at e; exact R.same _ _ e
  · rcases at' i x e with ⟨rfl, rfl⟩ | ⟨hi, z, hz, rfl⟩
    · rw [ov_same]
      exact ⟨a, ha, .of (.d dn), by simp, (fun _ hb => by cases hb), (fun _ _ _ _ hb => by cases hb)⟩
    · obtain ⟨c, e1, h1, h2, h3, h4⟩ := hF i z hz
      rw [ov_ne (Ne.symm hi)]
      refine ⟨c, e1, ?_, h2, fun b hb => ?_, fun j hj hij b hb => ?_⟩
      · have h1' := h1.mono s1 (H' := H) fun b hb => rfl
        cases z with
        | vw m q =>
          rw [vfz_vw]
          by_cases hm : m = n
          · subst hm
            obtain ⟨a2, b2, o2, r1, r2, r3, r5, r4⟩ := R.lk i m q hz
            rw [ho] at r3; cases r3
            rw [ha] at r2; cases r2
            rw [e1] at r1; cases r1
            obtain ⟨y, hy⟩ := some' _ _ r4
            have hF0 : F i = [] := h1
            rw [if_pos rfl, hy, hF0]
            exact .of (.d (kid _ _ _ r4 hy))
          · rw [if_neg hm]; exact h1'
        | _ => exact h1'
      · have q : b ∉ F n := h4 n hn (fun z => hi z) b hb
        show (if b ∈ F n then H b else Hs b) = none ∧ _
        rw [if_neg q]
        exact h3 b hb
      · by_cases hj2 : j = n
        · rw [hj2, ov_same]; exact fun z => nomatch z
        · rw [ov_ne hj2]
          exact h4 j (by rw [lenF] at hj; exact hj) hij b hb
  · by_cases hb : b ∈ F n
    · exact .inr ((g3 b hb).2.symm)
    · rw [if_neg hb] at e
      exact R.pers b e
  · rcases at' k _ e with ⟨rfl, z⟩ | ⟨hi, z, hz, ez⟩
    · cases z
    · cases hzv : z.isVw with
      | false =>
        rw [vfz_nv hzv] at ez
        subst ez
        cases hzv
      | true =>
        cases z <;> first | (exfalso; exact Bool.noConfusion hzv) | skip
        rename_i m' q'
        obtain ⟨a2, b2, o2, r1, r2, r3, r5, r4⟩ := R.lk k m' q' hz
        rw [vfz_vw] at ez
        by_cases hm : m' = n
        · subst hm
          rw [ho] at r3; cases r3
          rw [ha] at r2; cases r2
          obtain ⟨y, hy⟩ := some' _ _ r4
          rw [if_pos rfl, hy] at ez
          cases ez
        · rw [if_neg hm] at ez
          cases ez
          have hx : (frz n o rt)[m]? = some (vfz n o o2) := by
            unfold frz
            rw [List.getElem?_map, List.getElem?_set_ne (Ne.symm hm), r3]
            rfl
          rw [vfz_nv r5] at hx
          exact ⟨a2, b2, _, r1, r2, hx, r5, r4⟩
end
end VE

set_option maxRecDepth 100000
set_option maxHeartbeats 1000000
namespace VE
open PySem PySem.Spec L2

/-- an exception's class -/
inductive XC where
  | own (C : Addr) | bi (n : String)
def XC.val : XC → Value
  | .own C => .ref C
  | .bi n => .type n
/-- what an expression comes to: a value and the roots; an exception; or nothing that is told here -/
inductive Ou (α : Type) where
  | ok (a : α) (rt : List O)
  | ex (c : XC) (fs : List (Str × D)) (rt : List O)
  | no
abbrev Ex (α : Type) := Sl → List O → Ou α
def Ou.bind {α β : Type} (o : Ou α) (k : α → List O → Ou β) : Ou β := match o with
  | .ok a rt => k a rt
  | .ex c fs rt => .ex c fs rt
  | .no => .no
/-- what a statement comes to -/
inductive Os where
  | nx (sl : Sl) (rt : List O)
  | re (x : W) (rt : List O)
  | bk (sl : Sl) (rt : List O)
  | ct (sl : Sl) (rt : List O)
  | ex (c : XC) (fs : List (Str × D)) (sl : Sl) (rt : List O)
  | no
abbrev Sx := Sl → List O → Os
def Ou.seq {α : Type} (o : Ou α) (sl : Sl) (k : α → List O → Os) : Os := match o with
  | .ok a rt => k a rt
  | .ex c fs rt => .ex c fs sl rt
  | .no => .no
/-- where nothing may be raised -/
def Ou.noex {α : Type} (o : Ou α) : Ou α := match o with
  | .ok a rt => .ok a rt
  | _ => .no

/-- an exception's own dict -/
def XD (K : PySem.W.Frag) (w : World) (Hs : Hp) : Option Addr → List (Str × D) → Prop
  | none, fs => fs = []
  | some dx, fs => ∃ vs, Hs dx = some (.xd vs) ∧ DenA K w Hs vs fs

section
variable (K : PySem.W.Frag) (w : World) (B : Bnd) (Wx : WX) (Hs : Hp) (ρ : List Addr) (σ : L2.St)
/-- whatever stands for the result, R holds -/
def PEx {α β : Type} (rel : Hp → List Addr → β → α → Prop) (o : Ou α) (Q : β → Hp → Prop) : Prop := match o with
  | .ok x rt => ∀ v Hs' ρ' H', Ext Hs ρ Hs' ρ' → Rel K w B Hs' ρ' rt H' → rel Hs' ρ' v x → Q v H'
  | .ex c fs rt => ∀ d Hs' ρ' H', Ext Hs ρ Hs' ρ' → Rel K w B Hs' ρ' rt H' → XD K w Hs' d fs → Wx c.val d σ H'
  | .no => False
abbrev PE1 (o : Ou W) (Q : VK) : Prop := PEx K w B Wx Hs ρ σ (fun h r => WD K w h r) o Q
abbrev PT1 (o : Ou Bool) (Q : Bool → Hp → Prop) : Prop := PEx K w B Wx Hs ρ σ (fun _ _ a b => a = b) o Q
inductive WDs (K : PySem.W.Frag) (w : World) (Hs : Hp) (ρ : List Addr) : List V → List W → Prop
  | nil : WDs K w Hs ρ [] []
  | cons {v : V} {x : W} {vs : List V} {xs : List W} : WD K w Hs ρ v x → WDs K w Hs ρ vs xs → WDs K w Hs ρ (v :: vs) (x :: xs)
abbrev PA1 (o : Ou (List W)) (Q : List V → Hp → Prop) : Prop := PEx K w B Wx Hs ρ σ (fun h r => WDs K w h r) o Q
/-- the end of a statement -/
def PSx (n : Nat) (o : Os) (D : Ends) : Prop := match o with
  | .nx sl rt => ∀ Hs' ρ' σ' H', Ext Hs ρ Hs' ρ' → Rel K w B Hs' ρ' rt H' → SlD K w Hs' ρ' σ' sl → σ'.length = n → D.nx σ' H'
  | .bk sl rt => ∀ Hs' ρ' σ' H', Ext Hs ρ Hs' ρ' → Rel K w B Hs' ρ' rt H' → SlD K w Hs' ρ' σ' sl → σ'.length = n → D.bk σ' H'
  | .ct sl rt => ∀ Hs' ρ' σ' H', Ext Hs ρ Hs' ρ' → Rel K w B Hs' ρ' rt H' → SlD K w Hs' ρ' σ' sl → σ'.length = n → D.ct σ' H'
  | .re x rt => ∀ v Hs' ρ' H', Ext Hs ρ Hs' ρ' → Rel K w B Hs' ρ' rt H' → WD K w Hs' ρ' v x → D.rt v H'
  | .ex c fs sl rt => ∀ d Hs' ρ' σ' H', Ext Hs ρ Hs' ρ' → Rel K w B Hs' ρ' rt H' → XD K w Hs' d fs → SlD K w Hs' ρ' σ' sl → σ'.length = n → Wx c.val d σ' H'
  | .no => False
end
theorem WDs.mono {K : PySem.W.Frag} {w : World} {Hs Hs' : Hp} {ρ ρ' : List Addr} (a : Ext Hs ρ Hs' ρ') : ∀ {vs : List V} {xs : List W}, WDs K w Hs ρ vs xs → WDs K w Hs' ρ' vs xs
  | _, _, .nil => .nil
  | _, _, .cons h t => .cons (h.mono a) (t.mono a)

section
variable {K : PySem.W.Frag} {w : World} {B : Bnd} {Wx : WX} {Hs Hs' H : Hp} {ρ ρ' : List Addr} {σ : L2.St}
theorem PEx.ext {α β : Type} {rel : Hp → List Addr → β → α → Prop} {o : Ou α} {Q : β → Hp → Prop} (h : PEx K w B Wx Hs ρ σ rel o Q) (e : Ext Hs ρ Hs' ρ') : PEx K w B Wx Hs' ρ' σ rel o Q := by
  cases o with
  | ok x rt => exact fun v Hs2 ρ2 H2 e2 => h v Hs2 ρ2 H2 (e.trans e2)
  | ex c fs rt => exact fun d Hs2 ρ2 H2 e2 => h d Hs2 ρ2 H2 (e.trans e2)
  | no => exact h
theorem PSx.ext {n : Nat} {o : Os} {D : Ends} (h : PSx K w B Wx Hs ρ n o D) (e : Ext Hs ρ Hs' ρ') : PSx K w B Wx Hs' ρ' n o D := by
  cases o with
  | nx sl rt => exact fun Hs2 ρ2 σ2 H2 e2 => h Hs2 ρ2 σ2 H2 (e.trans e2)
  | bk sl rt => exact fun Hs2 ρ2 σ2 H2 e2 => h Hs2 ρ2 σ2 H2 (e.trans e2)
  | ct sl rt => exact fun Hs2 ρ2 σ2 H2 e2 => h Hs2 ρ2 σ2 H2 (e.trans e2)
  | re x rt => exact fun v Hs2 ρ2 H2 e2 => h v Hs2 ρ2 H2 (e.trans e2)
  | ex c fs sl rt => exact fun d Hs2 ρ2 σ2 H2 e2 => h d Hs2 ρ2 σ2 H2 (e.trans e2)
  | no => exact h
/-- one thing behind another -/
theorem PEx.bind {α β γ δ : Type} {rel : Hp → List Addr → β → α → Prop} {rel2 : Hp → List Addr → δ → γ → Prop} {o : Ou α} {k : α → List O → Ou γ} {Q : β → Hp → Prop} {Q2 : δ → Hp → Prop}
    (h : PEx K w B Wx Hs ρ σ rel2 (o.bind k) Q2) (hk : ∀ x rt v Hs' ρ' H', Ext Hs ρ Hs' ρ' → Rel K w B Hs' ρ' rt H' → rel Hs' ρ' v x → PEx K w B Wx Hs' ρ' σ rel2 (k x rt) Q2 → Q v H') : PEx K w B Wx Hs ρ σ rel o Q := by
  cases o with
  | ok x rt => exact fun v Hs2 ρ2 H2 e2 r2 d2 => hk x rt v Hs2 ρ2 H2 e2 r2 d2 (PEx.ext (o := k x rt) h e2)
  | ex c fs rt => exact h
  | no => exact h
theorem PEx.seq {α β : Type} {rel : Hp → List Addr → β → α → Prop} {o : Ou α} {sl : Sl} {k : α → List O → Os} {Q : β → Hp → Prop} {D : Ends} (S : SlD K w Hs ρ σ sl)
    (h : PSx K w B Wx Hs ρ σ.length (o.seq sl k) D) (hk : ∀ x rt v Hs' ρ' H', Ext Hs ρ Hs' ρ' → Rel K w B Hs' ρ' rt H' → rel Hs' ρ' v x → PSx K w B Wx Hs' ρ' σ.length (k x rt) D → Q v H') : PEx K w B Wx Hs ρ σ rel o Q := by
  cases o with
  | ok x rt => exact fun v Hs2 ρ2 H2 e2 r2 d2 => hk x rt v Hs2 ρ2 H2 e2 r2 d2 (PSx.ext (o := k x rt) h e2)
  | ex c fs rt => exact fun d Hs2 ρ2 H2 e2 r2 x2 => h d Hs2 ρ2 σ H2 e2 r2 x2 (S.mono e2) rfl
  | no => exact h
end

/-! ### the judgements -/
structure VX (X : Cx) (Wx : WX) (e : Expr) (m : Ex W) : Prop where
  ex : ∃ t, PE X e t ∧ ∀ (B : Bnd) (Hs : Hp) (ρ : List Addr) (sl : Sl) (rt : List O) (σ : L2.St) (H : Hp) (Q : VK), Rel X.K X.w B Hs ρ rt H → SlD X.K X.w Hs ρ σ sl → PE1 X.K X.w B Wx Hs ρ σ (m sl rt) Q → t σ H Q
structure VT (X : Cx) (Wx : WX) (e : Expr) (m : Ex Bool) : Prop where
  ex : ∃ t, PT X e t ∧ ∀ (B : Bnd) (Hs : Hp) (ρ : List Addr) (sl : Sl) (rt : List O) (σ : L2.St) (H : Hp) (Q : Bool → Hp → Prop), Rel X.K X.w B Hs ρ rt H → SlD X.K X.w Hs ρ σ sl → PT1 X.K X.w B Wx Hs ρ σ (m sl rt) Q → t σ H Q
structure VA (X : Cx) (Wx : WX) (es : List Expr) (m : Ex (List W)) : Prop where
  ex : ∃ t, PA X es t ∧ ∀ (B : Bnd) (Hs : Hp) (ρ : List Addr) (sl : Sl) (rt : List O) (σ : L2.St) (H : Hp) (Q : List V → Hp → Prop), Rel X.K X.w B Hs ρ rt H → SlD X.K X.w Hs ρ σ sl → PA1 X.K X.w B Wx Hs ρ σ (m sl rt) Q → t σ H Q
structure VS (X : Cx) (Wx : WX) (st : Stmt) (m : Sx) : Prop where
  ex : ∃ t, PS X st t ∧ ∀ (B : Bnd) (Hs : Hp) (ρ : List Addr) (sl : Sl) (rt : List O) (σ : L2.St) (H : Hp) (D : Ends), Rel X.K X.w B Hs ρ rt H → SlD X.K X.w Hs ρ σ sl → PSx X.K X.w B Wx Hs ρ σ.length (m sl rt) D → t D σ H
structure VSs (X : Cx) (Wx : WX) (st : List Stmt) (m : Sx) : Prop where
  ex : ∃ t, PSs X st t ∧ ∀ (B : Bnd) (Hs : Hp) (ρ : List Addr) (sl : Sl) (rt : List O) (σ : L2.St) (H : Hp) (D : Ends), Rel X.K X.w B Hs ρ rt H → SlD X.K X.w Hs ρ σ sl → PSx X.K X.w B Wx Hs ρ σ.length (m sl rt) D → t D σ H

section
variable {X : Cx} {Wx : WX} {a b e : Expr} {pos : Pos} {ma mb : Ex W}

/-! ### names, constants -/
def eVar (i : Nat) : Ex W := fun sl rt => match sl[i]? with
  | some (some x) => .ok x rt
  | _ => .no
def eC (x : D) : Ex W := fun _ rt => .ok (.d x) rt
theorem vx_pe {t : TE} {m : Ex W} (h : PE X e t) (q : ∀ (B : Bnd) (Hs : Hp) (ρ : List Addr) (sl : Sl) (rt : List O) (σ : L2.St) (H : Hp) (Q : VK), Rel X.K X.w B Hs ρ rt H → SlD X.K X.w Hs ρ σ sl → PE1 X.K X.w B Wx Hs ρ σ (m sl rt) Q → t σ H Q) : VX X Wx e m := ⟨⟨t, h, q⟩⟩
theorem vx_var (i : Nat) {x : Str} (hN : X.N[i]? = some x := by rfl) (hv : Vis X.env.scope x := by first | exact Or.inl rfl | exact Or.inr (Or.inl rfl) | exact Or.inr (Or.inr rfl)) (hd : (x == ("__debug__" : Str)) = false := by decide)
    (hcd : (x == ("__classdict__" : Str)) = false := by decide) : VX X Wx (.Name x pos) (eVar i) := vx_pe (pe_var hN hv hd hcd) fun B Hs ρ sl rt σ H Q R S p => by
  unfold eVar at p
  cases h : sl[i]? with
  | none => simp only [h] at p; exact p.elim
  | some o =>
    cases o with
    | none => simp only [h] at p; exact p.elim
    | some x =>
      simp only [h] at p
      obtain ⟨v, e1, e2⟩ := S.at_ i x h
      exact ⟨v, e1, p v Hs ρ H Ext.refl R e2⟩
theorem vx_c {x : D} {v : V} (h : PE X e (tC v)) (d : ∀ Hs, Den X.K X.w Hs v x) : VX X Wx e (eC x) := vx_pe h fun B Hs ρ sl rt σ H Q R S p => p v Hs ρ H Ext.refl R (d Hs)
theorem vx_int {i : Int} {j : Nat} : VX X Wx (.Constant (.int i) j pos) (eC (.int i)) := vx_c pe_int fun _ => .int i
theorem vx_bl {b : Bool} {j : Nat} : VX X Wx (.Constant (.bool b) j pos) (eC (.bl b)) := vx_c pe_bl fun _ => .bl b
theorem vx_non {j : Nat} : VX X Wx (.Constant .none j pos) (eC .non) := vx_c pe_non fun _ => .non
theorem vx_str {x : Str} {j : Nat} : VX X Wx (.Constant (.str x) j pos) (eC (.str x)) := vx_c pe_str fun _ => .str x

/-! ### operators -/
structure OpV (X : Cx) (f : Value → Value → Sem Value) (g : W → W → List O → Ou W) : Prop where
  ex : ∃ r, OpR X f r ∧ ∀ (Wx : WX) (B : Bnd) (Hs : Hp) (ρ : List Addr) (rt : List O) (σ : L2.St) (H : Hp) (Q : VK) (x y : W) (v u : V), Rel X.K X.w B Hs ρ rt H → WD X.K X.w Hs ρ v x → WD X.K X.w Hs ρ u y → PE1 X.K X.w B Wx Hs ρ σ (g x y rt) Q → r v u H Q
def eOp (g : W → W → List O → Ou W) (ma mb : Ex W) : Ex W := fun sl rt => (ma sl rt).bind fun x rt => (mb sl rt).bind fun y rt => g x y rt
/-- two operands, from the left -/
theorem two_op {r : R2} {g : W → W → List O → Ou W} {ta tb : TE} (hr : ∀ (Wx : WX) (B : Bnd) (Hs : Hp) (ρ : List Addr) (rt : List O) (σ : L2.St) (H : Hp) (Q : VK) (x y : W) (v u : V), Rel X.K X.w B Hs ρ rt H → WD X.K X.w Hs ρ v x → WD X.K X.w Hs ρ u y → PE1 X.K X.w B Wx Hs ρ σ (g x y rt) Q → r v u H Q)
    (ha : ∀ (B : Bnd) (Hs : Hp) (ρ : List Addr) (sl : Sl) (rt : List O) (σ : L2.St) (H : Hp) (Q : VK), Rel X.K X.w B Hs ρ rt H → SlD X.K X.w Hs ρ σ sl → PE1 X.K X.w B Wx Hs ρ σ (ma sl rt) Q → ta σ H Q)
    (hb : ∀ (B : Bnd) (Hs : Hp) (ρ : List Addr) (sl : Sl) (rt : List O) (σ : L2.St) (H : Hp) (Q : VK), Rel X.K X.w B Hs ρ rt H → SlD X.K X.w Hs ρ σ sl → PE1 X.K X.w B Wx Hs ρ σ (mb sl rt) Q → tb σ H Q)
    (B : Bnd) (Hs : Hp) (ρ : List Addr) (sl : Sl) (rt : List O) (σ : L2.St) (H : Hp) (Q : VK) (R : Rel X.K X.w B Hs ρ rt H) (S : SlD X.K X.w Hs ρ σ sl) (p : PE1 X.K X.w B Wx Hs ρ σ (eOp g ma mb sl rt) Q) : tOp r ta tb σ H Q := by
  refine ha B Hs ρ sl rt σ H _ R S (PEx.bind p fun x rt1 v Hs1 ρ1 H1 e1 R1 d1 p1 => ?_)
  refine hb B Hs1 ρ1 sl rt1 σ H1 _ R1 (S.mono e1) (PEx.bind p1 fun y rt2 u Hs2 ρ2 H2 e2 R2 d2 p2 => ?_)
  exact hr Wx B Hs2 ρ2 rt2 σ H2 Q x y v u R2 (d1.mono e2) d2 p2
theorem vx_op {op : Operator} {g : W → W → List O → Ou W} (ho : OpV X (binaryOp op) g) (ha : VX X Wx a ma) (hb : VX X Wx b mb) : VX X Wx (.BinOp a op b pos) (eOp g ma mb) := by
  obtain ⟨r, h1, h2⟩ := ho.ex
  obtain ⟨ta, a1, a2⟩ := ha.ex
  obtain ⟨tb, b1, b2⟩ := hb.ex
  exact vx_pe (pe_op h1 a1 b1) (two_op h2 a2 b2)
theorem vx_cmp {op : CmpOp} {g : W → W → List O → Ou W} (ho : OpV X (compareOp op) g) (ha : VX X Wx a ma) (hb : VX X Wx b mb) (hm : behindInMarks op b = false := by first | exact nomark _ | rfl) : VX X Wx (.Compare a [op] [b] pos) (eOp g ma mb) := by
  obtain ⟨r, h1, h2⟩ := ho.ex
  obtain ⟨ta, a1, a2⟩ := ha.ex
  obtain ⟨tb, b1, b2⟩ := hb.ex
  exact vx_pe (pe_cmpR h1 a1 b1 hm) (two_op h2 a2 b2)
/-- a truth value -/
def eB (m : Ex W) : Ex Bool := fun sl rt => (m sl rt).bind fun x rt => match x with
  | .d (.bl b) => .ok b rt
  | _ => .no
theorem bl_of {K : PySem.W.Frag} {w : World} {Hs : Hp} {v : V} {b : Bool} (h : Den K w Hs v (.bl b)) : v = .bl b := by cases h; rfl
theorem test_ok {t : TE} {m : Ex W} (h : ∀ (B : Bnd) (Hs : Hp) (ρ : List Addr) (sl : Sl) (rt : List O) (σ : L2.St) (H : Hp) (Q : VK), Rel X.K X.w B Hs ρ rt H → SlD X.K X.w Hs ρ σ sl → PE1 X.K X.w B Wx Hs ρ σ (m sl rt) Q → t σ H Q)
    (B : Bnd) (Hs : Hp) (ρ : List Addr) (sl : Sl) (rt : List O) (σ : L2.St) (H : Hp) (Q : Bool → Hp → Prop) (R : Rel X.K X.w B Hs ρ rt H) (S : SlD X.K X.w Hs ρ σ sl) (p : PT1 X.K X.w B Wx Hs ρ σ (eB m sl rt) Q) : t σ H (fun x H' => ∃ k, x = .bl k ∧ Q k H') := by
  refine h B Hs ρ sl rt σ H _ R S (PEx.bind p fun x rt1 v Hs1 ρ1 H1 e1 R1 d1 p1 => ?_)
  cases x with
  | r n => exact p1.elim
  | d x =>
    cases x <;> first | exact p1.elim | skip
    rename_i b
    exact ⟨b, bl_of d1, p1 b Hs1 ρ1 H1 Ext.refl R1 rfl⟩
theorem vt_cmp {op : CmpOp} {g : W → W → List O → Ou W} (ho : OpV X (compareOp op) g) (ha : VX X Wx a ma) (hb : VX X Wx b mb) (hm : behindInMarks op b = false := by first | exact nomark _ | rfl) : VT X Wx (.Compare a [op] [b] pos) (eB (eOp g ma mb)) := by
  obtain ⟨r, h1, h2⟩ := ho.ex
  obtain ⟨ta, a1, a2⟩ := ha.ex
  obtain ⟨tb, b1, b2⟩ := hb.ex
  exact ⟨_, pt_cmpR h1 a1 b1 hm, test_ok (two_op h2 a2 b2)⟩
/-- a test by its value (a call, a name that holds a truth value, ..) -/
theorem vt_val (ha : VX X Wx a ma) (he : ∀ whole, isTrue a X.env whole = (do let v ← whole; standAt a.pos; holding [v] (truthy v)) := by intro _; rfl) : VT X Wx a (eB ma) := by
  obtain ⟨ta, a1, a2⟩ := ha.ex
  exact ⟨_, pt_val a1 he, test_ok a2⟩
def eNotT (m : Ex Bool) : Ex Bool := fun sl rt => (m sl rt).bind fun b rt => .ok (!b) rt
theorem vt_not {m : Ex Bool} (ha : VT X Wx a m) : VT X Wx (.UnaryOp .Not a pos) (eNotT m) := by
  obtain ⟨ta, a1, a2⟩ := ha.ex
  refine ⟨_, pt_not a1, fun B Hs ρ sl rt σ H Q R S p => ?_⟩
  refine a2 B Hs ρ sl rt σ H _ R S (PEx.bind p fun x rt1 v Hs1 ρ1 H1 e1 R1 d1 p1 => ?_)
  subst d1
  exact p1 _ Hs1 ρ1 H1 Ext.refl R1 rfl
structure VW (X : Cx) (Wx : WX) (e : Expr) (m : Ex Bool) : Prop where
  ex : ∃ t, PW X e t ∧ ∀ (B : Bnd) (Hs : Hp) (ρ : List Addr) (sl : Sl) (rt : List O) (σ : L2.St) (H : Hp) (Q : Bool → Hp → Prop), Rel X.K X.w B Hs ρ rt H → SlD X.K X.w Hs ρ σ sl → PT1 X.K X.w B Wx Hs ρ σ (m sl rt) Q → t σ H Q
def eAndT (m n : Ex Bool) : Ex Bool := fun sl rt => (m sl rt).bind fun b rt => if b = true then n sl rt else .ok false rt
def eOrT (m n : Ex Bool) : Ex Bool := fun sl rt => (m sl rt).bind fun b rt => if b = true then .ok true rt else n sl rt
theorem vw_and1 {m : Ex Bool} (ha : VT X Wx a m) : VW X Wx (.BoolOp .And [a] pos) m := by
  obtain ⟨ta, a1, a2⟩ := ha.ex
  exact ⟨_, pw_and1 a1, a2⟩
theorem vw_or1 {m : Ex Bool} (ha : VT X Wx a m) : VW X Wx (.BoolOp .Or [a] pos) m := by
  obtain ⟨ta, a1, a2⟩ := ha.ex
  exact ⟨_, pw_or1 a1, a2⟩
theorem vw_and {m n : Ex Bool} {rest : List Expr} (ha : VT X Wx a m) (hb : VW X Wx (.BoolOp .And (b :: rest) pos) n) : VW X Wx (.BoolOp .And (a :: b :: rest) pos) (eAndT m n) := by
  obtain ⟨ta, a1, a2⟩ := ha.ex
  obtain ⟨tb, b1, b2⟩ := hb.ex
  refine ⟨_, pw_and a1 b1, fun B Hs ρ sl rt σ H Q R S p => ?_⟩
  refine a2 B Hs ρ sl rt σ H _ R S (PEx.bind p fun x rt1 v Hs1 ρ1 H1 e1 R1 d1 p1 => ?_)
  subst d1
  cases v with
  | true => exact b2 B Hs1 ρ1 sl rt1 σ H1 Q R1 (S.mono e1) p1
  | false => exact p1 _ Hs1 ρ1 H1 Ext.refl R1 rfl
theorem vw_or {m n : Ex Bool} {rest : List Expr} (ha : VT X Wx a m) (hb : VW X Wx (.BoolOp .Or (b :: rest) pos) n) : VW X Wx (.BoolOp .Or (a :: b :: rest) pos) (eOrT m n) := by
  obtain ⟨ta, a1, a2⟩ := ha.ex
  obtain ⟨tb, b1, b2⟩ := hb.ex
  refine ⟨_, pw_or a1 b1, fun B Hs ρ sl rt σ H Q R S p => ?_⟩
  refine a2 B Hs ρ sl rt σ H _ R S (PEx.bind p fun x rt1 v Hs1 ρ1 H1 e1 R1 d1 p1 => ?_)
  subst d1
  cases v with
  | true => exact p1 _ Hs1 ρ1 H1 Ext.refl R1 rfl
  | false => exact b2 B Hs1 ρ1 sl rt1 σ H1 Q R1 (S.mono e1) p1
theorem VW.vt {m : Ex Bool} (h : VW X Wx e m) : VT X Wx e m := by
  obtain ⟨t, h1, h2⟩ := h.ex
  exact ⟨t, h1.pt, h2⟩
/-- the same as values, of truth values -/
def eTv (m : Ex Bool) : Ex W := fun sl rt => (m sl rt).bind fun b rt => .ok (.d (.bl b)) rt
def eAnd (m n : Ex W) : Ex W := fun sl rt => (m sl rt).bind fun x rt => match x with
  | .d (.bl true) => n sl rt
  | .d (.bl false) => .ok (.d (.bl false)) rt
  | _ => .no
def eOr (m n : Ex W) : Ex W := fun sl rt => (m sl rt).bind fun x rt => match x with
  | .d (.bl true) => .ok (.d (.bl true)) rt
  | .d (.bl false) => n sl rt
  | _ => .no
def eNot (m : Ex W) : Ex W := fun sl rt => (m sl rt).bind fun x rt => match x with
  | .d (.bl b) => .ok (.d (.bl (!b))) rt
  | _ => .no
theorem vx_one {op : BoolOp} {m : Ex W} (h : VX X Wx a m) : VX X Wx (.BoolOp op [a] pos) m := by
  obtain ⟨t, h1, h2⟩ := h.ex
  exact vx_pe (pe_one h1) h2
theorem vx_and {rest : List Expr} {m n : Ex W} (ha : VX X Wx a m) (hb : VX X Wx (.BoolOp .And (b :: rest) pos) n) : VX X Wx (.BoolOp .And (a :: b :: rest) pos) (eAnd m n) := by
  obtain ⟨ta, a1, a2⟩ := ha.ex
  obtain ⟨tb, b1, b2⟩ := hb.ex
  refine vx_pe (pe_and a1 b1) fun B Hs ρ sl rt σ H Q R S p => ?_
  refine a2 B Hs ρ sl rt σ H _ R S (PEx.bind p fun x rt1 v Hs1 ρ1 H1 e1 R1 d1 p1 => ?_)
  cases x with
  | r n => exact p1.elim
  | d x =>
    cases x <;> first | exact p1.elim | skip
    rename_i b
    refine ⟨b, bl_of d1, ?_⟩
    cases b with
    | true => exact b2 B Hs1 ρ1 sl rt1 σ H1 Q R1 (S.mono e1) p1
    | false => exact p1 _ Hs1 ρ1 H1 Ext.refl R1 (.bl false)
theorem vx_or {rest : List Expr} {m n : Ex W} (ha : VX X Wx a m) (hb : VX X Wx (.BoolOp .Or (b :: rest) pos) n) : VX X Wx (.BoolOp .Or (a :: b :: rest) pos) (eOr m n) := by
  obtain ⟨ta, a1, a2⟩ := ha.ex
  obtain ⟨tb, b1, b2⟩ := hb.ex
  refine vx_pe (pe_or a1 b1) fun B Hs ρ sl rt σ H Q R S p => ?_
  refine a2 B Hs ρ sl rt σ H _ R S (PEx.bind p fun x rt1 v Hs1 ρ1 H1 e1 R1 d1 p1 => ?_)
  cases x with
  | r n => exact p1.elim
  | d x =>
    cases x <;> first | exact p1.elim | skip
    rename_i b
    refine ⟨b, bl_of d1, ?_⟩
    cases b with
    | true => exact p1 _ Hs1 ρ1 H1 Ext.refl R1 (.bl true)
    | false => exact b2 B Hs1 ρ1 sl rt1 σ H1 Q R1 (S.mono e1) p1
theorem vx_not {m : Ex W} (ha : VX X Wx a m) : VX X Wx (.UnaryOp .Not a pos) (eNot m) := by
  obtain ⟨ta, a1, a2⟩ := ha.ex
  refine vx_pe (pe_not a1) fun B Hs ρ sl rt σ H Q R S p => ?_
  refine a2 B Hs ρ sl rt σ H _ R S (PEx.bind p fun x rt1 v Hs1 ρ1 H1 e1 R1 d1 p1 => ?_)
  cases x with
  | r n => exact p1.elim
  | d x =>
    cases x <;> first | exact p1.elim | skip
    rename_i b
    exact ⟨b, bl_of d1, p1 _ Hs1 ρ1 H1 Ext.refl R1 (.bl (!b))⟩
def eIf (c : Ex Bool) (m n : Ex W) : Ex W := fun sl rt => (c sl rt).bind fun b rt => if b = true then m sl rt else n sl rt
theorem vx_if {c : Expr} {mc : Ex Bool} (hc : VT X Wx c mc) (ha : VX X Wx a ma) (hb : VX X Wx b mb) : VX X Wx (.IfExp c a b pos) (eIf mc ma mb) := by
  obtain ⟨tc, c1, c2⟩ := hc.ex
  obtain ⟨ta, a1, a2⟩ := ha.ex
  obtain ⟨tb, b1, b2⟩ := hb.ex
  refine vx_pe (pe_ifExp c1 a1 b1) fun B Hs ρ sl rt σ H Q R S p => ?_
  refine c2 B Hs ρ sl rt σ H _ R S (PEx.bind p fun x rt1 v Hs1 ρ1 H1 e1 R1 d1 p1 => ?_)
  subst d1
  cases v with
  | true => exact a2 B Hs1 ρ1 sl rt1 σ H1 Q R1 (S.mono e1) p1
  | false => exact b2 B Hs1 ρ1 sl rt1 σ H1 Q R1 (S.mono e1) p1
end
end VE

set_option maxRecDepth 100000
set_option maxHeartbeats 1000000
namespace VE
open PySem PySem.Spec L2

/-! ### statements -/
def Os.andThen (o : Os) (k : Sx) : Os := match o with
  | .nx sl rt => k sl rt
  | o => o
def sNil : Sx := fun sl rt => .nx sl rt
def sSeq (m n : Sx) : Sx := fun sl rt => (m sl rt).andThen n
def sSet (i : Nat) (m : Ex W) : Sx := fun sl rt => (m sl rt).seq sl fun x rt => .nx (sl.set i (some x)) rt
def sDrop (m : Ex W) : Sx := fun sl rt => (m sl rt).seq sl fun _ rt => .nx sl rt
def sRet (m : Ex W) : Sx := fun sl rt => (m sl rt).seq sl fun x rt => .re x rt
def sRetN : Sx := fun _ rt => .re (.d .non) rt
def sBrk : Sx := fun sl rt => .bk sl rt
def sCont : Sx := fun sl rt => .ct sl rt
def sIf (c : Ex Bool) (m n : Sx) : Sx := fun sl rt => (c sl rt).seq sl fun b rt => if b = true then m sl rt else n sl rt

section
variable {X : Cx} {Wx : WX} {a b e : Expr} {st : Stmt} {rest : List Stmt} {pos : Pos} {ma mb : Ex W} {m n : Sx}
theorem vss_nil : VSs X Wx [] sNil := ⟨_, pss_nil, fun B Hs ρ sl rt σ H D R S p => p Hs ρ σ H Ext.refl R S rfl⟩
theorem vs_pass : VS X Wx (.Pass pos) sNil := ⟨_, ps_pass, fun B Hs ρ sl rt σ H D R S p => p Hs ρ σ H Ext.refl R S rfl⟩
theorem vs_break : VS X Wx (.Break pos) sBrk := ⟨_, ps_break, fun B Hs ρ sl rt σ H D R S p => p Hs ρ σ H Ext.refl R S rfl⟩
theorem vs_continue : VS X Wx (.Continue pos) sCont := ⟨_, ps_continue, fun B Hs ρ sl rt σ H D R S p => p Hs ρ σ H Ext.refl R S rfl⟩
theorem PSx.then {K : PySem.W.Frag} {w : World} {B : Bnd} {Hs : Hp} {ρ : List Addr} {l : Nat} {o : Os} {k : Sx} {D : Ends} {Nx : L2.St → Hp → Prop} (h : PSx K w B Wx Hs ρ l (o.andThen k) D)
    (hk : ∀ sl rt Hs' ρ' σ' H', Ext Hs ρ Hs' ρ' → Rel K w B Hs' ρ' rt H' → SlD K w Hs' ρ' σ' sl → σ'.length = l → PSx K w B Wx Hs' ρ' σ'.length (k sl rt) D → Nx σ' H') : PSx K w B Wx Hs ρ l o { D with nx := Nx } := by
  cases o with
  | nx sl rt => exact fun Hs2 ρ2 σ2 H2 e2 R2 S2 l2 => hk sl rt Hs2 ρ2 σ2 H2 e2 R2 S2 l2 (by rw [l2]; exact PSx.ext (o := k sl rt) h e2)
  | bk sl rt => exact h
  | ct sl rt => exact h
  | re x rt => exact h
  | ex c fs sl rt => exact h
  | no => exact h
theorem vss_cons (h1 : VS X Wx st m) (h2 : VSs X Wx rest n) : VSs X Wx (st :: rest) (sSeq m n) := by
  obtain ⟨t, a1, a2⟩ := h1.ex
  obtain ⟨u, b1, b2⟩ := h2.ex
  refine ⟨_, pss_cons a1 b1, fun B Hs ρ sl rt σ H D R S p => ?_⟩
  refine a2 B Hs ρ sl rt σ H _ R S (PSx.then (k := n) p fun sl1 rt1 Hs1 ρ1 σ1 H1 e1 R1 S1 l1 p1 => ?_)
  exact b2 B Hs1 ρ1 sl1 rt1 σ1 H1 D R1 S1 p1
theorem vss_one (h1 : VS X Wx st m) : VSs X Wx [st] m := by
  obtain ⟨t, a1, a2⟩ := h1.ex
  exact ⟨_, pss_one a1, a2⟩
theorem vs_set (i : Nat) {x : Str} {pos' : Pos} (hN : X.N.Nodup) (hi : X.N[i]? = some x) (hx : Loc X.env.scope x) (ha : VX X Wx e ma) (hs : swapsWith e (some (.Name x pos')) pos.line X.env = pure false := by rfl)
    (hf : X.fn x = true ∨ X.env.scope.names.lookup x = some .local := by first | exact .inl rfl | exact .inr rfl | assumption) : VS X Wx (.Assign [.Name x pos'] e pos) (sSet i ma) := by
  obtain ⟨ta, a1, a2⟩ := ha.ex
  refine ⟨_, ps_set hN hi hx a1 hs hf, fun B Hs ρ sl rt σ H D R S p => ?_⟩
  refine a2 B Hs ρ sl rt σ H _ R S (PEx.seq S p fun y rt1 v Hs1 ρ1 H1 e1 R1 d1 p1 => ?_)
  exact p1 Hs1 ρ1 _ H1 Ext.refl R1 ((S.mono e1).set i d1) (by simp)
theorem vs_expr (ha : VX X Wx e ma) (hs : swapsWith e none pos.line X.env = pure false := by rfl) : VS X Wx (.Expr e pos) (sDrop ma) := by
  obtain ⟨ta, a1, a2⟩ := ha.ex
  refine ⟨_, ps_expr a1 hs, fun B Hs ρ sl rt σ H D R S p => ?_⟩
  refine a2 B Hs ρ sl rt σ H _ R S (PEx.seq S p fun y rt1 v Hs1 ρ1 H1 e1 R1 d1 p1 => ?_)
  exact p1 Hs1 ρ1 _ H1 Ext.refl R1 (S.mono e1) rfl
theorem vs_ret (ha : VX X Wx e ma) : VS X Wx (.Return (some e) pos) (sRet ma) := by
  obtain ⟨ta, a1, a2⟩ := ha.ex
  refine ⟨_, ps_ret a1, fun B Hs ρ sl rt σ H D R S p => ?_⟩
  refine a2 B Hs ρ sl rt σ H _ R S (PEx.seq S p fun y rt1 v Hs1 ρ1 H1 e1 R1 d1 p1 => ?_)
  exact p1 v Hs1 ρ1 H1 Ext.refl R1 d1
theorem vs_retN : VS X Wx (.Return none pos) sRetN := ⟨_, ps_retN, fun B Hs ρ sl rt σ H D R S p => p _ Hs ρ H Ext.refl R .non⟩
theorem vs_if {c : Expr} {mc : Ex Bool} {sa sb : List Stmt} (hc : VT X Wx c mc) (ha : VSs X Wx sa m) (hb : VSs X Wx sb n) : VS X Wx (.If c sa sb pos) (sIf mc m n) := by
  obtain ⟨tc, c1, c2⟩ := hc.ex
  obtain ⟨ta, a1, a2⟩ := ha.ex
  obtain ⟨tb, b1, b2⟩ := hb.ex
  refine ⟨_, ps_if c1 a1 b1, fun B Hs ρ sl rt σ H D R S p => ?_⟩
  refine c2 B Hs ρ sl rt σ H _ R S (PEx.seq S p fun x rt1 v Hs1 ρ1 H1 e1 R1 d1 p1 => ?_)
  subst d1
  cases v with
  | true => exact a2 B Hs1 ρ1 sl rt1 σ H1 D R1 (S.mono e1) p1
  | false => exact b2 B Hs1 ρ1 sl rt1 σ H1 D R1 (S.mono e1) p1
end

/-! ### targets -/
abbrev Gx := W → Ex Sl
abbrev PG1 (K : PySem.W.Frag) (w : World) (B : Bnd) (Wx : WX) (Hs : Hp) (ρ : List Addr) (σ : L2.St) (o : Ou Sl) (Q : L2.St → Hp → Prop) : Prop :=
  PEx K w B Wx Hs ρ σ (fun h r σ' sl' => SlD K w h r σ' sl' ∧ σ'.length = σ.length) o Q
structure VG (X : Cx) (Wx : WX) (tg : Expr) (m : Gx) : Prop where
  ex : ∃ g, PG X tg g ∧ ∀ (B : Bnd) (Hs : Hp) (ρ : List Addr) (x : W) (v : V) (sl : Sl) (rt : List O) (σ : L2.St) (H : Hp) (Q : L2.St → Hp → Prop), Rel X.K X.w B Hs ρ rt H → SlD X.K X.w Hs ρ σ sl → WD X.K X.w Hs ρ v x →
    PG1 X.K X.w B Wx Hs ρ σ (m x sl rt) Q → g v σ H Q
structure VGs (X : Cx) (Wx : WX) (tgs : List Expr) (m : List D → Ex Sl) : Prop where
  ex : ∃ g, PGs X tgs g ∧ ∀ (B : Bnd) (Hs : Hp) (ρ : List Addr) (xs : List D) (vs : List V) (sl : Sl) (rt : List O) (σ : L2.St) (H : Hp) (Q : L2.St → Hp → Prop), Rel X.K X.w B Hs ρ rt H → SlD X.K X.w Hs ρ σ sl → Dens X.K X.w Hs vs xs →
    PG1 X.K X.w B Wx Hs ρ σ (m xs sl rt) Q → g vs σ H Q
def gN (i : Nat) : Gx := fun x sl rt => .ok (sl.set i (some x)) rt
def gNil' : List D → Ex Sl := fun xs sl rt => match xs with
  | [] => .ok sl rt
  | _ => .no
def gCons' (m : Gx) (ms : List D → Ex Sl) : List D → Ex Sl := fun xs sl rt => match xs with
  | x :: xs => (m (.d x) sl rt).bind fun sl rt => (ms xs sl rt).noex
  | [] => .no
def gT (n : Nat) (ms : List D → Ex Sl) : Gx := fun x sl rt => match x with
  | .d (.tup xs) => if xs.length = n then ms xs sl rt else .no
  | .d (.ktup xs) => if xs.length = n then ms xs sl rt else .no
  | _ => .no
theorem Dens.length {K : PySem.W.Frag} {w : World} {H : Hp} : ∀ {vs : List V} {xs : List D}, Dens K w H vs xs → vs.length = xs.length
  | _, _, .nil => rfl
  | _, _, .cons _ t => by simp [Dens.length t]
theorem Dens.get {K : PySem.W.Frag} {w : World} {H : Hp} : ∀ {vs : List V} {xs : List D} {i : Nat} {x : D}, Dens K w H vs xs → xs[i]? = some x → ∃ v, vs[i]? = some v ∧ Den K w H v x
  | _, _, _, _, .nil, e => by simp at e
  | _, _, 0, _, .cons h _, e => by simp at e; subst e; exact ⟨_, rfl, h⟩
  | _, _, i + 1, _, .cons _ t, e => by
    obtain ⟨v, h1, h2⟩ := Dens.get (i := i) t (by simpa using e)
    exact ⟨v, by simpa using h1, h2⟩
section
variable {X : Cx} {Wx : WX} {e : Expr} {es : List Expr} {pos : Pos} {m : Gx} {ms : List D → Ex Sl}
theorem vg_name (i : Nat) {x : Str} (hN : X.N.Nodup) (hi : X.N[i]? = some x) (hx : Loc X.env.scope x) (hf : X.fn x = true ∨ X.env.scope.names.lookup x = some .local := by first | exact .inl rfl | exact .inr rfl | assumption) : VG X Wx (.Name x pos) (gN i) :=
  ⟨_, pg_name hN hi hx hf, fun B Hs ρ x v sl rt σ H Q R S d p => p _ Hs ρ H Ext.refl R ⟨S.set i d, by simp⟩⟩
theorem vgs_nil : VGs X Wx [] gNil' := ⟨_, pgs_nil, fun B Hs ρ xs vs sl rt σ H Q R S d p => by
  cases d with
  | nil => exact ⟨rfl, p _ Hs ρ H Ext.refl R ⟨S, rfl⟩⟩
  | cons _ _ => exact p.elim⟩
theorem vgs_cons (h1 : VG X Wx e m) (h2 : VGs X Wx es ms) (hs : (assignEach (e :: es) X.env).map (·.2) = assign e X.env :: (assignEach es X.env).map (·.2) := by rfl) : VGs X Wx (e :: es) (gCons' m ms) := by
  obtain ⟨g, a1, a2⟩ := h1.ex
  obtain ⟨u, b1, b2⟩ := h2.ex
  refine ⟨_, pgs_cons a1 b1 hs, fun B Hs ρ xs vs sl rt σ H Q R S d p => ?_⟩
  cases d with
  | nil => exact p.elim
  | @cons v x vs xs d ds =>
    refine ⟨v, vs, rfl, a2 B Hs ρ (.d x) v sl rt σ H _ R S d (PEx.bind p fun sl1 rt1 σ1 Hs1 ρ1 H1 e1 R1 d1 p1 => ?_)⟩
    refine b2 B Hs1 ρ1 xs vs sl1 rt1 σ1 H1 Q R1 d1.1 (ds.mono e1.same) ?_
    cases o : ms xs sl1 rt1 with
    | no => rw [o] at p1; exact p1
    | ex c fs rt => rw [o] at p1; exact p1.elim
    | ok sl2 rt2 => rw [o] at p1; exact fun σ2 Hs2 ρ2 H2 e2 R2 d2 => p1 σ2 Hs2 ρ2 H2 e2 R2 ⟨d2.1, d2.2.trans d1.2⟩
theorem vg_tup {k : Nat} {n : Nat} (hc : X.calm = true) (h : VGs X Wx es ms) (hn : (assignEach es X.env).length = n := by rfl) (hst : (assignEach es X.env).findIdx? (·.1) = none := by rfl) : VG X Wx (.Tuple es k pos) (gT n ms) := by
  obtain ⟨g, a1, a2⟩ := h.ex
  refine ⟨_, pg_tup hc a1 hn hst, fun B Hs ρ x v sl rt σ H Q R S d p => ?_⟩
  cases x with
  | r _ => exact p.elim
  | d x =>
    cases x <;> first | exact p.elim | skip
    · rename_i xs
      cases d with
      | @tup a vs _ h1 h2 =>
        unfold gT at p
        by_cases hl : xs.length = n
        · simp only [hl, if_true] at p
          exact ⟨a, vs, rfl, SqT.of (R.same _ _ h1), h2.length.trans hl, a2 B Hs ρ xs vs sl rt σ H Q R S h2 p⟩
        · simp only [hl, if_false] at p
          exact p.elim
    · rename_i xs
      cases d with
      | @ktup a vs _ h1 h2 =>
        unfold gT at p
        by_cases hl : xs.length = n
        · simp only [hl, if_true] at p
          exact ⟨a, vs, rfl, SqT.mono R.same h1.sqt, h2.length.trans hl, a2 B Hs ρ xs vs sl rt σ H Q R S h2 p⟩
        · simp only [hl, if_false] at p
          exact p.elim
end
end VE

set_option maxRecDepth 100000
set_option maxHeartbeats 1000000
namespace VE
open PySem PySem.Spec L2

/-! ### some of the roots -/
def pk {α : Type} (js : List Nat) (l : List α) (d : α) : List α := js.map fun j => l.getD j d
theorem pk_get {α : Type} {js : List Nat} {l : List α} {d : α} {i j : Nat} {x : α} (h : js[i]? = some j) (e : l[j]? = some x) : (pk js l d)[i]? = some x := by
  unfold pk
  rw [List.getElem?_map, h]
  simp [List.getD_eq_getElem?_getD, e]
theorem pk_of {α : Type} {js : List Nat} {l : List α} {d : α} {i : Nat} {x : α} (h : (pk js l d)[i]? = some x) (hr : ∀ j ∈ js, j < l.length) : ∃ j, js[i]? = some j ∧ l[j]? = some x := by
  unfold pk at h
  rw [List.getElem?_map] at h
  cases e : js[i]? with
  | none => rw [e] at h; cases h
  | some j =>
    rw [e] at h
    have hj := hr j (List.mem_of_getElem? e)
    refine ⟨j, rfl, ?_⟩
    simp [List.getD_eq_getElem?_getD, hj] at h
    simp [hj, h]
theorem pk_length {α : Type} {js : List Nat} {l : List α} {d : α} : (pk js l d).length = js.length := by simp [pk]
theorem nodup_at {js : List Nat} (h : js.Nodup) {i k j : Nat} (a : js[i]? = some j) (b : js[k]? = some j) : i = k := by
  obtain ⟨h1, e1⟩ := List.getElem?_eq_some_iff.mp a
  obtain ⟨h2, e2⟩ := List.getElem?_eq_some_iff.mp b
  exact (List.getElem_inj h).mp (e1.trans e2.symm)

section
variable {K : PySem.W.Frag} {w : World} {B : Bnd} {Hs Hs' H H' : Hp} {ρ : List Addr} {rt : List O}
def fat (F : Nat → List Addr) (js : List Nat) : Nat → List Addr := fun i => F (js.getD i 0)
theorem fat_at {F : Nat → List Addr} {js : List Nat} {i j : Nat} (h : js[i]? = some j) : fat F js i = F j := by simp [fat, List.getD_eq_getElem?_getD, h]
theorem Rel.picked (R : Rel K w B Hs ρ rt H) {js : List Nat} (hn : js.Nodup) (hr : ∀ j ∈ js, j < rt.length) (hl : ∀ j ∈ js, ∀ n p, rt[j]? = some (O.vw n p) → js[n]? = some n) : Rel K w B Hs (pk js ρ 0) (pk js rt (.d .non)) H := by
  obtain ⟨F, hF⟩ := R.own
  refine ⟨R.same, by rw [pk_length, pk_length], ⟨fat F js, fun i o e => ?_⟩, R.frame, R.there, R.pers, fun k n q e => ?_⟩
  obtain ⟨j, hj, ho⟩ := pk_of e hr
  obtain ⟨a, e1, h1, h2, h3, h4⟩ := hF j o ho
  rw [fat_at hj]
  refine ⟨a, pk_get hj e1, h1, h2, h3, fun k hk hki b hb => ?_⟩
  rw [pk_length] at hk
  obtain ⟨j2, hj2⟩ : ∃ j2, js[k]? = some j2 := ⟨js[k], by simp [hk]⟩
  rw [fat_at hj2]
  exact h4 j2 (hr j2 (List.mem_of_getElem? hj2)) (fun z => hki (nodup_at hn hj2 (by rw [z]; exact hj))) b hb
  obtain ⟨j, hj, ho⟩ := pk_of e hr
  obtain ⟨a, b, x, h1, h2, h3, h5, h4⟩ := R.lk j n q ho
  have hjn := hl j (List.mem_of_getElem? hj) n q ho
  exact ⟨a, b, x, pk_get hj h1, pk_get hjn h2, pk_get hjn h3, h5, h4⟩

end
theorem pk_range {α : Type} {l : List α} {d : α} {k : Nat} (h : k ≤ l.length) : pk (List.range k) l d = l.take k := by
  refine List.ext_getElem? fun i => ?_
  unfold pk
  rw [List.getElem?_map]
  by_cases hi : i < k
  · rw [List.getElem?_take, if_pos hi]
    simp [hi, List.getD_eq_getElem?_getD, show i < l.length by omega]
  · rw [List.getElem?_take, if_neg hi]
    simp [hi]
end VE

set_option maxRecDepth 100000
set_option maxHeartbeats 1000000
namespace VE
open PySem PySem.Spec L2

/-! ### a value made plain -/
def vOf (x : W) (rt : List O) : Ou D := match x with
  | .d x => .ok x rt
  | .r k => match rt[k]? with
    | some (.vw n p) => match rt[n]? with
      | some o => if o.isVw = true then .no else match getP o p with
        | some x => .ok x.toD (frz n o rt)
        | none => .no
      | none => .no
    | some o => .ok o.toD (frz k o rt)
    | none => .no
theorem vOf_ok {K : PySem.W.Frag} {w : World} {B : Bnd} {Hs H : Hp} {ρ : List Addr} {rt : List O} {v : V} {x : W} (R : Rel K w B Hs ρ rt H) (d : WD K w Hs ρ v x) :
    ∀ y rt', vOf x rt = .ok y rt' → ∃ Hs', Ext Hs ρ Hs' ρ ∧ Rel K w B Hs' ρ rt' H ∧ Den K w Hs' v y := by
  intro y rt' e
  cases x with
  | d x =>
    cases e
    exact ⟨Hs, Ext.refl, R, d⟩
  | r n =>
    simp only [vOf] at e
    obtain ⟨a, ea, rfl⟩ := d
    split at e
    · rename_i m p hk
      split at e
      · rename_i o ho
        split at e
        · cases e
        · rename_i hv
          split at e
          · rename_i z hz
            cases e
            obtain ⟨a', b, o', h1, h2, h3, h5, h4⟩ := R.lk n m p hk
            rw [ea] at h1; cases h1
            rw [ho] at h3; cases h3
            obtain ⟨Hs', s, _, R', kid⟩ := R.freeze h2 ho (by simpa using hv)
            exact ⟨Hs', Ext.of_same s, R', kid _ _ _ h4 hz⟩
          · cases e
      · cases e
    · rename_i o hnv hk
      cases e
      have hv : o.isVw = false := by
        cases o <;> first | rfl | exact (hnv _ _ rfl).elim
      obtain ⟨Hs', s, d', R', _⟩ := R.freeze ea hk hv
      exact ⟨Hs', Ext.of_same s, R', d'⟩
    · cases e
theorem vOf_noex {x : W} {rt : List O} {c : XC} {fs : List (Str × D)} {rt' : List O} : vOf x rt ≠ .ex c fs rt' := by
  cases x with
  | d x => intro h; cases h
  | r n =>
    intro h
    simp only [vOf] at h
    repeat' split at h
    all_goals cases h
/-- make it plain, go on -/
theorem PEx.val {K : PySem.W.Frag} {w : World} {B : Bnd} {Wx : WX} {Hs H : Hp} {ρ : List Addr} {σ : L2.St} {rt : List O} {v : V} {x : W} {γ δ : Type} {rel2 : Hp → List Addr → δ → γ → Prop} {k : D → List O → Ou γ} {Q2 : δ → Hp → Prop} {P : Prop}
    (R : Rel K w B Hs ρ rt H) (d : WD K w Hs ρ v x) (h : PEx K w B Wx Hs ρ σ rel2 ((vOf x rt).bind k) Q2)
    (hk : ∀ y rt' Hs', Ext Hs ρ Hs' ρ → Rel K w B Hs' ρ rt' H → Den K w Hs' v y → PEx K w B Wx Hs' ρ σ rel2 (k y rt') Q2 → P) : P := by
  cases e : vOf x rt with
  | ok y rt' =>
    obtain ⟨Hs', e1, R1, d1⟩ := vOf_ok R d y rt' e
    rw [e] at h
    exact hk y rt' Hs' e1 R1 d1 (PEx.ext (o := k y rt') h e1)
  | ex c fs rt' => exact (vOf_noex e).elim
  | no => rw [e] at h; exact h.elim

/-! ### between two turns of a loop: names forgotten, roots that no name holds dropped -/
def ixOf (n : Nat) : List Nat → Nat
  | [] => 0
  | m :: l => if n = m then 0 else ixOf n l + 1
theorem ixOf_at {n : Nat} : ∀ {l : List Nat}, n ∈ l → l[ixOf n l]? = some n
  | [], h => by cases h
  | m :: l, h => by
    unfold ixOf
    by_cases e : n = m
    · rw [if_pos e]; simp [e]
    · rw [if_neg e]
      rcases List.mem_cons.mp h with h | h
      · exact absurd h e
      · simpa using ixOf_at h
def kill : List Nat → Sl → Sl
  | [], sl => sl
  | k :: ks, sl => kill ks (sl.set k none)
def news (L : Nat) : Sl → List Nat
  | [] => []
  | some (.r n) :: sl => if n < L ∨ n ∈ news L sl then news L sl else n :: news L sl
  | _ :: sl => news L sl
def gcW (L : Nat) (ns : List Nat) : W → W
  | .d x => .d x
  | .r n => if n < L then .r n else .r (L + ixOf n ns)
def gcSl (L : Nat) (sl : Sl) : Sl := sl.map (Option.map (gcW L (news L sl)))
/-- no place is lost -/
def tkOk (L : Nat) (rt : List O) : Bool := rt.all fun
  | .vw n _ => decide (n < L)
  | _ => true
def gcRt (L : Nat) (sl : Sl) (rt : List O) : List O := rt.take L ++ (news L sl).map fun n => rt.getD n (.d .non)
section
variable {K : PySem.W.Frag} {w : World} {B : Bnd} {Hs H : Hp} {ρ : List Addr} {rt : List O} {σ : L2.St} {sl : Sl}
theorem SlD.kill : ∀ (ks : List Nat) {sl : Sl}, SlD K w Hs ρ σ sl → SlD K w Hs ρ σ (VE.kill ks sl)
  | [], _, h => h
  | k :: ks, sl, h => by
    refine SlD.kill ks ⟨by simpa using h.len, fun i x e => ?_⟩
    by_cases hk : k = i
    · subst hk
      by_cases hl : k < sl.length
      · rw [List.getElem?_set_self hl] at e; cases e
      · rw [List.getElem?_eq_none (by simp; omega)] at e; cases e
    · rw [List.getElem?_set_ne hk] at e
      exact h.at_ i x e
theorem news_ge {L : Nat} : ∀ {sl : Sl} {n : Nat}, n ∈ news L sl → L ≤ n
  | [], _, h => by cases h
  | none :: sl, n, h => news_ge (sl := sl) h
  | some (.d x) :: sl, n, h => news_ge (sl := sl) h
  | some (.r m) :: sl, n, h => by
    unfold news at h
    split at h
    · exact news_ge (sl := sl) h
    · rename_i q
      rcases List.mem_cons.mp h with h | h
      · subst h
        exact Nat.le_of_not_lt fun z => q (.inl z)
      · exact news_ge (sl := sl) h
theorem news_nodup {L : Nat} : ∀ {sl : Sl}, (news L sl).Nodup
  | [] => List.nodup_nil
  | none :: sl => news_nodup (sl := sl)
  | some (.d x) :: sl => news_nodup (sl := sl)
  | some (.r m) :: sl => by
    unfold news
    split
    · exact news_nodup (sl := sl)
    · rename_i q
      exact List.nodup_cons.mpr ⟨fun z => q (.inr z), news_nodup (sl := sl)⟩
theorem news_mem {L : Nat} : ∀ {sl : Sl} {i n : Nat}, sl[i]? = some (some (.r n)) → L ≤ n → n ∈ news L sl
  | [], _, _, h, _ => by simp at h
  | none :: sl, 0, n, h, _ => by simp at h
  | some (.d x) :: sl, 0, n, h, _ => by simp at h
  | some (.r m) :: sl, 0, n, h, hl => by
    simp at h
    subst h
    unfold news
    split
    · rename_i q
      rcases q with q | q
      · omega
      · exact q
    · exact List.mem_cons_self
  | none :: sl, i + 1, n, h, hl => news_mem (sl := sl) (i := i) (by simpa using h) hl
  | some (.d x) :: sl, i + 1, n, h, hl => news_mem (sl := sl) (i := i) (by simpa using h) hl
  | some (.r m) :: sl, i + 1, n, h, hl => by
    have q := news_mem (sl := sl) (i := i) (L := L) (n := n) (by simpa using h) hl
    unfold news
    split
    · exact q
    · exact List.mem_cons_of_mem _ q
theorem news_in {L : Nat} : ∀ {sl : Sl} {n : Nat}, n ∈ news L sl → ∃ i : Nat, sl[i]? = some (some (W.r n))
  | [], _, h => by cases h
  | none :: sl, n, h => let ⟨i, e⟩ := news_in (sl := sl) h; ⟨i + 1, by simpa using e⟩
  | some (.d x) :: sl, n, h => let ⟨i, e⟩ := news_in (sl := sl) h; ⟨i + 1, by simpa using e⟩
  | some (.r m) :: sl, n, h => by
    unfold news at h
    split at h
    · obtain ⟨i, e⟩ := news_in (sl := sl) h
      exact ⟨i + 1, by simpa using e⟩
    · rcases List.mem_cons.mp h with h | h
      · subst h; exact ⟨0, rfl⟩
      · obtain ⟨i, e⟩ := news_in (sl := sl) h
        exact ⟨i + 1, by simpa using e⟩
theorem gc_ok {L : Nat} (R : Rel K w B Hs ρ rt H) (S : SlD K w Hs ρ σ sl) (hL : L ≤ rt.length) (hg : tkOk L (gcRt L sl rt) = true) : ∃ t, Rel K w B Hs (ρ.take L ++ t) (gcRt L sl rt) H ∧ SlD K w Hs (ρ.take L ++ t) σ (gcSl L sl) := by
  have rng : ∀ n ∈ news L sl, n < rt.length := fun n hn => by
    obtain ⟨i, e⟩ := news_in hn
    obtain ⟨v, _, a, ha, _⟩ := S.at_ i _ e
    rw [← R.len]
    exact (List.getElem?_eq_some_iff.mp ha).1
  have q := R.picked (js := List.range L ++ news L sl)
    (by rw [List.nodup_append]; exact ⟨List.nodup_range, news_nodup, fun x hx y hy => by have := List.mem_range.mp hx; have := news_ge hy; omega⟩)
    (fun i hi => by
      rcases List.mem_append.mp hi with hi | hi
      · have := List.mem_range.mp hi; omega
      · exact rng i hi)
    (fun j hj n p e => by
      have hm : O.vw n p ∈ gcRt L sl rt := by
        unfold gcRt
        rcases List.mem_append.mp hj with hj | hj
        · have := List.mem_range.mp hj
          exact List.mem_append.mpr (.inl (List.mem_of_getElem? (i := j) (by rw [List.getElem?_take, if_pos this]; exact e)))
        · exact List.mem_append.mpr (.inr (List.mem_map.mpr ⟨j, hj, by rw [List.getD_eq_getElem?_getD, e]; rfl⟩))
      have hlt : n < L := by simpa using List.all_eq_true.mp hg _ hm
      rw [List.getElem?_append_left (by simpa using hlt)]
      simp [hlt])
  have e1 : pk (List.range L ++ news L sl) ρ 0 = ρ.take L ++ (news L sl).map fun n => ρ.getD n 0 := by
    have := pk_range (d := (0 : Addr)) (l := ρ) (k := L) (by rw [R.len]; omega)
    unfold pk at this ⊢
    rw [List.map_append, this]
  have e2 : pk (List.range L ++ news L sl) rt (.d .non) = gcRt L sl rt := by
    have := pk_range (d := O.d .non) (l := rt) (k := L) hL
    unfold pk gcRt at *
    rw [List.map_append, this]
  rw [e1, e2] at q
  refine ⟨_, q, ⟨by simpa [gcSl] using S.len, fun i x e => ?_⟩⟩
  unfold gcSl at e
  rw [List.getElem?_map] at e
  obtain ⟨o, ho, e⟩ := Option.map_eq_some_iff.mp e
  cases o with
  | none => cases e
  | some y =>
    cases e
    obtain ⟨v, e3, d⟩ := S.at_ i y ho
    refine ⟨v, e3, ?_⟩
    cases y with
    | d y => exact d
    | r n =>
      obtain ⟨a, ha, rfl⟩ := d
      show WD K w Hs _ (V.ref a) (if n < L then W.r n else W.r (L + ixOf n (news L sl)))
      have hl : (ρ.take L).length = L := by rw [List.length_take, R.len]; omega
      by_cases hn : n < L
      · rw [if_pos hn]
        exact ⟨a, by rw [List.getElem?_append_left (by omega), List.getElem?_take, if_pos hn]; exact ha, rfl⟩
      · rw [if_neg hn]
        refine ⟨a, ?_, rfl⟩
        have hm := ixOf_at (news_mem (L := L) ho (Nat.le_of_not_lt hn))
        rw [List.getElem?_append_right (by omega), hl, Nat.add_sub_cancel_left, List.getElem?_map, hm]
        simp [List.getD_eq_getElem?_getD, ha]
end

/-- the same, the end told at a base behind -/
theorem PEx.seqB {K : PySem.W.Frag} {w : World} {B : Bnd} {Wx : WX} {Hs0 Hs : Hp} {ρ0 ρ : List Addr} {σ : L2.St} {α β : Type} {rel : Hp → List Addr → β → α → Prop} {o : Ou α} {sl : Sl} {k : α → List O → Os} {Q : β → Hp → Prop} {D : Ends} (S : SlD K w Hs ρ σ sl) (e : Ext Hs0 ρ0 Hs ρ)
    (h : PSx K w B Wx Hs0 ρ0 σ.length (o.seq sl k) D) (hk : ∀ x rt v Hs' ρ' H', Ext Hs ρ Hs' ρ' → Rel K w B Hs' ρ' rt H' → rel Hs' ρ' v x → PSx K w B Wx Hs0 ρ0 σ.length (k x rt) D → Q v H') : PEx K w B Wx Hs ρ σ rel o Q := by
  cases o with
  | ok x rt => exact fun v Hs2 ρ2 H2 e2 r2 d2 => hk x rt v Hs2 ρ2 H2 e2 r2 d2 h
  | ex c fs rt => exact fun d Hs2 ρ2 H2 e2 r2 x2 => h d Hs2 ρ2 σ H2 (e.trans e2) r2 x2 (S.mono e2) rfl
  | no => exact h
/-! ### what a for walks -/
/-- the items of J are these -/
structure ItOk (K : PySem.W.Frag) (w : World) (Hs : Hp) (J : It) (xs : List D) : Prop where
  ex : ∃ G Y, Walk J xs.length G Y ∧ (∀ H, Same Hs H → G H) ∧ ∀ i H v H', i < xs.length → Y i H v H' → ∀ Hs1, Same Hs Hs1 → Same Hs1 H →
    ∃ x, xs[i]? = some x ∧ ((H' = H ∧ Den K w Hs1 v x) ∨ ∃ T o, H T = none ∧ H' = upd H T o ∧ Den K w (upd Hs1 T o) v x)
structure VI (X : Cx) (Wx : WX) (tg iter : Expr) (m : Ex (List D)) : Prop where
  ex : ∃ wi, PI X tg iter wi ∧ ∀ (B : Bnd) (Hs : Hp) (ρ : List Addr) (sl : Sl) (rt : List O) (σ : L2.St) (H : Hp) (Q : It → Hp → Prop), Rel X.K X.w B Hs ρ rt H → SlD X.K X.w Hs ρ σ sl →
    PEx X.K X.w B Wx Hs ρ σ (fun h _ J xs => ItOk X.K X.w h J xs) (m sl rt) Q → wi σ H Q
/-- behind a turn -/
def turnEnd (ks : List Nat) (L : Nat) (k : Sl → List O → Os) (sl : Sl) (rt : List O) : Os := if tkOk L (gcRt L (kill ks sl) rt) = true then k (gcSl L (kill ks sl)) (gcRt L (kill ks sl) rt) else .no
def forL (ks : List Nat) (L : Nat) (g : Gx) (body : Sx) : List D → Sx
  | [], sl, rt => .nx sl rt
  | x :: xs, sl, rt => (g (.d x) sl rt).noex.seq sl fun sl rt => match body sl rt with
    | .nx sl rt => turnEnd ks L (forL ks L g body xs) sl rt
    | .ct sl rt => turnEnd ks L (forL ks L g body xs) sl rt
    | .bk sl rt => turnEnd ks L .nx sl rt
    | .re x rt => .re x rt
    | .ex c fs sl rt => .ex c fs sl rt
    | .no => .no
/-- a for; ks: the names that no later turn reads -/
def sFor (ks : List Nat) (it : Ex (List D)) (g : Gx) (body : Sx) : Sx := fun sl rt => (it sl rt).seq sl fun xs rt => forL ks rt.length g body xs sl rt
/-- the state of a walk -/
def Stt (X : Cx) (B : Bnd) (Hs : Hp) (ρ : List Addr) (n : Nat) (σ : L2.St) (H : Hp) (P : Sl → List O → Prop) : Prop :=
  ∃ Hs' ρ' sl rt, Ext Hs ρ Hs' ρ' ∧ Rel X.K X.w B Hs' ρ' rt H ∧ SlD X.K X.w Hs' ρ' σ sl ∧ σ.length = n ∧ P sl rt
theorem turn_ok {X : Cx} {B : Bnd} {Wx : WX} {D : Ends} {Hs Hs' : Hp} {ρ ρ' : List Addr} {n : Nat} {σ : L2.St} {H : Hp} {sl : Sl} {rt : List O} {ks : List Nat} {k : Sl → List O → Os} (e : Ext Hs ρ Hs' ρ') (R : Rel X.K X.w B Hs' ρ' rt H) (S : SlD X.K X.w Hs' ρ' σ sl) (l : σ.length = n)
    (p : PSx X.K X.w B Wx Hs ρ n (turnEnd ks ρ.length k sl rt) D) : Stt X B Hs ρ n σ H fun sl rt => PSx X.K X.w B Wx Hs ρ n (k sl rt) D := by
  obtain ⟨s, t, rfl⟩ := e
  unfold turnEnd at p
  split at p
  · rename_i hg
    obtain ⟨t2, R2, S2⟩ := gc_ok (L := ρ.length) R (S.kill ks) (by rw [← R.len]; simp) hg
    rw [List.take_left] at R2 S2
    exact ⟨Hs', _, _, _, ⟨s, t2, rfl⟩, R2, S2, l, p⟩
  · exact p.elim
theorem vs_for {X : Cx} {Wx : WX} {tg iter : Expr} {body : List Stmt} {it : Ex (List D)} {g : Gx} {m : Sx} {pos : Pos} (ks : List Nat) (hp : PassesOwn (model X.prog X.w) X.A X.env X.xe) (hc : X.calm = true) (hi : VI X Wx tg iter it) (hg : VG X Wx tg g) (hb : VSs X Wx body m)
    (hs : ∀ x, foldedSetIterable iter X.env x = pure x := by intro _; rfl) : VS X Wx (.For tg iter body [] pos) (sFor ks it g m) := by
  obtain ⟨wi, i1, i2⟩ := hi.ex
  obtain ⟨tg', g1, g2⟩ := hg.ex
  obtain ⟨tb, b1, b2⟩ := hb.ex
  refine ⟨_, ps_for hp hc i1 g1 b1 hs, fun B Hs ρ sl rt σ H D R S p => ?_⟩
  refine i2 B Hs ρ sl rt σ H _ R S (PEx.seq S p fun xs rt1 J Hs1 ρ1 H1 e1 R1 d1 p1 => ?_)
  obtain ⟨G, Y, hw, hG, hY⟩ := d1.ex
  rw [← R1.len] at p1
  refine for_it hw (fun i σ' H' => Stt X B Hs1 ρ1 σ.length σ' H' fun sl' rt' => PSx X.K X.w B Wx Hs1 ρ1 σ.length (forL ks ρ1.length g m (xs.drop i) sl' rt') D)
    ⟨Hs1, ρ1, sl, rt1, Ext.refl, R1, S.mono e1, rfl, p1⟩ (fun i σ' H' _ ⟨Hs', ρ', sl', rt', e2, R2, _⟩ => hG H' (Same.trans' e2.same R2.same)) ?_ ?_
  · rintro i v σ' H' H2 hi ⟨Hs', ρ', sl', rt', e2, R2, S2, l2, p2⟩ y
    obtain ⟨x, hx, hd⟩ := hY i H' v H2 hi y Hs' e2.same R2.same
    have hdrop : xs.drop i = x :: xs.drop (i + 1) := by
      obtain ⟨q1, q2⟩ := List.getElem?_eq_some_iff.mp hx
      rw [List.drop_eq_getElem_cons q1, q2]
    obtain ⟨Hs3, e3, R3, d3⟩ : ∃ Hs3, Ext Hs' ρ' Hs3 ρ' ∧ Rel X.K X.w B Hs3 ρ' rt' H2 ∧ Den X.K X.w Hs3 v x := by
      rcases hd with ⟨rfl, hd⟩ | ⟨T, o, hT, rfl, hd⟩
      · exact ⟨Hs', Ext.refl, R2, hd⟩
      · exact ⟨upd Hs' T o, Ext.of_same (same_upd (R2.fresh hT).1), R2.alloc hT, hd⟩
    rw [hdrop] at p2
    unfold forL at p2
    refine g2 B Hs3 ρ' (.d x) v sl' rt' σ' H2 _ R3 (S2.mono e3) d3 ?_
    cases hgo : g (.d x) sl' rt' with
    | no => rw [hgo] at p2; exact p2.elim
    | ex c fs rt4 => rw [hgo] at p2; exact p2.elim
    | ok sl4 rt4 =>
      rw [hgo] at p2
      intro σ4 Hs4 ρ4 H4 e4 R4 d4
      have l4 : σ4.length = σ.length := d4.2.trans l2
      refine b2 B Hs4 ρ4 sl4 rt4 σ4 H4 _ R4 d4.1 ?_
      have e14 := (e2.trans e3).trans e4
      rw [l4]
      simp only [Ou.noex, Ou.seq] at p2
      cases hbo : m sl4 rt4 with
      | nx sl5 rt5 =>
        rw [hbo] at p2
        exact fun Hs5 ρ5 σ5 H5 e5 R5 S5 l5 => turn_ok (e14.trans e5) R5 S5 l5 p2
      | ct sl5 rt5 =>
        rw [hbo] at p2
        exact fun Hs5 ρ5 σ5 H5 e5 R5 S5 l5 => turn_ok (e14.trans e5) R5 S5 l5 p2
      | bk sl5 rt5 =>
        rw [hbo] at p2
        intro Hs5 ρ5 σ5 H5 e5 R5 S5 l5
        obtain ⟨Hs6, ρ6, sl6, rt6, e6, R6, S6, l6, p6⟩ := turn_ok (ks := ks) (k := Os.nx) (e14.trans e5) R5 S5 l5 p2
        exact p6 Hs6 ρ6 σ5 H5 e6 R6 S6 l6
      | re x5 rt5 => rw [hbo] at p2; exact PSx.ext (o := .re x5 rt5) p2 e14
      | ex c fs sl5 rt5 => rw [hbo] at p2; exact PSx.ext (o := .ex c fs sl5 rt5) p2 e14
      | no => rw [hbo] at p2; exact p2.elim
  · rintro σ' H' ⟨Hs', ρ', sl', rt', e2, R2, S2, l2, p2⟩
    rw [List.drop_eq_nil_of_le (Nat.le_refl _)] at p2
    exact p2 Hs' ρ' σ' H' e2 R2 S2 l2

/-! ### while -/
def whileN (ks : List Nat) (L : Nat) (c : Ex Bool) (body : Sx) : Nat → Sx
  | 0, _, _ => .no
  | n + 1, sl, rt => (c sl rt).seq sl fun b rt => if b = true then (match body sl rt with
    | .nx sl rt => turnEnd ks L (whileN ks L c body n) sl rt
    | .ct sl rt => turnEnd ks L (whileN ks L c body n) sl rt
    | .bk sl rt => turnEnd ks L .nx sl rt
    | .re x rt => .re x rt
    | .ex c fs sl rt => .ex c fs sl rt
    | .no => .no) else .nx sl rt
open Classical in
/-- a while that ends -/
noncomputable def whileX (ks : List Nat) (L : Nat) (c : Ex Bool) (body : Sx) : Sx := fun sl rt => if h : ∃ n, whileN ks L c body n sl rt ≠ .no then whileN ks L c body (choose h) sl rt else .no
noncomputable def sWhile (ks : List Nat) (c : Ex Bool) (body : Sx) : Sx := fun sl rt => whileX ks rt.length c body sl rt
theorem whileN_mono {ks : List Nat} {L : Nat} {c : Ex Bool} {body : Sx} : ∀ {n k : Nat} {sl : Sl} {rt : List O}, whileN ks L c body n sl rt ≠ .no → n ≤ k → whileN ks L c body k sl rt = whileN ks L c body n sl rt
  | 0, _, _, _, h, _ => (h rfl).elim
  | n + 1, 0, _, _, _, hk => by omega
  | n + 1, k + 1, sl, rt, h, hk => by
    unfold whileN at h ⊢
    cases hc : c sl rt with
    | no => rfl
    | ex e fs rt1 => rfl
    | ok b rt1 =>
      simp only [hc, Ou.seq] at h ⊢
      cases b with
      | false => rfl
      | true =>
        simp only [if_true] at h ⊢
        cases hb : body sl rt1 <;> simp only [hb] at h ⊢
        · unfold turnEnd at h ⊢
          split at h
          · rename_i hg; rw [if_pos hg, if_pos hg]; exact whileN_mono (n := n) (k := k) h (by omega)
          · exact absurd rfl h
        · unfold turnEnd at h ⊢
          split at h
          · rename_i hg; rw [if_pos hg, if_pos hg]; exact whileN_mono (n := n) (k := k) h (by omega)
          · exact absurd rfl h
theorem whileX_of {ks : List Nat} {L : Nat} {c : Ex Bool} {body : Sx} {n : Nat} {sl : Sl} {rt : List O} {o : Os} (h : whileN ks L c body n sl rt = o) (ho : o ≠ .no) : whileX ks L c body sl rt = o := by
  have hx : ∃ n, whileN ks L c body n sl rt ≠ .no := ⟨n, by rw [h]; exact ho⟩
  unfold whileX
  rw [dif_pos hx]
  have h1 := Classical.choose_spec hx
  have h2 : whileN ks L c body n sl rt ≠ .no := by rw [h]; exact ho
  rw [← h]
  rcases Nat.le_total (Classical.choose hx) n with q | q
  · exact (whileN_mono h1 q).symm
  · exact whileN_mono h2 q
/-- one turn -/
theorem whileX_step {ks : List Nat} {L : Nat} {c : Ex Bool} {body : Sx} {sl sl2 : Sl} {rt rt1 rt2 : List O} {o : Os} (hc : c sl rt = .ok true rt1) (hb : body sl rt1 = .nx sl2 rt2) (hg : tkOk L (gcRt L (kill ks sl2) rt2) = true) (h : whileX ks L c body (gcSl L (kill ks sl2)) (gcRt L (kill ks sl2) rt2) = o) (ho : o ≠ .no) : whileX ks L c body sl rt = o := by
  unfold whileX at h
  split at h
  · rename_i hx
    refine whileX_of (n := Classical.choose hx + 1) ?_ ho
    unfold whileN
    simp only [hc, Ou.seq, if_true, hb, turnEnd, hg]
    exact h
  · exact (ho h.symm).elim
theorem whileX_end {ks : List Nat} {L : Nat} {c : Ex Bool} {body : Sx} {sl : Sl} {rt rt1 : List O} (hc : c sl rt = .ok false rt1) : whileX ks L c body sl rt = .nx sl rt1 := by
  refine whileX_of (n := 1) ?_ (fun h => nomatch h)
  unfold whileN
  simp only [hc, Ou.seq]
  rfl
theorem vs_while {X : Cx} {Wx : WX} {c : Expr} {body : List Stmt} {mc : Ex Bool} {m : Sx} {pos : Pos} (ks : List Nat) (hp : PassesOwn (model X.prog X.w) X.A X.env X.xe) (hc : VT X Wx c mc) (hb : VSs X Wx body m) : VS X Wx (.While c body [] pos) (sWhile ks mc m) := by
  obtain ⟨tc, c1, c2⟩ := hc.ex
  obtain ⟨tb, b1, b2⟩ := hb.ex
  refine ⟨_, ps_while hp c1 b1, fun B Hs ρ sl rt σ H D R S p => ?_⟩
  unfold sWhile whileX at p
  rw [← R.len] at p
  by_cases hx : ∃ n, whileN ks ρ.length mc m n sl rt ≠ .no
  · rw [dif_pos hx] at p
    refine ⟨fun k σ' H' => Stt X B Hs ρ σ.length σ' H' fun sl' rt' => PSx X.K X.w B Wx Hs ρ σ.length (whileN ks ρ.length mc m k sl' rt') D, ⟨_, Hs, ρ, sl, rt, Ext.refl, R, S, rfl, p⟩, ?_⟩
    rintro k σ' H' ⟨Hs1, ρ1, sl1, rt1, e1, R1, S1, l1, p1⟩
    cases k with
    | zero => exact p1.elim
    | succ k =>
      unfold whileN at p1
      rw [← l1] at p1
      refine c2 B Hs1 ρ1 sl1 rt1 σ' H' _ R1 S1 (PEx.seqB S1 e1 p1 fun b rt2 v Hs2 ρ2 H2 e2 R2 d2 p2 => ?_)
      subst d2
      cases v with
      | false => exact p2 Hs2 ρ2 σ' H2 (e1.trans e2) R2 (S1.mono e2) rfl
      | true =>
        refine ⟨fun σ' H' => Stt X B Hs ρ σ.length σ' H' fun sl' rt' => PSx X.K X.w B Wx Hs ρ σ.length (whileN ks ρ.length mc m k sl' rt') D, fun σ' H' h => ⟨k, Nat.lt_succ_self k, h⟩, ?_⟩
        refine b2 B Hs2 ρ2 sl1 rt2 σ' H2 _ R2 (S1.mono e2) ?_
        simp only [if_true] at p2
        rw [l1] at p2 ⊢
        have e02 := e1.trans e2
        cases hbo : m sl1 rt2 with
        | nx sl5 rt5 =>
          rw [hbo] at p2
          exact fun Hs5 ρ5 σ5 H5 e5 R5 S5 l5 => turn_ok (e02.trans e5) R5 S5 l5 p2
        | ct sl5 rt5 =>
          rw [hbo] at p2
          exact fun Hs5 ρ5 σ5 H5 e5 R5 S5 l5 => turn_ok (e02.trans e5) R5 S5 l5 p2
        | bk sl5 rt5 =>
          rw [hbo] at p2
          intro Hs5 ρ5 σ5 H5 e5 R5 S5 l5
          obtain ⟨Hs6, ρ6, sl6, rt6, e6, R6, S6, l6, p6⟩ := turn_ok (ks := ks) (k := Os.nx) (e02.trans e5) R5 S5 l5 p2
          exact p6 Hs6 ρ6 σ5 H5 e6 R6 S6 l6
        | re x5 rt5 => rw [hbo] at p2; exact PSx.ext (o := .re x5 rt5) p2 e02
        | ex c fs sl5 rt5 => rw [hbo] at p2; exact PSx.ext (o := .ex c fs sl5 rt5) p2 e02
        | no => rw [hbo] at p2; exact p2.elim
  · rw [dif_neg hx] at p
    exact p.elim
end VE

set_option maxRecDepth 100000
set_option maxHeartbeats 1000000
namespace VE
open PySem PySem.Spec L2

section
variable {K : PySem.W.Frag} {w : World} {B : Bnd} {Hs Hs' H H' : Hp} {ρ : List Addr} {rt : List O}
/-- the roots at js, changed -/
def put : List Nat → List O → List O → List O
  | j :: js, r :: rs, rt => put js rs (rt.set j r)
  | _, _, rt => rt
theorem put_length : ∀ {js : List Nat} {rs rt : List O}, (put js rs rt).length = rt.length
  | [], _, _ => by simp [put]
  | _ :: _, [], _ => by simp [put]
  | j :: js, r :: rs, rt => by rw [put, put_length]; simp
theorem put_out : ∀ {js : List Nat} {rs rt : List O} {i : Nat}, i ∉ js → (put js rs rt)[i]? = rt[i]?
  | [], _, _, _, _ => by simp [put]
  | _ :: _, [], _, _, _ => by simp [put]
  | j :: js, r :: rs, rt, i, h => by
    rw [put, put_out (fun z => h (List.mem_cons_of_mem _ z)), List.getElem?_set_ne (fun z => h (by rw [z]; exact List.mem_cons_self))]
theorem put_at : ∀ {js : List Nat} {rs rt : List O} {k j : Nat}, js.Nodup → js[k]? = some j → j < rt.length → k < rs.length → (put js rs rt)[j]? = rs[k]?
  | [], _, _, _, _, _, h, _, _ => by simp at h
  | _ :: _, [], _, _, _, _, _, _, h => by simp at h
  | j0 :: js, r :: rs, rt, 0, j, hn, h, hl, _ => by
    simp at h
    subst h
    rw [put, put_out (List.nodup_cons.mp hn).1, List.getElem?_set_self hl]
    rfl
  | j0 :: js, r :: rs, rt, k + 1, j, hn, h, hl, hk => by
    rw [put, put_at (k := k) (List.nodup_cons.mp hn).2 (by simpa using h) (by simpa using hl) (by simpa using hk)]
    simp

/-- into a call with some of the roots, and back -/
theorem Rel.enter (R : Rel K w B Hs ρ rt H) {js : List Nat} (hn : js.Nodup) (hr : ∀ j ∈ js, j < rt.length) (hv : ∀ j ∈ js, ∀ n p, rt[j]? ≠ some (O.vw n p)) (hj0 : ∀ (k n : Nat) (p : List Sel), rt[k]? = some (O.vw n p) → n ∉ js) :
    ∃ M, Rel K w ⟨H, Hs, M⟩ Hs (pk js ρ 0) (pk js rt (.d .non)) H ∧
      ∀ Hs' t rs H', (∀ o ∈ rs, o.isVw = false) → Same Hs Hs' → Rel K w ⟨H, Hs, M⟩ Hs' (pk js ρ 0 ++ t) rs H' → Rel K w B Hs' (ρ ++ t) (put js rs rt ++ rs.drop js.length) H' := by
  obtain ⟨F, hF⟩ := id R.own
  have RS := R.picked hn hr fun j hj n p e => (hv j hj n p e).elim
  have mM : ∀ b, b ∈ (js.map F).flatten ↔ ∃ j ∈ js, b ∈ F j := fun b => by
    rw [List.mem_flatten]
    exact ⟨fun ⟨l, h1, h2⟩ => let ⟨j, hj, e⟩ := List.mem_map.mp h1; ⟨j, hj, by rw [e]; exact h2⟩, fun ⟨j, hj, hb⟩ => ⟨F j, List.mem_map_of_mem hj, hb⟩⟩
  refine ⟨(js.map F).flatten, ⟨RS.same, RS.len, ⟨fat F js, fun i o e => ?_⟩, fun b o e => .inr e, fun b e => e, fun b e => .inl e, RS.lk⟩, fun Hs' t rs H' hrs ss R' => ?_⟩
  · obtain ⟨j, hj, ho⟩ := pk_of e hr
    obtain ⟨a, e1, h1, h2, h3, h4⟩ := hF j o ho
    rw [fat_at hj]
    refine ⟨a, pk_get hj e1, h1, h2, fun b hb => ⟨(h3 b hb).1, .inl ((mM b).mpr ⟨j, List.mem_of_getElem? hj, hb⟩)⟩, fun k hk hki b hb => ?_⟩
    rw [pk_length] at hk
    obtain ⟨j2, hj2⟩ : ∃ j2, js[k]? = some j2 := ⟨js[k], by simp [hk]⟩
    rw [fat_at hj2]
    exact h4 j2 (hr j2 (List.mem_of_getElem? hj2)) (fun z => hki (nodup_at hn hj2 (by rw [z]; exact hj))) b hb
  · obtain ⟨F', hF'⟩ := R'.own
    have hM : ∀ b, b ∈ (js.map F).flatten → H b ≠ none ∧ Hs b = none ∧ (b ∈ B.M ∨ B.H0 b = none) := fun b hb => by
      obtain ⟨j, hj, hb⟩ := (mM b).mp hb
      obtain ⟨o, ho⟩ : ∃ o, rt[j]? = some o := ⟨rt[j]'(hr j hj), by simp [hr j hj]⟩
      obtain ⟨a, e1, h1, h2, h3, h4⟩ := hF j o ho
      exact ⟨h1.there b hb, h3 b hb⟩
    have hlen : rs.length = js.length + t.length := by
      have := R'.len
      rw [List.length_append, pk_length] at this
      omega
    have same' : Same Hs' H' := R'.same
    -- what is not at js
    have outM : ∀ i o, rt[i]? = some o → i ∉ js → ∀ b ∈ F i, b ∉ (js.map F).flatten := fun i o ho hi b hb hm => by
      obtain ⟨j, hj, hb2⟩ := (mM b).mp hm
      obtain ⟨a, e1, h1, h2, h3, h4⟩ := hF i o ho
      exact h4 j (hr j hj) (fun z => hi (by rw [← z]; exact hj)) b hb hb2
    have newF : ∀ k o, rs[k]? = some o → ∀ b ∈ F' k, b ∈ (js.map F).flatten ∨ H b = none := fun k o ho b hb => by
      obtain ⟨a, e1, h1, h2, h3, h4⟩ := hF' k o ho
      exact (h3 b hb).2
    have cls : ∀ i, (∃ k, js[k]? = some i) ∨ i ∉ js := fun i => by
      by_cases h : i ∈ js
      · exact .inl (List.mem_iff_getElem?.mp h)
      · exact .inr h
    let G : Nat → List Addr := fun i => if i < rt.length then (if i ∈ js then F' (js.idxOf i) else F i) else F' (js.length + (i - rt.length))
    have G1 : ∀ i k, i < rt.length → js[k]? = some i → G i = F' k := fun i k hi hk => by
      show (if i < rt.length then (if i ∈ js then F' (js.idxOf i) else F i) else F' (js.length + (i - rt.length))) = F' k
      have hm := List.mem_of_getElem? hk
      rw [if_pos hi, if_pos hm]
      have : js[js.idxOf i]? = some i := by
        rw [List.getElem?_eq_some_iff]
        exact ⟨List.idxOf_lt_length_iff.mpr hm, by simp⟩
      rw [nodup_at hn this hk]
    have G2 : ∀ i, i < rt.length → i ∉ js → G i = F i := fun i hi hm => by
      show (if i < rt.length then (if i ∈ js then F' (js.idxOf i) else F i) else F' (js.length + (i - rt.length))) = F i
      rw [if_pos hi, if_neg hm]
    have G3 : ∀ i, ¬ i < rt.length → G i = F' (js.length + (i - rt.length)) := fun i hi => by
      show (if i < rt.length then (if i ∈ js then F' (js.idxOf i) else F i) else F' (js.length + (i - rt.length))) = _
      rw [if_neg hi]
    -- each index by its kind
    have kinds : ∀ i, i < rt.length + t.length → (∃ k, js[k]? = some i ∧ i < rt.length ∧ G i = F' k ∧ k < js.length) ∨ (i ∉ js ∧ i < rt.length ∧ G i = F i) ∨ (rt.length ≤ i ∧ G i = F' (js.length + (i - rt.length))) := fun i hi => by
      by_cases hlt : i < rt.length
      · rcases cls i with ⟨k, hk⟩ | hm
        · exact .inl ⟨k, hk, hlt, G1 i k hlt hk, (List.getElem?_eq_some_iff.mp hk).1⟩
        · exact .inr (.inl ⟨hm, hlt, G2 i hlt hm⟩)
      · exact .inr (.inr ⟨by omega, G3 i hlt⟩)
    have lenN : (put js rs rt ++ rs.drop js.length).length = rt.length + t.length := by
      rw [List.length_append, put_length, List.length_drop]; omega
    refine ⟨same', ?_, ⟨G, fun i o e => ?_⟩, fun b o e => ?_, fun b e => ?_, fun b e => ?_, fun k n p e => ?_⟩
    · rw [lenN, List.length_append, R.len]
    · have hi : i < rt.length + t.length := by rw [← lenN]; exact (List.getElem?_eq_some_iff.mp e).1
      -- the footprint of another index is elsewhere
      have apart : ∀ k o, rs[k]? = some o → (∀ j, j < rt.length + t.length → j ≠ i → (∀ k', js[k']? = some j → k' ≠ k) → (rt.length ≤ j → js.length + (j - rt.length) ≠ k) → ∀ b ∈ F' k, b ∉ G j) := fun k o ho j hj hji hk1 hk2 b hb hbj => by
        obtain ⟨a, e1, h1, h2, h3, h4⟩ := hF' k o ho
        rcases kinds j hj with ⟨k', q1, q2, q3, q4⟩ | ⟨q1, q2, q3⟩ | ⟨q1, q2⟩
        · rw [q3] at hbj
          exact h4 k' (by omega) (hk1 k' q1) b hb hbj
        · rw [q3] at hbj
          obtain ⟨o2, ho2⟩ : ∃ o2, rt[j]? = some o2 := ⟨rt[j], by simp [q2]⟩
          obtain ⟨_, _, g1, _⟩ := hF j o2 ho2
          rcases newF k o ho b hb with z | z
          · exact outM j o2 ho2 q1 b hbj z
          · exact g1.there b hbj z
        · rw [q2] at hbj
          exact h4 (js.length + (j - rt.length)) (by omega) (hk2 q1) b hb hbj
      rcases kinds i hi with ⟨k, q1, q2, q3, q4⟩ | ⟨q1, q2, q3⟩ | ⟨q1, q2⟩
      · rw [List.getElem?_append_left (by rw [put_length]; exact q2), put_at hn q1 q2 (by omega)] at e
        obtain ⟨a, e1, h1, h2, h3, h4⟩ := hF' k o e
        rw [q3]
        obtain ⟨a2, ha2⟩ : ∃ a2, ρ[i]? = some a2 := ⟨ρ[i]'(by rw [R.len]; exact q2), by simp [R.len, q2]⟩
        rw [List.getElem?_append_left (by rw [pk_length]; exact q4), pk_get q1 ha2] at e1
        refine ⟨a, by rw [List.getElem?_append_left (by rw [R.len]; exact q2), ha2]; exact e1, h1, h2, fun b hb => ⟨(h3 b hb).1, ?_⟩, fun j hj hji => ?_⟩
        · rcases (h3 b hb).2 with z | z
          · exact (hM b z).2.2
          · exact .inr (R.fresh z).2
        · rw [lenN] at hj
          refine apart k o e j hj hji (fun k' hk' z => ?_) fun hl => by omega
          subst z
          rw [q1] at hk'
          exact hji (Option.some.inj hk').symm
      · rw [List.getElem?_append_left (by rw [put_length]; exact q2), put_out q1] at e
        obtain ⟨a, e1, h1, h2, h3, h4⟩ := hF i o e
        rw [q3]
        have keep : ∀ b ∈ F i, H' b = H b := fun b hb => by
          cases hh : H b with
          | none => exact absurd hh (h1.there b hb)
          | some u =>
            rcases R'.frame b u hh with z | z
            · exact (outM i o e q1 b hb z).elim
            · exact z
        refine ⟨a, by rw [List.getElem?_append_left (by rw [R.len]; exact q2)]; exact e1, h1.mono ss keep, h2, fun b hb => ⟨?_, (h3 b hb).2⟩, fun j hj hji b hb hbj => ?_⟩
        · cases hh : Hs' b with
          | none => rfl
          | some u =>
            rcases R'.pers b (by rw [hh]; exact fun z => nomatch z) with z | z | z
            · exact absurd (h3 b hb).1 z
            · exact absurd z (h1.there b hb)
            · exact (outM i o e q1 b hb z).elim
        · rw [lenN] at hj
          rcases kinds j hj with ⟨k', r1, r2, r3, r4⟩ | ⟨r1, r2, r3⟩ | ⟨r1, r2⟩
          · rw [r3] at hbj
            obtain ⟨o2, ho2⟩ : ∃ o2, rs[k']? = some o2 := ⟨rs[k']'(by omega), by simp [show k' < rs.length by omega]⟩
            rcases newF k' o2 ho2 b hbj with z | z
            · exact outM i o e q1 b hb z
            · exact h1.there b hb z
          · rw [r3] at hbj
            exact h4 j r2 hji b hb hbj
          · rw [r2] at hbj
            obtain ⟨o2, ho2⟩ : ∃ o2, rs[js.length + (j - rt.length)]? = some o2 := ⟨rs[js.length + (j - rt.length)]'(by omega), by simp [show js.length + (j - rt.length) < rs.length by omega]⟩
            rcases newF _ o2 ho2 b hbj with z | z
            · exact outM i o e q1 b hb z
            · exact h1.there b hb z
      · rw [List.getElem?_append_right (by rw [put_length]; exact q1), put_length, List.getElem?_drop] at e
        obtain ⟨a, e1, h1, h2, h3, h4⟩ := hF' _ o e
        rw [q2]
        rw [List.getElem?_append_right (by rw [pk_length]; omega), pk_length, Nat.add_sub_cancel_left] at e1
        refine ⟨a, by rw [List.getElem?_append_right (by rw [R.len]; exact q1), R.len]; exact e1, h1, h2, fun b hb => ⟨(h3 b hb).1, ?_⟩, fun j hj hji => ?_⟩
        · rcases (h3 b hb).2 with z | z
          · exact (hM b z).2.2
          · exact .inr (R.fresh z).2
        · rw [lenN] at hj
          refine apart _ o e j hj hji (fun k' hk' => ?_) fun hl => by omega
          have := (List.getElem?_eq_some_iff.mp hk').1
          omega
    · rcases R.frame b o e with z | z
      · exact .inl z
      · rcases R'.frame b o z with y | y
        · rcases (hM b y).2.2 with x | x
          · exact .inl x
          · rw [x] at e; cases e
        · exact .inr y
    · exact R'.there b (R.there b e)
    · rcases R'.pers b e with z | z | z
      · exact R.pers b z
      · exact .inr (.inl (R.fresh z).2)
      · exact .inr ((hM b z).2.2.symm)
    · have hi : k < rt.length + t.length := by rw [← lenN]; exact (List.getElem?_eq_some_iff.mp e).1
      have out : rt[k]? = some (O.vw n p) ∧ k < rt.length := by
        rcases kinds k hi with ⟨k', q1, q2, q3, q4⟩ | ⟨q1, q2, q3⟩ | ⟨q1, q2⟩
        · rw [List.getElem?_append_left (by rw [put_length]; exact q2), put_at hn q1 q2 (by omega)] at e
          have := hrs _ (List.mem_of_getElem? e)
          cases this
        · rw [List.getElem?_append_left (by rw [put_length]; exact q2), put_out q1] at e
          exact ⟨e, q2⟩
        · rw [List.getElem?_append_right (by rw [put_length]; exact q1), put_length, List.getElem?_drop] at e
          have := hrs _ (List.mem_of_getElem? e)
          cases this
      obtain ⟨out, hk⟩ := out
      obtain ⟨a, b, o, h1, h2, h3, h5, h4⟩ := R.lk k n p out
      have hnj := hj0 k n p out
      have hnl := (List.getElem?_eq_some_iff.mp h3).1
      obtain ⟨a2, eb, g1, g2, g3, g4⟩ := hF n o h3
      rw [h2] at eb; cases eb
      have keep : ∀ b ∈ F n, H' b = H b := fun b hb => by
        cases hh : H b with
        | none => exact absurd hh (g1.there b hb)
        | some u =>
          rcases R'.frame b u hh with z | z
          · exact (outM n o h3 hnj b hb z).elim
          · exact z
      exact ⟨a, b, o, by rw [List.getElem?_append_left (by rw [R.len]; exact hk)]; exact h1, by rw [List.getElem?_append_left (by rw [R.len]; exact hnl)]; exact h2,
        by rw [List.getElem?_append_left (by rw [put_length]; exact hnl), put_out hnj]; exact h3, h5, g1.link keep h4⟩
end
end VE

set_option maxRecDepth 100000
set_option maxHeartbeats 1000000
namespace VE
open PySem PySem.Spec L2

/-- a def's mirror: its arguments, the roots among them -/
abbrev FM := List W → List O → Ou W
def roots : List W → List Nat
  | [] => []
  | .d _ :: ws => roots ws
  | .r n :: ws => n :: roots ws
def renum (js : List Nat) : W → W
  | .d x => .d x
  | .r n => .r (ixOf n js)
def back (js : List Nat) (l : Nat) : W → W
  | .d x => .d x
  | .r j => if j < js.length then .r (js.getD j 0) else .r (l + (j - js.length))
/-- no places -/
def allNv (rt : List O) : Bool := rt.all fun o => !o.isVw
def callR (js : List Nat) (rt : List O) (o : Ou W) : Ou W := match o with
  | .ok x rs => if allNv rs = true then .ok (back js rt.length x) (put js rs rt ++ rs.drop js.length) else .no
  | .ex c fs rs => if allNv rs = true then .ex c fs (put js rs rt ++ rs.drop js.length) else .no
  | .no => .no
/-- the numbers lent: different ones, no places, none with a place in it -/
def nvAt (rt : List O) (j : Nat) : Bool := match rt[j]? with
  | some o => !o.isVw
  | none => true
def offO (js : List Nat) : O → Bool
  | .vw n _ => !js.contains n
  | _ => true
def okRoots (js : List Nat) (rt : List O) : Bool := decide js.Nodup && ((js.all fun j => decide (j < rt.length)) && ((js.all fun j => nvAt rt j) && rt.all fun o => offO js o))
def callF (f : FM) (ws : List W) (rt : List O) : Ou W :=
  if okRoots (roots ws) rt = true then callR (roots ws) rt (f (ws.map (renum (roots ws))) (pk (roots ws) rt (.d .non))) else .no

/-- the promise of a def with this mirror -/
def spV (K : PySem.W.Frag) (w : World) (m : FM) (np : Nat) : Sp := fun vs H Q E => vs.length = np ∧
  ∃ M Hs ρ rt ws, Rel K w ⟨H, Hs, M⟩ Hs ρ rt H ∧ WDs K w Hs ρ vs ws ∧ PE1 K w ⟨H, Hs, M⟩ (fun c d _ H => E c d H) Hs ρ [] (m ws rt) Q

/-- the end of a def: the roots that came in, and the root that is handed back -/
def ret (k : Nat) (x : W) (rt : List O) : Ou W := if allNv (rt.take k) = true then (match x with
  | .d x => .ok (.d x) (rt.take k)
  | .r j => if j < k then .ok (.r j) (rt.take k) else match rt[j]? with
    | some o => if o.isVw = true then .no else .ok (.r k) (rt.take k ++ [o])
    | none => .no) else .no
def mkF (n : Nat) (body : Sx) : FM := fun ws rt => match body (ws.map some ++ List.replicate (n - ws.length) none) rt with
  | .nx _ rt' => ret rt.length (.d .non) rt'
  | .re x rt' => ret rt.length x rt'
  | .ex c fs _ rt' => if allNv (rt'.take rt.length) = true then .ex c fs (rt'.take rt.length) else .no
  | _ => .no
theorem nv_of {rt : List O} (h : allNv rt = true) : ∀ o ∈ rt, o.isVw = false := fun o ho => by simpa using List.all_eq_true.mp h o ho

section
variable {K : PySem.W.Frag} {w : World} {B : Bnd} {Hs Hs' H H' : Hp} {ρ ρ' : List Addr} {rt : List O}
theorem Rel.take (R : Rel K w B Hs ρ rt H) {k : Nat} (h : k ≤ rt.length) (hg : ∀ n p, O.vw n p ∈ rt.take k → n < k) : Rel K w B Hs (ρ.take k) (rt.take k) H := by
  have q := R.picked (js := List.range k) List.nodup_range (fun j hj => by have := List.mem_range.mp hj; omega) (fun j hj n p e => by
    have hj := List.mem_range.mp hj
    have := hg n p (List.mem_of_getElem? (i := j) (by rw [List.getElem?_take, if_pos hj]; exact e))
    simp [this])
  rw [pk_range (by rw [R.len]; exact h), pk_range h] at q
  exact q
theorem Rel.take1 (R : Rel K w B Hs ρ rt H) {k j : Nat} {a : Addr} {o : O} (h : k ≤ j) (ha : ρ[j]? = some a) (ho : rt[j]? = some o) (hv : o.isVw = false) (hg : ∀ n p, O.vw n p ∈ rt.take k → n < k) : Rel K w B Hs (ρ.take k ++ [a]) (rt.take k ++ [o]) H := by
  have hj : j < rt.length := (List.getElem?_eq_some_iff.mp ho).1
  have q := R.picked (js := List.range k ++ [j]) (by rw [List.nodup_append]; exact ⟨List.nodup_range, by simp, fun x hx y hy => by have := List.mem_range.mp hx; have := List.mem_singleton.mp hy; omega⟩)
    (fun i hi => by
      rcases List.mem_append.mp hi with hi | hi
      · have := List.mem_range.mp hi; omega
      · have := List.mem_singleton.mp hi; omega)
    (fun i hi n p e => by
      rcases List.mem_append.mp hi with hi | hi
      · have hi := List.mem_range.mp hi
        have hn := hg n p (List.mem_of_getElem? (i := i) (by rw [List.getElem?_take, if_pos hi]; exact e))
        rw [List.getElem?_append_left (by simpa using hn)]
        simp [hn]
      · have := List.mem_singleton.mp hi
        subst this
        rw [ho] at e
        cases e
        cases hv)
  have e1 : pk (List.range k ++ [j]) ρ 0 = ρ.take k ++ [a] := by
    have := pk_range (d := (0 : Addr)) (l := ρ) (k := k) (by rw [R.len]; omega)
    unfold pk at this ⊢
    rw [List.map_append, this]
    simp [List.getD_eq_getElem?_getD, ha]
  have e2 : pk (List.range k ++ [j]) rt (.d .non) = rt.take k ++ [o] := by
    have := pk_range (d := O.d .non) (l := rt) (k := k) (by omega)
    unfold pk at this ⊢
    rw [List.map_append, this]
    simp [List.getD_eq_getElem?_getD, ho]
  rw [e1, e2] at q
  exact q
end

theorem WDs.length {K : PySem.W.Frag} {w : World} {Hs : Hp} {ρ : List Addr} : ∀ {vs : List V} {xs : List W}, WDs K w Hs ρ vs xs → vs.length = xs.length
  | _, _, .nil => rfl
  | _, _, .cons _ t => by simp [WDs.length t]
theorem WDs.get {K : PySem.W.Frag} {w : World} {Hs : Hp} {ρ : List Addr} : ∀ {vs : List V} {xs : List W} {i : Nat} {x : W}, WDs K w Hs ρ vs xs → xs[i]? = some x → ∃ v, vs[i]? = some v ∧ WD K w Hs ρ v x
  | _, _, _, _, .nil, e => by simp at e
  | _, _, 0, _, .cons h _, e => by simp at e; subst e; exact ⟨_, rfl, h⟩
  | _, _, i + 1, _, .cons _ t, e => by
    obtain ⟨v, h1, h2⟩ := WDs.get (i := i) t (by simpa using e)
    exact ⟨v, by simpa using h1, h2⟩
theorem start_ok {K : PySem.W.Frag} {w : World} {Hs : Hp} {ρ : List Addr} {N : List Str} {vs : List V} {ws : List W} (h : WDs K w Hs ρ vs ws) : SlD K w Hs ρ (L2.start N vs) (ws.map some ++ List.replicate (N.length - ws.length) none) := by
  refine ⟨by simp only [L2.start, List.length_append, List.length_map, List.length_replicate, h.length], fun i x e => ?_⟩
  by_cases hi : i < ws.length
  · rw [List.getElem?_append_left (by simpa using hi), List.getElem?_map] at e
    obtain ⟨y, hy, e⟩ := Option.map_eq_some_iff.mp e
    cases e
    obtain ⟨v, h1, h2⟩ := h.get hy
    refine ⟨v, ?_, h2⟩
    unfold L2.start
    rw [List.getElem?_append_left (by simpa [h.length] using hi), List.getElem?_map, h1]
    rfl
  · rw [List.getElem?_append_right (by simpa using Nat.le_of_not_lt hi)] at e
    exact absurd (List.mem_of_getElem? e) (by simp)

/-- a def keeps its mirror's promise -/
theorem fn_v {P : Program} {w : World} {K : PySem.W.Frag} {mg : Str → Option Value} {base : Heap} {x qual : Str} {st : Stmt} {f : Addr} {fd : FuncData} {N ps : List Str} {k : Nat} {body : Sx} (F : Fun K x qual st f fd) (S : FnScope N ps (defScope st))
    (hbody : ∀ (cdv : Value) (A : Around) (outer : List Env) (s : Shared) (H : Hp) (E : XK), Room k (A.deeper (PyProof.Rows.envOfC qual (defScope st) s.heap.objs.size f cdv)) →
      VSs (cxOf (L2.CX P w) P w K mg base N qual (defScope st) f cdv A outer s H E) (fun c d _ H => E c d H) (defBody st) body) : FnOk P w K mg base (L2.CX P w) (k + 1) f fd ps (spV K w (mkF N.length body) ps.length) := by
  refine F.okX S (fun vs H Q E h => h.1) (fun cdv A outer s H vs Q E hr h => ?_)
  obtain ⟨t, h1, h2⟩ := (hbody cdv A outer s H E hr).ex
  obtain ⟨hl, M, Hs, ρ, rt, ws, R, hw, p⟩ := h
  refine ⟨t, h1, h2 ⟨H, Hs, M⟩ Hs ρ _ rt _ H _ R (start_ok hw) ?_⟩
  unfold mkF at p
  have take_ext : ∀ {Hs' : Hp} {ρ' : List Addr}, Ext Hs ρ Hs' ρ' → ρ'.take rt.length = ρ := fun e => by
    obtain ⟨_, t, rfl⟩ := e
    rw [← R.len, List.take_left]
  have le_ext : ∀ {Hs' : Hp} {ρ' : List Addr} {rt' : List O} {H' : Hp}, Ext Hs ρ Hs' ρ' → Rel K w ⟨H, Hs, M⟩ Hs' ρ' rt' H' → rt.length ≤ rt'.length := fun e R' => by
    obtain ⟨_, t, rfl⟩ := e
    rw [← R'.len, ← R.len]; simp
  have nvk : ∀ {l : List O}, allNv l = true → ∀ n p, O.vw n p ∈ l → n < rt.length := fun h n p hm => nomatch nv_of h _ hm
  have ret_ok : ∀ {v : V} {y : W} {Hs' : Hp} {ρ' : List Addr} {rt' : List O} {H' : Hp}, Ext Hs ρ Hs' ρ' → Rel K w ⟨H, Hs, M⟩ Hs' ρ' rt' H' → WD K w Hs' ρ' v y → PE1 K w ⟨H, Hs, M⟩ (fun c d _ H => E c d H) Hs ρ [] (ret rt.length y rt') Q → Q v H' := fun {v y Hs' ρ' rt' H'} e1 R1 d1 p => by
    unfold ret at p
    split at p
    · rename_i hnv
      cases y with
      | d y => exact p _ Hs' _ H' ⟨e1.same, [], by rw [take_ext e1]; simp⟩ (R1.take (le_ext e1 R1) (nvk hnv)) d1
      | r j =>
        obtain ⟨a, ha, rfl⟩ := d1
        have hj : j < rt'.length := by rw [← R1.len]; exact (List.getElem?_eq_some_iff.mp ha).1
        by_cases hk : j < rt.length
        · simp only [hk, if_true] at p
          exact p _ Hs' _ H' ⟨e1.same, [], by rw [take_ext e1]; simp⟩ (R1.take (le_ext e1 R1) (nvk hnv)) ⟨a, by rw [List.getElem?_take, if_pos hk]; exact ha, rfl⟩
        · obtain ⟨o, ho⟩ : ∃ o, rt'[j]? = some o := ⟨rt'[j], by simp [hj]⟩
          simp only [hk, if_false, ho] at p
          split at p
          · exact p.elim
          · rename_i hv
            refine p _ Hs' _ H' ⟨e1.same, [a], by rw [take_ext e1]⟩ (R1.take1 (Nat.le_of_not_lt hk) ha ho (by simpa using hv) (nvk hnv)) ⟨a, ?_, rfl⟩
            rw [take_ext e1, ← R.len, List.getElem?_append_right (Nat.le_refl _), Nat.sub_self]
            rfl
    · exact p.elim
  cases hb : body (ws.map some ++ List.replicate (N.length - ws.length) none) rt with
  | nx sl' rt' =>
    rw [hb] at p
    intro Hs' ρ' σ' H' e1 R1 S1 _
    exact ret_ok (y := .d .non) e1 R1 .non p
  | re y rt' =>
    rw [hb] at p
    intro v Hs' ρ' H' e1 R1 d1
    exact ret_ok e1 R1 d1 p
  | ex c fs sl' rt' =>
    rw [hb] at p
    simp only at p
    split at p
    · rename_i hnv
      intro d Hs' ρ' σ' H' e1 R1 x1 _ _
      exact p d Hs' _ H' ⟨e1.same, [], by rw [take_ext e1]; simp⟩ (R1.take (le_ext e1 R1) (nvk hnv)) x1
    · exact p.elim
  | bk sl' rt' => rw [hb] at p; exact p.elim
  | ct sl' rt' => rw [hb] at p; exact p.elim
  | no => rw [hb] at p; exact p.elim

section
variable {X : Cx} {Wx : WX}
theorem roots_mem : ∀ {ws : List W} {n : Nat}, W.r n ∈ ws → n ∈ roots ws
  | [], _, h => by cases h
  | .d _ :: ws, n, h => by
    rcases List.mem_cons.mp h with h | h
    · cases h
    · exact roots_mem (ws := ws) h
  | .r m :: ws, n, h => by
    rcases List.mem_cons.mp h with h | h
    · cases h; exact List.mem_cons_self
    · exact List.mem_cons_of_mem _ (roots_mem (ws := ws) h)
theorem renum_ok {K : PySem.W.Frag} {w : World} {Hs : Hp} {ρ : List Addr} {js : List Nat} {vs : List V} {ws : List W} (h : WDs K w Hs ρ vs ws) (hm : ∀ n, W.r n ∈ ws → n ∈ js) : WDs K w Hs (pk js ρ 0) vs (ws.map (renum js)) := by
  induction h with
  | nil => exact .nil
  | @cons v x vs xs h t ih =>
    refine .cons ?_ (ih fun n hn => hm n (List.mem_cons_of_mem _ hn))
    cases x with
    | d x => exact h
    | r n =>
      obtain ⟨a, ha, rfl⟩ := h
      exact ⟨a, pk_get (ixOf_at (hm n List.mem_cons_self)) ha, rfl⟩
/-- a call's reading -/
theorem call_ok {K : PySem.W.Frag} {w : World} {B : Bnd} {Hs H : Hp} {ρ : List Addr} {rt : List O} {σ : L2.St} {np : Nat} {m : FM} {vs : List V} {ws : List W} {Q : VK} (R : Rel K w B Hs ρ rt H) (d : WDs K w Hs ρ vs ws) (hl : ws.length = np)
    (p : PE1 K w B Wx Hs ρ σ (callF m ws rt) Q) : spV K w m np vs H Q (fun c d H => Wx c d σ H) := by
  unfold callF at p
  by_cases hok : okRoots (roots ws) rt = true
  · rw [if_pos hok] at p
    have h1 := Bool.and_eq_true_iff.mp hok
    have h2 := Bool.and_eq_true_iff.mp h1.2
    have h3 := Bool.and_eq_true_iff.mp h2.2
    have hn : (roots ws).Nodup := of_decide_eq_true h1.1
    have hr : ∀ j ∈ roots ws, j < rt.length := fun j hj => of_decide_eq_true (List.all_eq_true.mp h2.1 j hj)
    have hv : ∀ j ∈ roots ws, ∀ n p, rt[j]? ≠ some (O.vw n p) := fun j hj n p e => by
      have := List.all_eq_true.mp h3.1 j hj
      unfold nvAt at this
      rw [e] at this
      cases this
    have hj0 : ∀ (k n : Nat) (p : List Sel), rt[k]? = some (O.vw n p) → n ∉ roots ws := fun k n p e hm => by
      have := List.all_eq_true.mp h3.2 _ (List.mem_of_getElem? e)
      simp [offO, hm] at this
    obtain ⟨M, R1, lv⟩ := R.enter hn hr hv hj0
    refine ⟨d.length.trans hl, M, Hs, _, _, _, R1, renum_ok d (fun n hn => roots_mem hn), ?_⟩
    cases hm : m (ws.map (renum (roots ws))) (pk (roots ws) rt (.d .non)) with
    | no => rw [hm] at p; exact p.elim
    | ex c fs rs =>
      rw [hm] at p
      simp only [callR] at p
      split at p
      · rename_i hnv
        intro dd Hs' ρ' H' e2 R2 x2
        obtain ⟨s2, t, rfl⟩ := e2
        exact p dd Hs' (ρ ++ t) H' ⟨s2, t, rfl⟩ (lv Hs' t rs H' (nv_of hnv) s2 R2) x2
      · exact p.elim
    | ok x rs =>
      rw [hm] at p
      simp only [callR] at p
      split at p
      · rename_i hnv
        intro v Hs' ρ' H' e2 R2 d2
        obtain ⟨s2, t, rfl⟩ := e2
        refine p v Hs' (ρ ++ t) H' ⟨s2, t, rfl⟩ (lv Hs' t rs H' (nv_of hnv) s2 R2) ?_
        cases x with
        | d x => exact d2
        | r j =>
          obtain ⟨a, ha, rfl⟩ := d2
          show WD K w Hs' (ρ ++ t) (V.ref a) (if j < (roots ws).length then W.r ((roots ws).getD j 0) else W.r (rt.length + (j - (roots ws).length)))
          by_cases hj : j < (roots ws).length
          · rw [if_pos hj]
            refine ⟨a, ?_, rfl⟩
            rw [List.getElem?_append_left (by rw [pk_length]; exact hj)] at ha
            obtain ⟨i, hi, e⟩ := pk_of ha (fun j hj => by rw [R.len]; exact hr j hj)
            rw [List.getD_eq_getElem?_getD, hi]
            exact Ext.at (Hs := Hs) (Hs' := Hs) ⟨Same.rfl', t, rfl⟩ e
          · rw [if_neg hj]
            refine ⟨a, ?_, rfl⟩
            rw [List.getElem?_append_right (by rw [pk_length]; omega), pk_length] at ha
            rw [List.getElem?_append_right (by rw [R.len]; omega), R.len, Nat.add_sub_cancel_left]
            exact ha
      · exact p.elim
  · rw [if_neg hok] at p
    exact p.elim

/-! ### arguments -/
def aNil : Ex (List W) := fun _ rt => .ok [] rt
def aCons (m : Ex W) (ms : Ex (List W)) : Ex (List W) := fun sl rt => (m sl rt).bind fun x rt => (ms sl rt).bind fun xs rt => .ok (x :: xs) rt
/-- an argument, made plain -/
def eVal (m : Ex W) : Ex W := fun sl rt => (m sl rt).bind fun x rt => (vOf x rt).bind fun y rt => .ok (.d y) rt
variable {e : Expr} {es : List Expr} {m : Ex W} {ms : Ex (List W)} {pos : Pos}
theorem va_nil : VA X Wx [] aNil := ⟨_, pa_nil, fun B Hs ρ sl rt σ H Q R S p => p _ Hs ρ H Ext.refl R .nil⟩
theorem va_cons (h1 : VX X Wx e m) (h2 : VA X Wx es ms) (hs : starEach (e :: es) X.env = (false, eval e X.env) :: starEach es X.env := by rfl) : VA X Wx (e :: es) (aCons m ms) := by
  obtain ⟨t, a1, a2⟩ := h1.ex
  obtain ⟨u, b1, b2⟩ := h2.ex
  refine ⟨_, pa_cons a1 b1 hs, fun B Hs ρ sl rt σ H Q R S p => ?_⟩
  refine a2 B Hs ρ sl rt σ H _ R S (PEx.bind p fun x rt1 v Hs1 ρ1 H1 e1 R1 d1 p1 => ?_)
  refine b2 B Hs1 ρ1 sl rt1 σ H1 _ R1 (S.mono e1) (PEx.bind p1 fun xs rt2 vs Hs2 ρ2 H2 e2 R2 d2 p2 => ?_)
  exact p2 _ Hs2 ρ2 H2 Ext.refl R2 (.cons (d1.mono e2) d2)
theorem vx_val (h1 : VX X Wx e m) : VX X Wx e (eVal m) := by
  obtain ⟨t, a1, a2⟩ := h1.ex
  refine ⟨t, a1, fun B Hs ρ sl rt σ H Q R S p => ?_⟩
  refine a2 B Hs ρ sl rt σ H _ R S (PEx.bind p fun x rt1 v Hs1 ρ1 H1 e1 R1 d1 p1 => ?_)
  exact PEx.val R1 d1 p1 fun y rt2 Hs2 e2 R2 d2 p2 => p2 v Hs2 ρ1 H1 Ext.refl R2 d2
def eCall (f : FM) (np : Nat) (ms : Ex (List W)) : Ex W := fun sl rt => (ms sl rt).bind fun ws rt => if ws.length = np then callF f ws rt else .no
def eCall0 (f : FM) : Ex W := fun _ rt => (callF f [] rt).noex
/-- a def of the module is called, every parameter by place -/
theorem vx_call {k : Nat} {f : Addr} {fd : FuncData} {ps : List Str} {x : Str} {p : Pos} {fm : FM} (F : FnOk X.prog X.w X.K X.mg X.base (L2.CX X.prog X.w) k f fd ps (spV X.K X.w fm ps.length)) (hr : Room k X.A) (hg : Gl X x) (hm : X.mg x = some (.ref f)) (hk : PySem.W.keepIn X.K (.ref f) = true) (hb : Binds X.K fd ps [])
    (tk : Takes X Wx) (ha : VA X Wx (e :: es) ms) (hdb : (x == ("__debug__" : Str)) = false := by decide) (he : starEach (e :: es) X.env = (false, eval e X.env) :: starEach es X.env := by rfl) (hpl : (backTo pos (starEach es X.env)).any (·.1) = false := by rfl) :
    VX X Wx (.Call (.Name x p) (e :: es) [] pos) (eCall fm ps.length ms) := by
  obtain ⟨t, a1, a2⟩ := ha.ex
  refine vx_pe (pe_callS F hr hg hm hk hb (fun σ => passAt tk σ) a1 hdb he hpl) fun B Hs ρ sl rt σ H Q R S p => ?_
  refine a2 B Hs ρ sl rt σ H _ R S (PEx.bind p fun ws rt1 vs Hs1 ρ1 H1 e1 R1 d1 p1 => ?_)
  by_cases hl : ws.length = ps.length
  · rw [if_pos hl] at p1
    exact call_ok R1 d1 hl p1
  · rw [if_neg hl] at p1
    exact p1.elim
theorem vx_call0 {k : Nat} {f : Addr} {fd : FuncData} {x : Str} {p : Pos} {fm : FM} (F : FnOk X.prog X.w X.K X.mg X.base (L2.CX X.prog X.w) k f fd [] (spV X.K X.w fm 0)) (hr : Room k X.A) (hg : Gl X x) (hm : X.mg x = some (.ref f)) (hk : PySem.W.keepIn X.K (.ref f) = true) (hb : Binds X.K fd [] [])
    (hdb : (x == ("__debug__" : Str)) = false := by decide) : VX X Wx (.Call (.Name x p) [] [] pos) (eCall0 fm) := by
  refine vx_pe (pe_call0 F hr hg hm hk hb .nil passL hdb) fun B Hs ρ sl rt σ H Q R S p => ?_
  refine call_ok (Wx := fun _ _ _ _ => False) (σ := []) R .nil rfl ?_
  unfold eCall0 at p
  cases h : callF fm [] rt with
  | ok x rt1 => rw [h] at p; exact p
  | ex c fs rt1 => rw [h] at p; exact p.elim
  | no => rw [h] at p; exact p.elim
end
end VE

set_option maxRecDepth 100000
set_option maxHeartbeats 1000000
namespace VE
open PySem PySem.Spec L2

theorem lim_le {n : Nat} (h : n ≤ 16000000) : n ≤ sizeLine := by rw [sizeLine_eq]; omega
theorem lim_lt {n : Nat} (h : n < 16000000) : n < sizeLine := by rw [sizeLine_eq]; omega

/-! ### reading what stands -/
def lsOf (x : W) (rt : List O) : Option (List D) := match x with
  | .d (.lst xs) => some xs
  | .r n => match rd rt n with
    | some (.lst xs) => some xs
    | some (.d (.lst xs)) => some xs
    | _ => none
  | _ => none
def tpOf (x : W) : Option (List D) := match x with
  | .d (.tup xs) => some xs
  | .d (.ktup xs) => some xs
  | _ => none
section
variable {K : PySem.W.Frag} {w : World} {B : Bnd} {Wx : WX} {Hs H : Hp} {ρ : List Addr} {rt : List O} {σ : L2.St} {v : V} {x : W} {xs : List D} {vs : List V} {Q : VK}
theorem lsOf_ok (R : Rel K w B Hs ρ rt H) (d : WD K w Hs ρ v x) (e : lsOf x rt = some xs) : ∃ a vs, v = .ref a ∧ H a = some (.lst vs) ∧ Dens K w Hs vs xs := by
  cases x with
  | d x =>
    cases x <;> first | cases e | skip
    cases d with
    | @lst a vs _ h1 h2 => exact ⟨a, vs, rfl, R.same _ _ h1, h2⟩
  | r n =>
    unfold lsOf at e
    cases ho : rd rt n with
    | none => simp only [ho] at e; cases e
    | some o =>
      cases o <;> simp only [ho] at e <;> first | cases e | skip
      · rename_i y
        cases y <;> simp only at e <;> first | cases e | skip
        obtain ⟨a, C, rfl, h1, _⟩ := R.at d ho rfl
        cases h1 with
        | d h2 => cases h2 with
          | @lst _ vs _ h1 h2 => exact ⟨a, vs, rfl, R.same _ _ h1, h2⟩
      · obtain ⟨a, C, rfl, h1, _⟩ := R.at d ho rfl
        cases h1 with
        | @lst _ vs _ h1 h2 => exact ⟨a, vs, rfl, h1, h2⟩
theorem tpOf_ok (R : Rel K w B Hs ρ rt H) (d : WD K w Hs ρ v x) (e : tpOf x = some xs) : ∃ a vs, v = .ref a ∧ SqT K Hs a vs ∧ SqT K H a vs ∧ Dens K w Hs vs xs := by
  cases x with
  | r n => cases e
  | d x =>
    cases x <;> first | cases e | skip
    · cases d with
      | @tup a vs _ h1 h2 => exact ⟨a, vs, rfl, SqT.of h1, SqT.of (R.same _ _ h1), h2⟩
    · cases d with
      | @ktup a vs _ h1 h2 => exact ⟨a, vs, rfl, h1.sqt, SqT.mono R.same h1.sqt, h2⟩
/-- a new list -/
theorem new_list (R : Rel K w B Hs ρ rt H) (d : Dens K w Hs vs xs) (p : PE1 K w B Wx Hs ρ σ (.ok (.r rt.length) (rt ++ [.lst xs])) Q) : ∀ q, H q = none → Q (.ref q) (upd H q (.lst vs)) := fun q hq =>
  p _ Hs _ _ Ext.push (R.push hq (.lst upd_same d)) ⟨q, by rw [← R.len, List.getElem?_append_right (Nat.le_refl _), Nat.sub_self]; rfl, rfl⟩
theorem new_tup (R : Rel K w B Hs ρ rt H) (d : Dens K w Hs vs xs) (p : PE1 K w B Wx Hs ρ σ (.ok (.d (.tup xs)) rt) Q) : ∀ q, H q = none → Q (.ref q) (upd H q (.tup vs)) := fun q hq =>
  p _ _ ρ _ (Ext.of_same (same_upd (R.fresh hq).1)) (R.alloc hq) (.tup upd_same (d.mono (same_upd (R.fresh hq).1)))
theorem Dens.append : ∀ {vs us : List V} {xs ys : List D}, Dens K w H vs xs → Dens K w H us ys → Dens K w H (vs ++ us) (xs ++ ys)
  | _, _, _, _, .nil, h => h
  | _, _, _, _, .cons a b, h => .cons a (b.append h)
theorem Dens.take : ∀ {vs : List V} {xs : List D} (n : Nat), Dens K w H vs xs → Dens K w H (vs.take n) (xs.take n)
  | _, _, 0, _ => .nil
  | _, _, _ + 1, .nil => .nil
  | _, _, n + 1, .cons a b => .cons a (b.take n)
theorem Dens.drop : ∀ {vs : List V} {xs : List D} (n : Nat), Dens K w H vs xs → Dens K w H (vs.drop n) (xs.drop n)
  | _, _, 0, h => h
  | _, _, _ + 1, .nil => .nil
  | _, _, n + 1, .cons a b => b.drop n
theorem Dens.rev : ∀ {vs : List V} {xs : List D}, Dens K w H vs xs → Dens K w H vs.reverse xs.reverse
  | _, _, .nil => .nil
  | _, _, .cons a b => by rw [List.reverse_cons, List.reverse_cons]; exact b.rev.append (.cons a .nil)
theorem Dens.set {v : V} {x : D} (d : Den K w H v x) : ∀ {vs : List V} {xs : List D} (n : Nat), Dens K w H vs xs → Dens K w H (vs.set n v) (xs.set n x)
  | _, _, _, .nil => .nil
  | _, _, 0, .cons _ b => .cons d b
  | _, _, n + 1, .cons a b => .cons a (b.set d n)
theorem Dens.eraseIdx : ∀ {vs : List V} {xs : List D} (n : Nat), Dens K w H vs xs → Dens K w H (vs.eraseIdx n) (xs.eraseIdx n)
  | _, _, _, .nil => .nil
  | _, _, 0, .cons _ b => b
  | _, _, n + 1, .cons a b => .cons a (b.eraseIdx n)
end

/-! ### numbers, texts, lists, tuples: + - * // % ** -/
def gAdd (x y : W) (rt : List O) : Ou W := match x, y with
  | .d (.int i), .d (.int j) => .ok (.d (.int (i + j))) rt
  | .d (.str i), .d (.str j) => if i.length + j.length ≤ 16000000 then .ok (.d (.str (i ++ j))) rt else .no
  | .d (.tup xs), .d (.tup ys) => if xs.length + ys.length ≤ 16000000 then .ok (.d (.tup (xs ++ ys))) rt else .no
  | x, y => match lsOf x rt, lsOf y rt with
    | some xs, some ys => if xs.length + ys.length ≤ 16000000 then .ok (.r rt.length) (rt ++ [.lst (xs ++ ys)]) else .no
    | _, _ => .no
def gDif (x y : W) (rt : List O) : Ou W := match x, y with
  | .d (.int i), .d (.int j) => .ok (.d (.int (i - j))) rt
  | _, _ => .no
/-- a product: one factor small, or both below a million bits together -/
def mulOk (i j : Int) : Bool := decide (-(2 ^ 64) < i ∧ i < 2 ^ 64) || decide (-(2 ^ 64) < j ∧ j < 2 ^ 64) || decide (i.natAbs.log2 + j.natAbs.log2 < 1000000)
def gMul (x y : W) (rt : List O) : Ou W := match x, y with
  | .d (.int i), .d (.int j) => if mulOk i j = true then .ok (.d (.int (i * j))) rt else .no
  | x, .d (.int k) => match lsOf x rt with
    | some xs => if -1000000 ≤ k ∧ k ≤ 1000000 ∧ xs.length * k.toNat ≤ 16000000 then .ok (.r rt.length) (rt ++ [.lst (List.replicate k.toNat xs).flatten]) else .no
    | none => .no
  | _, _ => .no
def divOk (j : Int) : Bool := decide (0 < j ∧ j.natAbs.log2 < 9000)
def gDiv (x y : W) (rt : List O) : Ou W := match x, y with
  | .d (.int i), .d (.int j) => if divOk j = true then .ok (.d (.int (i / j))) rt else .no
  | _, _ => .no
def gMod (x y : W) (rt : List O) : Ou W := match x, y with
  | .d (.int i), .d (.int j) => if 0 < j then .ok (.d (.int (i % j))) rt else .no
  | _, _ => .no
def gPow (x y : W) (rt : List O) : Ou W := match x, y with
  | .d (.int i), .d (.int j) => if 0 ≤ j ∧ j ≤ 1000000 ∧ i.natAbs < 2 ^ 64 then .ok (.d (.int (i ^ j.toNat))) rt else .no
  | _, _ => .no
section
variable {X : Cx}
theorem opv_add : OpV X (binaryOp .Add) gAdd := by
  refine ⟨_, (op_add.or (op_add_str.or (op_catA.or op_cat))), fun Wx B Hs ρ rt σ H Q x y v u R d1 d2 p => ?_⟩
  unfold gAdd at p
  split at p
  · cases d1; cases d2
    exact .inl ⟨_, _, rfl, rfl, p _ Hs ρ H Ext.refl R (.int _)⟩
  · cases d1; cases d2
    split at p
    · rename_i h
      exact .inr (.inl ⟨_, _, rfl, rfl, lim_le h, p _ Hs ρ H Ext.refl R (.str _)⟩)
    · exact p.elim
  · rename_i xs ys
    obtain ⟨a, vs, rfl, h1, h2, h3⟩ := tpOf_ok (xs := xs) R d1 rfl
    obtain ⟨b, us, rfl, g1, g2, g3⟩ := tpOf_ok (xs := ys) R d2 rfl
    split at p
    · rename_i h
      refine .inr (.inr (.inl ⟨a, b, vs, us, rfl, rfl, h2, g2, lim_le (by rw [h3.length, g3.length]; exact h), fun e => ?_, fun _ e => ?_, fun _ _ => new_tup R (h3.append g3) p⟩))
      · subst e
        cases h3
        exact p _ Hs ρ H Ext.refl R d2
      · subst e
        cases g3
        rw [List.append_nil] at p
        exact p _ Hs ρ H Ext.refl R d1
    · exact p.elim
  · split at p
    · rename_i xs ys e1 e2
      obtain ⟨a, vs, rfl, h1, h2⟩ := lsOf_ok R d1 e1
      obtain ⟨b, us, rfl, g1, g2⟩ := lsOf_ok R d2 e2
      split at p
      · rename_i h
        exact .inr (.inr (.inr ⟨a, b, vs, us, rfl, rfl, h1, g1, lim_le (by rw [h2.length, g2.length]; exact h), new_list R (h2.append g2) p⟩))
      · exact p.elim
    · exact p.elim
theorem opv_sub : OpV X (binaryOp .Sub) gDif := by
  refine ⟨_, op_sub, fun Wx B Hs ρ rt σ H Q x y v u R d1 d2 p => ?_⟩
  unfold gDif at p
  split at p
  · cases d1; cases d2
    exact ⟨_, _, rfl, rfl, p _ Hs ρ H Ext.refl R (.int _)⟩
  · exact p.elim
theorem Dens.rep {K : PySem.W.Frag} {w : World} {H : Hp} {vs : List V} {xs : List D} (h : Dens K w H vs xs) : ∀ k : Nat, Dens K w H (List.replicate k vs).flatten (List.replicate k xs).flatten
  | 0 => .nil
  | k + 1 => by rw [List.replicate_succ, List.replicate_succ, List.flatten_cons, List.flatten_cons]; exact h.append (h.rep k)
theorem opv_mul : OpV X (binaryOp .Mult) gMul := by
  refine ⟨_, (op_mul.or (op_mulW.or op_rep)), fun Wx B Hs ρ rt σ H Q x y v u R d1 d2 p => ?_⟩
  unfold gMul at p
  split at p
  · cases d1; cases d2
    split at p
    · rename_i i j h
      unfold mulOk at h
      simp only [Bool.or_eq_true, decide_eq_true_eq] at h
      rcases h with (h | h) | h
      · exact .inl ⟨_, _, rfl, rfl, .inl h, p _ Hs ρ H Ext.refl R (.int _)⟩
      · exact .inl ⟨_, _, rfl, rfl, .inr h, p _ Hs ρ H Ext.refl R (.int _)⟩
      · exact .inr (.inl ⟨_, _, rfl, rfl, h, p _ Hs ρ H Ext.refl R (.int _)⟩)
    · exact p.elim
  · cases d2
    split at p
    · rename_i xs e1
      obtain ⟨a, vs, rfl, h1, h2⟩ := lsOf_ok R d1 e1
      split at p
      · rename_i h
        exact .inr (.inr ⟨a, _, vs, rfl, rfl, h1, by omega, by omega, lim_le (by rw [h2.length]; exact h.2.2), new_list R (h2.rep _) p⟩)
      · exact p.elim
    · exact p.elim
  · exact p.elim
theorem opv_div : OpV X (binaryOp .FloorDiv) gDiv := by
  refine ⟨_, op_fdivW, fun Wx B Hs ρ rt σ H Q x y v u R d1 d2 p => ?_⟩
  unfold gDiv at p
  split at p
  · cases d1; cases d2
    split at p
    · rename_i h
      unfold divOk at h
      have h' := of_decide_eq_true h
      exact ⟨_, _, rfl, rfl, h', p _ Hs ρ H Ext.refl R (.int _)⟩
    · exact p.elim
  · exact p.elim
theorem opv_mod : OpV X (binaryOp .Mod) gMod := by
  refine ⟨_, op_mod, fun Wx B Hs ρ rt σ H Q x y v u R d1 d2 p => ?_⟩
  unfold gMod at p
  split at p
  · cases d1; cases d2
    split at p
    · rename_i h
      exact ⟨_, _, rfl, rfl, h, p _ Hs ρ H Ext.refl R (.int _)⟩
    · exact p.elim
  · exact p.elim
theorem opv_pow : OpV X (binaryOp .Pow) gPow := by
  refine ⟨_, op_pow, fun Wx B Hs ρ rt σ H Q x y v u R d1 d2 p => ?_⟩
  unfold gPow at p
  split at p
  · cases d1; cases d2
    split at p
    · rename_i h
      exact ⟨_, _, rfl, rfl, h, p _ Hs ρ H Ext.refl R (.int _)⟩
    · exact p.elim
  · exact p.elim
end

/-! ### comparisons -/
mutual
def pyOf : D → Option PyData
  | .non => some .none
  | .bl b => some (.bool b)
  | .int i => some (.int i)
  | .str x => some (.str x)
  | .tup xs => (pyAll xs).map .tuple
  | .ktup xs => (pyAll xs).map .tuple
  | .lst xs => (pyAll xs).map .list
  | _ => none
def pyAll : List D → Option (List PyData)
  | [] => some []
  | x :: xs => match pyOf x, pyAll xs with
    | some p, some ps => some (p :: ps)
    | _, _ => none
end
section
variable {K : PySem.W.Frag} {w : World} {H : Hp}
mutual
theorem dp_of : ∀ {v : V} {x : D} {p : PyData}, Den K w H v x → pyOf x = some p → Dp K H v p
  | _, _, _, .non, e => by cases e; exact .non
  | _, _, _, .bl b, e => by cases e; exact .bl b
  | _, _, _, .int b, e => by cases e; exact .int b
  | _, _, _, .str b, e => by cases e; exact .str b
  | _, _, _, .tup (xs := xs) h r, e => by
    rw [pyOf] at e
    obtain ⟨ps, h1, rfl⟩ := Option.map_eq_some_iff.mp e
    exact .tup (SqT.of h) (dps_of r h1)
  | _, _, _, .ktup (xs := xs) h r, e => by
    rw [pyOf] at e
    obtain ⟨ps, h1, rfl⟩ := Option.map_eq_some_iff.mp e
    exact .tup h.sqt (dps_of r h1)
  | _, _, _, .lst (xs := xs) h r, e => by
    rw [pyOf] at e
    obtain ⟨ps, h1, rfl⟩ := Option.map_eq_some_iff.mp e
    exact .lst (SqL.of h) (dps_of r h1)
  | _, _, _, .fz _ _, e => by cases e
  | _, _, _, .dk _ _, e => by cases e
  | _, _, _, .wd _ _, e => by cases e
  | _, _, _, .dt _ _, e => by cases e
  | _, _, _, .obj _ _ _, e => by cases e
  | _, _, _, .ref _, e => by cases e
  | _, _, _, .ty _, e => by cases e
theorem dps_of : ∀ {vs : List V} {xs : List D} {ps : List PyData}, Dens K w H vs xs → pyAll xs = some ps → DpAll K H vs ps
  | _, _, _, .nil, e => by cases e; exact .nil
  | _, _, _, .cons (x := x) (xs := xs) h r, e => by
    rw [pyAll] at e
    cases h1 : pyOf x with
    | none => simp only [h1] at e; cases e
    | some p =>
      cases h2 : pyAll xs with
      | none => simp only [h1, h2] at e; cases e
      | some ps =>
        simp only [h1, h2] at e
        cases e
        exact .cons (dp_of h h1) (dps_of r h2)
end
end
/-- a value as it stands now -/
def lkD (x : W) (rt : List O) : D := match x with
  | .d x => x
  | .r n => ((rd rt n).getD (.d .non)).toD
theorem lk_ok {K : PySem.W.Frag} {w : World} {B : Bnd} {Hs H : Hp} {ρ : List Addr} {rt : List O} {v : V} {x : W} (R : Rel K w B Hs ρ rt H) (d : WD K w Hs ρ v x) : Den K w H v (lkD x rt) := by
  cases x with
  | d x => exact Den.mono R.same d
  | r n =>
    obtain ⟨x, e, hx⟩ := R.has d
    obtain ⟨a, C, rfl, h1, _⟩ := R.at d e hx
    show Den K w H (V.ref a) ((rd rt n).getD (.d .non)).toD
    rw [e]
    exact h1.den R.same fun _ _ => rfl
def eqD (x y : D) : Option Bool := match pyOf x, pyOf y with
  | some p, some q => if SeqAt.shaped p = true ∧ SeqAt.shaped q = true then some (PyData.eqv p q) else none
  | _, _ => none
def gEq (x y : W) (rt : List O) : Ou W := match eqD (lkD x rt) (lkD y rt) with
  | some b => .ok (.d (.bl b)) rt
  | none => .no
def gNe (x y : W) (rt : List O) : Ou W := match eqD (lkD x rt) (lkD y rt) with
  | some b => .ok (.d (.bl (!b))) rt
  | none => .no
def cmpI (f : Int → Int → Bool) (x y : W) (rt : List O) : Ou W := match x, y with
  | .d (.int i), .d (.int j) => .ok (.d (.bl (f i j))) rt
  | _, _ => .no
def gLt (x y : W) (rt : List O) : Ou W := cmpI (fun i j => decide (i < j)) x y rt
def gLe (x y : W) (rt : List O) : Ou W := cmpI (fun i j => decide (i ≤ j)) x y rt
def gGt (x y : W) (rt : List O) : Ou W := cmpI (fun i j => decide (j < i)) x y rt
def gGe (x y : W) (rt : List O) : Ou W := cmpI (fun i j => decide (j ≤ i)) x y rt
section
variable {X : Cx}
theorem eqD_ok {x y : D} {b : Bool} (e : eqD x y = some b) : ∃ p q, pyOf x = some p ∧ pyOf y = some q ∧ SeqAt.shaped p = true ∧ SeqAt.shaped q = true ∧ PyData.eqv p q = b := by
  unfold eqD at e
  cases h1 : pyOf x with
  | none => simp only [h1] at e; cases e
  | some p =>
    cases h2 : pyOf y with
    | none => simp only [h1, h2] at e; cases e
    | some q =>
      simp only [h1, h2] at e
      split at e
      · rename_i h
        cases e
        exact ⟨p, q, rfl, rfl, h.1, h.2, rfl⟩
      · cases e
theorem opv_eq (hu : X.A.units + 64 < cLine) : OpV X (compareOp .Eq) gEq := by
  refine ⟨_, op_eqD hu, fun Wx B Hs ρ rt σ H Q x y v u R d1 d2 p => ?_⟩
  unfold gEq at p
  split at p
  · rename_i b e
    obtain ⟨p1, q1, h1, h2, h3, h4, rfl⟩ := eqD_ok e
    exact ⟨p1, q1, dp_of (lk_ok R d1) h1, dp_of (lk_ok R d2) h2, h3, h4, p _ Hs ρ H Ext.refl R (.bl _)⟩
  · exact p.elim
theorem opv_ne (hu : X.A.units + 64 < cLine) : OpV X (compareOp .NotEq) gNe := by
  refine ⟨_, op_neD hu, fun Wx B Hs ρ rt σ H Q x y v u R d1 d2 p => ?_⟩
  unfold gNe at p
  split at p
  · rename_i b e
    obtain ⟨p1, q1, h1, h2, h3, h4, rfl⟩ := eqD_ok e
    exact ⟨p1, q1, dp_of (lk_ok R d1) h1, dp_of (lk_ok R d2) h2, h3, h4, p _ Hs ρ H Ext.refl R (.bl _)⟩
  · exact p.elim
theorem cmpI_ok {f : Int → Int → Bool} {op : CmpOp} (h : OpR X (compareOp op) (rI0 fun i j => .bl (f i j))) : OpV X (compareOp op) (cmpI f) := by
  refine ⟨_, h, fun Wx B Hs ρ rt σ H Q x y v u R d1 d2 p => ?_⟩
  unfold cmpI at p
  split at p
  · cases d1; cases d2
    exact ⟨_, _, rfl, rfl, p _ Hs ρ H Ext.refl R (.bl _)⟩
  · exact p.elim
theorem opv_lt : OpV X (compareOp .Lt) gLt := cmpI_ok op_lt
theorem opv_le : OpV X (compareOp .LtE) gLe := cmpI_ok op_le
theorem opv_gt : OpV X (compareOp .Gt) gGt := cmpI_ok op_gt
theorem opv_ge : OpV X (compareOp .GtE) gGe := cmpI_ok op_ge
end
/-- x is None, x is not None -/
def W.isN : W → Bool
  | .d .non => true
  | _ => false
def eIsN (m : Ex W) : Ex W := fun sl rt => (m sl rt).bind fun x rt => .ok (.d (.bl x.isN)) rt
def eNotN (m : Ex W) : Ex W := fun sl rt => (m sl rt).bind fun x rt => .ok (.d (.bl (!x.isN))) rt
section
variable {X : Cx} {Wx : WX} {a : Expr} {ma : Ex W} {pos : Pos}
theorem non_iff {K : PySem.W.Frag} {w : World} {Hs : Hp} {ρ : List Addr} {v : V} {x : W} (d : WD K w Hs ρ v x) : decide (v = .non) = x.isN := by
  cases x with
  | r n => obtain ⟨a, _, rfl⟩ := d; rfl
  | d x => cases d <;> rfl
theorem pe_isN {j : Nat} {pos' : Pos} (ha : VX X Wx a ma) : ∃ t, PC X .Is a (.Constant .none j pos') t ∧ ∀ (B : Bnd) (Hs : Hp) (ρ : List Addr) (sl : Sl) (rt : List O) (σ : L2.St) (H : Hp) (Q : VK), Rel X.K X.w B Hs ρ rt H → SlD X.K X.w Hs ρ σ sl → PE1 X.K X.w B Wx Hs ρ σ (eIsN ma sl rt) Q → t σ H Q := by
  obtain ⟨ta, a1, a2⟩ := ha.ex
  refine ⟨_, pc_isN a1, fun B Hs ρ sl rt σ H Q R S p => ?_⟩
  refine a2 B Hs ρ sl rt σ H _ R S (PEx.bind p fun x rt1 v Hs1 ρ1 H1 e1 R1 d1 p1 => ?_)
  rw [non_iff d1]
  exact p1 _ Hs1 ρ1 H1 Ext.refl R1 (.bl _)
theorem pe_notN {j : Nat} {pos' : Pos} (ha : VX X Wx a ma) : ∃ t, PC X .IsNot a (.Constant .none j pos') t ∧ ∀ (B : Bnd) (Hs : Hp) (ρ : List Addr) (sl : Sl) (rt : List O) (σ : L2.St) (H : Hp) (Q : VK), Rel X.K X.w B Hs ρ rt H → SlD X.K X.w Hs ρ σ sl → PE1 X.K X.w B Wx Hs ρ σ (eNotN ma sl rt) Q → t σ H Q := by
  obtain ⟨ta, a1, a2⟩ := ha.ex
  refine ⟨_, pc_notN a1, fun B Hs ρ sl rt σ H Q R S p => ?_⟩
  refine a2 B Hs ρ sl rt σ H _ R S (PEx.bind p fun x rt1 v Hs1 ρ1 H1 e1 R1 d1 p1 => ?_)
  rw [non_iff d1]
  exact p1 _ Hs1 ρ1 H1 Ext.refl R1 (.bl _)
theorem vx_isN {j : Nat} {pos' : Pos} (ha : VX X Wx a ma) : VX X Wx (.Compare a [.Is] [.Constant .none j pos'] pos) (eIsN ma) := by
  obtain ⟨t, h1, h2⟩ := pe_isN (j := j) (pos' := pos') ha
  exact vx_pe (pe_cmp h1) h2
theorem vx_notN {j : Nat} {pos' : Pos} (ha : VX X Wx a ma) : VX X Wx (.Compare a [.IsNot] [.Constant .none j pos'] pos) (eNotN ma) := by
  obtain ⟨t, h1, h2⟩ := pe_notN (j := j) (pos' := pos') ha
  exact vx_pe (pe_cmp h1) h2
theorem vt_isN {j : Nat} {pos' : Pos} (ha : VX X Wx a ma) : VT X Wx (.Compare a [.Is] [.Constant .none j pos'] pos) (eB (eIsN ma)) := by
  obtain ⟨t, h1, h2⟩ := pe_isN (j := j) (pos' := pos') ha
  exact ⟨_, pt_cmp h1, test_ok h2⟩
theorem vt_notN {j : Nat} {pos' : Pos} (ha : VX X Wx a ma) : VT X Wx (.Compare a [.IsNot] [.Constant .none j pos'] pos) (eB (eNotN ma)) := by
  obtain ⟨t, h1, h2⟩ := pe_notN (j := j) (pos' := pos') ha
  exact ⟨_, pt_cmp h1, test_ok h2⟩
end
end VE

set_option maxRecDepth 100000
set_option maxHeartbeats 1000000
namespace VE
open PySem PySem.Spec L2

/-! ### displays -/
def valsOf : List W → List O → Ou (List D)
  | [], rt => .ok [] rt
  | x :: xs, rt => (vOf x rt).bind fun y rt => (valsOf xs rt).bind fun ys rt => .ok (y :: ys) rt
theorem valsOf_ok {K : PySem.W.Frag} {w : World} {B : Bnd} {H : Hp} {ρ : List Addr} : ∀ {Hs : Hp} {rt : List O} {vs : List V} {ws : List W}, Rel K w B Hs ρ rt H → WDs K w Hs ρ vs ws →
    ∀ ys rt', valsOf ws rt = .ok ys rt' → ∃ Hs', Ext Hs ρ Hs' ρ ∧ Rel K w B Hs' ρ rt' H ∧ Dens K w Hs' vs ys
  | Hs, rt, _, _, R, .nil, ys, rt', e => by
    cases e
    exact ⟨Hs, Ext.refl, R, .nil⟩
  | Hs, rt, _, _, R, .cons (x := x) (xs := xs) d ds, ys, rt', e => by
    unfold valsOf at e
    cases h : vOf x rt with
    | no => rw [h] at e; cases e
    | ex c fs rt1 => rw [h] at e; cases e
    | ok y rt1 =>
      rw [h] at e
      obtain ⟨Hs1, e1, R1, d1⟩ := vOf_ok R d y rt1 h
      simp only [Ou.bind] at e
      cases h2 : valsOf xs rt1 with
      | no => rw [h2] at e; cases e
      | ex c fs rt2 => rw [h2] at e; cases e
      | ok zs rt2 =>
        rw [h2] at e
        cases e
        obtain ⟨Hs2, e2, R2, d2⟩ := valsOf_ok R1 (ds.mono e1) zs _ h2
        exact ⟨Hs2, e1.trans e2, R2, .cons (d1.mono e2.same) d2⟩
theorem valsOf_noex : ∀ {ws : List W} {rt : List O} {c : XC} {fs : List (Str × D)} {rt' : List O}, valsOf ws rt ≠ .ex c fs rt'
  | [], rt, c, fs, rt' => by intro h; cases h
  | x :: xs, rt, c, fs, rt' => by
    intro h
    unfold valsOf at h
    cases h1 : vOf x rt with
    | no => rw [h1] at h; cases h
    | ex c fs rt1 => exact vOf_noex h1
    | ok y rt1 =>
      rw [h1] at h
      simp only [Ou.bind] at h
      cases h2 : valsOf xs rt1 with
      | no => rw [h2] at h; cases h
      | ex c fs rt2 => exact valsOf_noex h2
      | ok zs rt2 => rw [h2] at h; cases h
theorem PEx.vals {K : PySem.W.Frag} {w : World} {B : Bnd} {Wx : WX} {Hs H : Hp} {ρ : List Addr} {σ : L2.St} {rt : List O} {vs : List V} {ws : List W} {γ δ : Type} {rel2 : Hp → List Addr → δ → γ → Prop} {k : List D → List O → Ou γ} {Q2 : δ → Hp → Prop} {P : Prop}
    (R : Rel K w B Hs ρ rt H) (d : WDs K w Hs ρ vs ws) (h : PEx K w B Wx Hs ρ σ rel2 ((valsOf ws rt).bind k) Q2)
    (hk : ∀ ys rt' Hs', Ext Hs ρ Hs' ρ → Rel K w B Hs' ρ rt' H → Dens K w Hs' vs ys → PEx K w B Wx Hs' ρ σ rel2 (k ys rt') Q2 → P) : P := by
  cases e : valsOf ws rt with
  | ok ys rt' =>
    obtain ⟨Hs', e1, R1, d1⟩ := valsOf_ok R d ys rt' e
    rw [e] at h
    exact hk ys rt' Hs' e1 R1 d1 (PEx.ext (o := k ys rt') h e1)
  | ex c fs rt' => exact (valsOf_noex e).elim
  | no => rw [e] at h; exact h.elim
def mkTup (xs : List D) (rt : List O) : Ou W := if xs.length ≤ 16000000 then .ok (.d (.tup xs)) rt else .no
def mkLst (xs : List D) (rt : List O) : Ou W := if xs.length ≤ 16000000 then .ok (.r rt.length) (rt ++ [.lst xs]) else .no
def eTup (ms : Ex (List W)) : Ex W := fun sl rt => (ms sl rt).bind fun ws rt => (valsOf ws rt).bind fun xs rt => mkTup xs rt
def eLst (ms : Ex (List W)) : Ex W := fun sl rt => (ms sl rt).bind fun ws rt => (valsOf ws rt).bind fun xs rt => mkLst xs rt
section
variable {X : Cx} {Wx : WX} {a b o e : Expr} {es : List Expr} {ma mb m : Ex W} {ms : Ex (List W)} {pos apos : Pos}
theorem vx_tup {k : Nat} (h : VA X Wx es ms) : VX X Wx (.Tuple es k pos) (eTup ms) := by
  obtain ⟨t, a1, a2⟩ := h.ex
  refine vx_pe (pe_tup a1) fun B Hs ρ sl rt σ H Q R S p => ?_
  refine a2 B Hs ρ sl rt σ H _ R S (PEx.bind p fun ws rt1 vs Hs1 ρ1 H1 e1 R1 d1 p1 => ?_)
  refine PEx.vals R1 d1 p1 fun ys rt2 Hs2 e2 R2 d2 p2 => ?_
  unfold mkTup at p2
  split at p2
  · rename_i h
    exact ⟨lim_le (by rw [d2.length]; exact h), new_tup R2 d2 p2⟩
  · exact p2.elim
theorem vx_lst (h : VA X Wx es ms) : VX X Wx (.List es pos) (eLst ms) := by
  obtain ⟨t, a1, a2⟩ := h.ex
  refine vx_pe (pe_lst a1) fun B Hs ρ sl rt σ H Q R S p => ?_
  refine a2 B Hs ρ sl rt σ H _ R S (PEx.bind p fun ws rt1 vs Hs1 ρ1 H1 e1 R1 d1 p1 => ?_)
  refine PEx.vals R1 d1 p1 fun ys rt2 Hs2 e2 R2 d2 p2 => ?_
  unfold mkLst at p2
  split at p2
  · rename_i h
    exact ⟨lim_le (by rw [d2.length]; exact h), new_list R2 d2 p2⟩
  · exact p2.elim

/-! ### subscripts -/
theorem PE.or {t t' : TE} (h : PE X e t) (h' : PE X e t') : PE X e (fun σ H Q => t σ H Q ∨ t' σ H Q) := ⟨fun pins s σ H Q I hw => hw.elim (h.run pins s σ H Q I) (h'.run pins s σ H Q I)⟩
theorem Dens.atI {K : PySem.W.Frag} {w : World} {H : Hp} {vs : List V} {xs : List D} {i : Int} {x : D} (h : Dens K w H vs xs) (e : L2.atI xs i = some x) : ∃ v, L2.atI vs i = some v ∧ Den K w H v x := by
  unfold L2.atI at e ⊢
  rw [h.length]
  cases hn : ixN xs.length i with
  | none => rw [hn] at e; cases e
  | some j =>
    rw [hn] at e
    exact h.get e
def strAt (s : Str) (i : Int) : Option Nat := L2.atI s.cps.toList i
/-- x[y] of a list, a tuple, a text -/
def gIx (x y : W) (rt : List O) : Ou W := match y with
  | .d (.int i) => match lsOf x rt with
    | some xs => match L2.atI xs i with
      | some z => .ok (.d z) rt
      | none => .no
    | none => match tpOf x with
      | some xs => match L2.atI xs i with
        | some z => .ok (.d z) rt
        | none => .no
      | none => match x with
        | .d (.str s) => if s.length ≤ 16000000 then (match strAt s i with
          | some c => .ok (.d (.str ⟨#[c]⟩)) rt
          | none => .no) else .no
        | _ => .no
  | _ => .no
theorem gIx_ok (Wx : WX) (B : Bnd) (Hs : Hp) (ρ : List Addr) (rt : List O) (σ : L2.St) (H : Hp) (Q : VK) (x y : W) (v u : V) (R : Rel X.K X.w B Hs ρ rt H) (d1 : WD X.K X.w Hs ρ v x) (d2 : WD X.K X.w Hs ρ u y)
    (p : PE1 X.K X.w B Wx Hs ρ σ (gIx x y rt) Q) : rIx X.K v u H Q := by
  unfold gIx at p
  split at p
  · rename_i i
    cases d2
    split at p
    · rename_i xs e1
      obtain ⟨a, vs, rfl, h1, h2⟩ := lsOf_ok R d1 e1
      split at p
      · rename_i z e2
        obtain ⟨v, h3, h4⟩ := h2.atI e2
        exact .inl ⟨a, vs, i, v, rfl, rfl, SqL.of h1, h3, p _ Hs ρ H Ext.refl R h4⟩
      · exact p.elim
    · split at p
      · rename_i xs e1
        obtain ⟨a, vs, rfl, h0, h1, h2⟩ := tpOf_ok R d1 e1
        split at p
        · rename_i z e2
          obtain ⟨v, h3, h4⟩ := h2.atI e2
          exact .inr (.inl ⟨a, vs, i, v, rfl, rfl, h1, h3, p _ Hs ρ H Ext.refl R h4⟩)
        · exact p.elim
      · split at p
        · rename_i s
          cases d1
          split at p
          · rename_i h
            split at p
            · rename_i c e2
              exact .inr (.inr ⟨_, i, c, rfl, rfl, lim_le h, e2, p _ Hs ρ H Ext.refl R (.str _)⟩)
            · exact p.elim
          · exact p.elim
        · exact p.elim
  · exact p.elim
theorem vx_ix (ha : VX X Wx a ma) (hb : VX X Wx b mb) (hs : PlainIx b := by intro _ _; rfl) : VX X Wx (.Subscript a b pos) (eOp gIx ma mb) := by
  obtain ⟨ta, a1, a2⟩ := ha.ex
  obtain ⟨tb, b1, b2⟩ := hb.ex
  exact vx_pe (pe_ix ix_seq a1 b1 hs) (two_op (fun Wx => gIx_ok Wx) a2 b2)

/-! ### slices -/
def oNone : Ex (Option Int) := fun _ rt => .ok none rt
def oSome (m : Ex W) : Ex (Option Int) := fun sl rt => (m sl rt).bind fun x rt => match x with
  | .d (.int i) => .ok (some i) rt
  | _ => .no
structure VOp (X : Cx) (Wx : WX) (e : Option Expr) (m : Ex (Option Int)) : Prop where
  ex : ∃ t, PO X e t ∧ ∀ (B : Bnd) (Hs : Hp) (ρ : List Addr) (sl : Sl) (rt : List O) (σ : L2.St) (H : Hp) (Q : Option Int → Hp → Prop), Rel X.K X.w B Hs ρ rt H → SlD X.K X.w Hs ρ σ sl → PEx X.K X.w B Wx Hs ρ σ (fun _ _ a b => a = b) (m sl rt) Q → t σ H Q
theorem vo_none : VOp X Wx none oNone := ⟨_, po_none, fun B Hs ρ sl rt σ H Q R S p => p none Hs ρ H Ext.refl R rfl⟩
theorem vo_some (h : VX X Wx e m) : VOp X Wx (some e) (oSome m) := by
  obtain ⟨t, a1, a2⟩ := h.ex
  refine ⟨_, po_some a1, fun B Hs ρ sl rt σ H Q R S p => ?_⟩
  refine a2 B Hs ρ sl rt σ H _ R S (PEx.bind p fun x rt1 v Hs1 ρ1 H1 e1 R1 d1 p1 => ?_)
  split at p1
  · cases d1
    exact ⟨_, rfl, p1 _ Hs1 ρ1 H1 Ext.refl R1 rfl⟩
  · exact p1.elim
def cut {α : Type} (xs : List α) (lo hi : Option Int) : List α := (xs.drop (HT.sIx xs.length 0 lo)).take (HT.sIx xs.length xs.length hi - HT.sIx xs.length 0 lo)
theorem Dens.cut {K : PySem.W.Frag} {w : World} {H : Hp} {vs : List V} {xs : List D} (h : Dens K w H vs xs) (lo hi : Option Int) : Dens K w H (cutV vs lo hi) (VE.cut xs lo hi) := by
  unfold cutV VE.cut
  rw [h.length]
  exact (h.drop _).take _
def gSl (x : W) (lo hi : Option Int) (rt : List O) : Ou W := match lsOf x rt with
  | some xs => .ok (.r rt.length) (rt ++ [.lst (cut xs lo hi)])
  | none => match tpOf x with
    | some xs => if HT.sIx xs.length 0 lo = 0 ∧ HT.sIx xs.length xs.length hi = xs.length then .ok x rt else .ok (.d (.tup (cut xs lo hi))) rt
    | none => match x with
      | .d (.str s) => if s.length ≤ 16000000 then .ok (.d (.str (Txt.slice s lo hi))) rt else .no
      | _ => .no
def eSl (m : Ex W) (l h : Ex (Option Int)) : Ex W := fun sl rt => (m sl rt).bind fun x rt => (l sl rt).bind fun lo rt => (h sl rt).bind fun hi rt => gSl x lo hi rt
theorem vx_slice {lo hi : Option Expr} {ml mh : Ex (Option Int)} {p2 : Pos} (he : VX X Wx e m) (hl : VOp X Wx lo ml) (hh : VOp X Wx hi mh) : VX X Wx (.Subscript e (.Slice lo hi none p2) pos) (eSl m ml mh) := by
  obtain ⟨t, a1, a2⟩ := he.ex
  obtain ⟨tl, b1, b2⟩ := hl.ex
  obtain ⟨th, c1, c2⟩ := hh.ex
  refine vx_pe (pe_slice (sl_list.or (sl_tupA.or C8.sl_txt)) a1 b1 c1) fun B Hs ρ sl rt σ H Q R S p => ?_
  refine a2 B Hs ρ sl rt σ H _ R S (PEx.bind p fun x rt1 v Hs1 ρ1 H1 e1 R1 d1 p1 => ?_)
  refine b2 B Hs1 ρ1 sl rt1 σ H1 _ R1 (S.mono e1) (PEx.bind p1 fun lo rt2 u Hs2 ρ2 H2 e2 R2 d2 p2 => ?_)
  refine c2 B Hs2 ρ2 sl rt2 σ H2 _ R2 (S.mono (e1.trans e2)) (PEx.bind p2 fun hi rt3 u3 Hs3 ρ3 H3 e3 R3 d3 p3 => ?_)
  subst d2
  subst d3
  have d1' := d1.mono (e2.trans e3)
  unfold gSl at p3
  split at p3
  · rename_i xs e4
    obtain ⟨a, vs, rfl, h1, h2⟩ := lsOf_ok R3 d1' e4
    exact .inl ⟨a, vs, rfl, SqL.of h1, new_list R3 (h2.cut _ _) p3⟩
  · split at p3
    · rename_i xs e4
      obtain ⟨a, vs, rfl, h0, h1, h2⟩ := tpOf_ok R3 d1' e4
      refine .inr (.inl ⟨a, vs, rfl, h1, fun h => ?_, fun h => ?_⟩)
      · rw [h2.length] at h
        rw [if_pos h] at p3
        exact p3 _ Hs3 ρ3 H3 Ext.refl R3 d1'
      · rw [h2.length] at h
        rw [if_neg h] at p3
        exact new_tup R3 (h2.cut _ _) p3
    · split at p3
      · rename_i s
        cases d1'
        split at p3
        · rename_i h
          exact .inr (.inr ⟨_, rfl, lim_le h, p3 _ Hs3 ρ3 H3 Ext.refl R3 (.str _)⟩)
        · exact p3.elim
      · exact p3.elim
end
end VE

set_option maxRecDepth 100000
set_option maxHeartbeats 1000000
namespace VE
open PySem PySem.Spec L2

/-! ### dicts as data -/
def dget {κ : Type} [DecidableEq κ] (kvs : List (κ × D)) (k : κ) : Option D := (kvs.find? fun kv => decide (kv.1 = k)).map (·.2)
def dput {κ : Type} [DecidableEq κ] (kvs : List (κ × D)) (k : κ) (v : D) : List (κ × D) :=
  if (kvs.any fun kv => decide (kv.1 = k)) = true then kvs.map (fun kv => if kv.1 = k then (kv.1, v) else kv) else kvs ++ [(k, v)]
def ddrop {κ : Type} [DecidableEq κ] (kvs : List (κ × D)) (k : κ) : List (κ × D) := kvs.filter fun kv => decide (kv.1 ≠ k)
section
variable {K : PySem.W.Frag} {w : World} {H : Hp}
theorem DenA.length : ∀ {κ : Type} {vs : List (κ × V)} {xs : List (κ × D)}, DenA K w H vs xs → vs.length = xs.length
  | _, _, _, .nil => rfl
  | _, _, _, .cons _ t => by simp [DenA.length t]
theorem DenA.val {κ : Type} [DecidableEq κ] (k : κ) : ∀ {vs : List (κ × V)} {xs : List (κ × D)}, DenA K w H vs xs → (valV vs k = none ∧ dget xs k = none) ∨ ∃ v x, valV vs k = some v ∧ dget xs k = some x ∧ Den K w H v x
  | _, _, .nil => .inl ⟨rfl, rfl⟩
  | _, _, .cons (k := k') (v := v) (x := x) d t => by
    by_cases e : k' = k
    · refine .inr ⟨v, x, valV_pos (p := (k', v)) e, ?_, d⟩
      unfold dget
      rw [List.find?_cons]
      simp [e]
    · have h1 := DenA.val k t
      rw [valV_neg (p := (k', v)) e]
      have h2 : ∀ l : List (κ × D), dget ((k', x) :: l) k = dget l k := fun l => by unfold dget; rw [List.find?_cons]; simp [e]
      rw [h2]
      exact h1
theorem DenA.any {κ : Type} [DecidableEq κ] (k : κ) : ∀ {vs : List (κ × V)} {xs : List (κ × D)}, DenA K w H vs xs → (vs.any fun kv => decide (kv.1 = k)) = xs.any fun kv => decide (kv.1 = k)
  | _, _, .nil => rfl
  | _, _, .cons d t => by rw [List.any_cons, List.any_cons, DenA.any k t]
theorem DenA.repl {κ : Type} [DecidableEq κ] (k : κ) {v : V} {x : D} (dv : Den K w H v x) : ∀ {vs : List (κ × V)} {xs : List (κ × D)}, DenA K w H vs xs →
    DenA K w H (vs.map fun kv => if kv.1 = k then (kv.1, v) else kv) (xs.map fun kv => if kv.1 = k then (kv.1, x) else kv)
  | _, _, .nil => .nil
  | _, _, .cons (k := k') d t => by
    rw [List.map_cons, List.map_cons]
    by_cases e : k' = k
    · simp only [e, if_true]
      exact .cons dv (DenA.repl k dv t)
    · simp only [e, if_false]
      exact .cons d (DenA.repl k dv t)
theorem DenA.append : ∀ {κ : Type} {vs us : List (κ × V)} {xs ys : List (κ × D)}, DenA K w H vs xs → DenA K w H us ys → DenA K w H (vs ++ us) (xs ++ ys)
  | _, _, _, _, _, .nil, h => h
  | _, _, _, _, _, .cons a b, h => .cons a (DenA.append b h)
theorem DenA.put {κ : Type} [DecidableEq κ] (k : κ) {v : V} {x : D} (dv : Den K w H v x) {vs : List (κ × V)} {xs : List (κ × D)} (h : DenA K w H vs xs) : DenA K w H (putK vs k v) (dput xs k x) := by
  unfold putK dput
  rw [h.any k]
  split
  · exact h.repl k dv
  · exact h.append (.cons dv .nil)
end
/-- a key: a number or a text; a tuple of these -/
def keyOf : D → Option Key
  | .int i => some (.inl i)
  | .str s => some (.inr s)
  | _ => none
def keysOf : List D → Option (List Key)
  | [] => some []
  | x :: xs => match keyOf x, keysOf xs with
    | some k, some ks => some (k :: ks)
    | _, _ => none
theorem key_ok {K : PySem.W.Frag} {w : World} {H : Hp} {v : V} {x : D} {k : Key} (d : Den K w H v x) (e : keyOf x = some k) : v = kV k := by
  cases d <;> cases e <;> rfl
theorem keys_ok {K : PySem.W.Frag} {w : World} {H : Hp} : ∀ {vs : List V} {xs : List D} {ks : List Key}, Dens K w H vs xs → keysOf xs = some ks → vs = ks.map kV
  | _, _, _, .nil, e => by cases e; rfl
  | _, _, _, .cons (x := x) (xs := xs) d t, e => by
    unfold keysOf at e
    cases h1 : keyOf x with
    | none => simp only [h1] at e; cases e
    | some k =>
      cases h2 : keysOf xs with
      | none => simp only [h1, h2] at e; cases e
      | some ks =>
        simp only [h1, h2] at e
        cases e
        rw [List.map_cons, key_ok d h1, keys_ok t h2]

section
variable {K : PySem.W.Frag} {w : World} {B : Bnd} {Wx : WX} {Hs H : Hp} {ρ : List Addr} {rt : List O} {σ : L2.St} {v : V} {n : Nat}
/-- a live list: what stands, and what may be put there -/
theorem live_lst {xs : List D} (R : Rel K w B Hs ρ rt H) (d : WD K w Hs ρ v (.r n)) (e : rd rt n = some (.lst xs)) :
    ∃ a vs, v = .ref a ∧ H a = some (.lst vs) ∧ Dens K w Hs vs xs ∧ ∀ us ys, Dens K w Hs us ys → Rel K w B Hs ρ (wr rt n (.lst ys)) (upd H a (.lst us)) := by
  obtain ⟨a, C, rfl, h1, h2, h3, h4⟩ := R.at d e rfl
  cases h1 with
  | @lst _ vs _ g1 g2 =>
    refine ⟨a, vs, rfl, g1, g2, fun us ys du => h4 _ _ (by simp) (.lst upd_same du) fun q z hq => ?_⟩
    cases q with
    | nil => rw [adr_nil] at hq ⊢; exact hq
    | cons c q => simp [adr] at hq
theorem live_dk {xs : List (Key × D)} (R : Rel K w B Hs ρ rt H) (d : WD K w Hs ρ v (.r n)) (e : rd rt n = some (.dk xs)) :
    ∃ a vs, v = .ref a ∧ H a = some (.dK vs) ∧ DenA K w Hs vs xs ∧ ∀ us ys, DenA K w Hs us ys → Rel K w B Hs ρ (wr rt n (.dk ys)) (upd H a (.dK us)) := by
  obtain ⟨a, C, rfl, h1, h2, h3, h4⟩ := R.at d e rfl
  cases h1 with
  | @dk _ vs _ g1 g2 =>
    refine ⟨a, vs, rfl, g1, g2, fun us ys du => h4 _ _ (by simp) (.dk upd_same du) fun q z hq => ?_⟩
    cases q with
    | nil => rw [adr_nil] at hq ⊢; exact hq
    | cons c q => simp [adr] at hq
theorem live_dt {xs : List (List Key × D)} (R : Rel K w B Hs ρ rt H) (d : WD K w Hs ρ v (.r n)) (e : rd rt n = some (.dt xs)) :
    ∃ a vs, v = .ref a ∧ H a = some (.dT vs) ∧ DenA K w Hs vs xs ∧ ∀ us ys, DenA K w Hs us ys → Rel K w B Hs ρ (wr rt n (.dt ys)) (upd H a (.dT us)) := by
  obtain ⟨a, C, rfl, h1, h2, h3, h4⟩ := R.at d e rfl
  cases h1 with
  | @dt _ vs _ g1 g2 =>
    refine ⟨a, vs, rfl, g1, g2, fun us ys du => h4 _ _ (by simp) (.dt upd_same du) fun q z hq => ?_⟩
    cases q with
    | nil => rw [adr_nil] at hq ⊢; exact hq
    | cons c q => simp [adr] at hq
end

/-! ### o[i] = v -/
def setIx (o i : W) (y : D) (rt : List O) : Ou Unit := match o with
  | .r n => match rd rt n with
    | some (.lst xs) => match i with
      | .d (.int k) => match ixN xs.length k with
        | some j => .ok () (wr rt n (.lst (xs.set j y)))
        | none => .no
      | _ => .no
    | some (.dk kvs) => match i with
      | .d z => match keyOf z with
        | some k => if kvs.length < 16000000 then .ok () (wr rt n (.dk (dput kvs k y))) else .no
        | none => .no
      | _ => .no
    | some (.dt kvs) => match i with
      | .d (.tup zs) => match keysOf zs with
        | some k => if kvs.length < 16000000 then .ok () (wr rt n (.dt (dput kvs k y))) else .no
        | none => .no
      | _ => .no
    | _ => .no
  | _ => .no
def sAsg (m : Ex W) (g : Gx) : Sx := fun sl rt => (m sl rt).seq sl fun x rt => (g x sl rt).seq sl fun sl rt => .nx sl rt
def gSb (mo mi : Ex W) : Gx := fun x sl rt => (mo sl rt).bind fun o rt => (mi sl rt).bind fun i rt => (vOf x rt).bind fun y rt => (setIx o i y rt).bind fun _ rt => .ok sl rt
def rSet : TSet := fun o i v H Q => rSetL o i v H Q ∨ rSetD o i v H Q
theorem set_any {X : Cx} (hu : X.A.units + 1 < cLine) : PSet X rSet := fun pins s σ H o i v ov iv u Q I ro ri rv h => by
  rcases h with h | h
  · exact set_list pins s σ H o i v ov iv u Q I ro ri rv h
  · exact set_dict hu pins s σ H o i v ov iv u Q I ro ri rv h
theorem setIx_ok {K : PySem.W.Frag} {w : World} {B : Bnd} {Wx : WX} {Hs H : Hp} {ρ : List Addr} {rt : List O} {σ : L2.St} {o i : W} {vo vi vy : V} {y : D} {Q : Hp → Prop} (R : Rel K w B Hs ρ rt H) (d1 : WD K w Hs ρ vo o) (d2 : WD K w Hs ρ vi i) (d3 : Den K w Hs vy y)
    (p : PEx K w B Wx Hs ρ σ (fun _ _ (_ : Unit) (_ : Unit) => True) (setIx o i y rt) (fun _ => Q)) : rSet vo vi vy H Q := by
  unfold setIx at p
  split at p
  · rename_i n
    split at p
    · rename_i xs e
      obtain ⟨a, vs, rfl, h1, h2, h3⟩ := live_lst R d1 e
      split at p
      · rename_i k
        cases d2
        split at p
        · rename_i j ej
          exact .inl ⟨a, vs, k, j, rfl, rfl, h1, by rw [h2.length]; exact ej, p () Hs ρ _ Ext.refl (h3 _ _ (h2.set d3 j)) trivial⟩
        · exact p.elim
      · exact p.elim
    · rename_i kvs e
      obtain ⟨a, vs, rfl, h1, h2, h3⟩ := live_dk R d1 e
      split at p
      · rename_i z
        split at p
        · rename_i k ek
          split at p
          · rename_i hl
            have := key_ok d2 ek
            subst this
            exact .inr ⟨a, _, rfl, DPut.k h1 (lim_lt (by rw [h2.length]; exact hl)), p () Hs ρ _ Ext.refl (h3 _ _ (h2.put k d3)) trivial⟩
          · exact p.elim
        · exact p.elim
      · exact p.elim
    · rename_i kvs e
      obtain ⟨a, vs, rfl, h1, h2, h3⟩ := live_dt R d1 e
      split at p
      · rename_i zs
        split at p
        · rename_i k ek
          split at p
          · rename_i hl
            cases d2 with
            | @tup b us _ g1 g2 =>
              have := keys_ok g2 ek
              subst this
              exact .inr ⟨a, _, rfl, DPut.t h1 (R.same _ _ g1) (lim_lt (by rw [h2.length]; exact hl)), p () Hs ρ _ Ext.refl (h3 _ _ (h2.put k d3)) trivial⟩
          · exact p.elim
        · exact p.elim
      · exact p.elim
    · exact p.elim
  · exact p.elim
section
variable {X : Cx} {Wx : WX} {a b o i e : Expr} {es : List Expr} {mo mi m : Ex W} {ms : Ex (List W)} {pos apos cpos : Pos}
theorem vg_sub (hu : X.A.units + 1 < cLine) (ho : VX X Wx o mo) (hi : VX X Wx i mi)
    (ha : ∀ v, assign (.Subscript o i pos) X.env v = (do
      let ov ← holding [v] (eval o X.env)
      let iv ← holding [v, ov] (eval i X.env)
      standAt pos
      holding [v, ov, iv] (setItem ov iv v)
      release [v, ov, iv] []) := by intros; rfl) : VG X Wx (.Subscript o i pos) (gSb mo mi) := by
  obtain ⟨t, a1, a2⟩ := ho.ex
  obtain ⟨u, b1, b2⟩ := hi.ex
  refine ⟨_, pg_sub a1 b1 (set_any hu) ha, fun B Hs ρ x v sl rt σ H Q R S d p => ?_⟩
  refine a2 B Hs ρ sl rt σ H _ R S (PEx.bind p fun y rt1 vo Hs1 ρ1 H1 e1 R1 d1 p1 => ?_)
  refine b2 B Hs1 ρ1 sl rt1 σ H1 _ R1 (S.mono e1) (PEx.bind p1 fun z rt2 vi Hs2 ρ2 H2 e2 R2 d2 p2 => ?_)
  refine PEx.val R2 (d.mono (e1.trans e2)) p2 fun y3 rt3 Hs3 e3 R3 d3 p3 => ?_
  refine setIx_ok R3 (d1.mono (e2.trans e3)) (d2.mono e3) d3 (PEx.bind p3 fun _ rt4 v4 Hs4 ρ4 H4 e4 R4 d4 p4 => ?_)
  exact p4 σ Hs4 ρ4 H4 Ext.refl R4 ⟨S.mono (((e1.trans e2).trans e3).trans e4), rfl⟩
theorem vs_asg {tg : Expr} {g : Gx} (he : VX X Wx e m) (hg : VG X Wx tg g) (hs : swapsWithSole [tg] e pos.line X.env = pure false := by rfl) (hw : swappedStores [tg] e X.env = pure none := by rfl)
    (h1 : (assignEach [tg] X.env).map (·.2) = [assign tg X.env] := by rfl) : VS X Wx (.Assign [tg] e pos) (sAsg m g) := by
  obtain ⟨t, a1, a2⟩ := he.ex
  obtain ⟨u, b1, b2⟩ := hg.ex
  refine ⟨_, ps_asg a1 b1 hs hw h1, fun B Hs ρ sl rt σ H D R S p => ?_⟩
  refine a2 B Hs ρ sl rt σ H _ R S (PEx.seq S p fun y rt1 v Hs1 ρ1 H1 e1 R1 d1 p1 => ?_)
  refine b2 B Hs1 ρ1 y v sl rt1 σ H1 _ R1 (S.mono e1) d1 (PEx.seq (S.mono e1) p1 fun sl2 rt2 σ2 Hs2 ρ2 H2 e2 R2 d2 p2 => ?_)
  exact p2 Hs2 ρ2 σ2 H2 Ext.refl R2 d2.1 d2.2
end

/-! ### x op= e, x[i] op= e -/
structure IpV (X : Cx) (op : Operator) (g : W → W → List O → Ou W) : Prop where
  ex : ∃ r, PIp X op r ∧ ∀ (Wx : WX) (B : Bnd) (Hs : Hp) (ρ : List Addr) (rt : List O) (σ : L2.St) (H : Hp) (Q : VK) (x y : W) (v u : V), Rel X.K X.w B Hs ρ rt H → WD X.K X.w Hs ρ v x → WD X.K X.w Hs ρ u y → PE1 X.K X.w B Wx Hs ρ σ (g x y rt) Q → r v u H Q
def ipA (g : W → W → List O → Ou W) (i : Nat) (m : Ex W) : Sx := fun sl rt => match sl[i]? with
  | some (some x) => (m sl rt).seq sl fun y rt => (g x y rt).seq sl fun z rt => .nx (sl.set i (some z)) rt
  | _ => .no
def gAddI (x y : W) (rt : List O) : Ou W := match x, y with
  | .d (.int i), .d (.int j) => .ok (.d (.int (i + j))) rt
  | .d (.str i), .d (.str j) => if i.length + j.length ≤ 16000000 then .ok (.d (.str (i ++ j))) rt else .no
  | _, _ => .no
theorem ip_of {X : Cx} {op : Operator} {r : R2} (h : OpR X (inplaceOp op) r) : PIp X op r := fun pins s σ H x y v u Q I rx ry hr => augR h I rx ry hr

section
variable {X : Cx} {Wx : WX} {o i e : Expr} {mo mi m : Ex W} {pos tpos : Pos} {op : Operator} {g : W → W → List O → Ou W}
theorem ipv_add : IpV X .Add gAddI := by
  refine ⟨_, ip_of (iop_add.or iop_add_str), fun Wx B Hs ρ rt σ H Q x y v u R d1 d2 p => ?_⟩
  unfold gAddI at p
  split at p
  · cases d1; cases d2
    exact .inl ⟨_, _, rfl, rfl, p _ Hs ρ H Ext.refl R (.int _)⟩
  · cases d1; cases d2
    split at p
    · rename_i h
      exact .inr ⟨_, _, rfl, rfl, lim_le h, p _ Hs ρ H Ext.refl R (.str _)⟩
    · exact p.elim
  · exact p.elim
theorem ipv_sub : IpV X .Sub gDif := by
  refine ⟨_, ip_of iop_sub, fun Wx B Hs ρ rt σ H Q x y v u R d1 d2 p => ?_⟩
  unfold gDif at p
  split at p
  · cases d1; cases d2
    exact ⟨_, _, rfl, rfl, p _ Hs ρ H Ext.refl R (.int _)⟩
  · exact p.elim
theorem vs_aug (k : Nat) {x : Str} {pos' : Pos} (hN : X.N.Nodup) (hi : X.N[k]? = some x) (hx : Loc X.env.scope x) (he : VX X Wx e m) (ho : IpV X op g) (hf : X.fn x = true ∨ X.env.scope.names.lookup x = some .local := by first | exact .inl rfl | exact .inr rfl | assumption) :
    VS X Wx (.AugAssign (.Name x pos') op e pos) (ipA g k m) := by
  obtain ⟨t, a1, a2⟩ := he.ex
  obtain ⟨r, h1, h2⟩ := ho.ex
  refine ⟨_, ps_aug hN hi hx a1 h1 hf, fun B Hs ρ sl rt σ H D R S p => ?_⟩
  unfold ipA at p
  cases h : sl[k]? with
  | none => simp only [h] at p; exact p.elim
  | some z =>
    cases z with
    | none => simp only [h] at p; exact p.elim
    | some z =>
      simp only [h] at p
      obtain ⟨v, ev, dv⟩ := S.at_ k z h
      refine ⟨v, ev, a2 B Hs ρ sl rt σ H _ R S (PEx.seq S p fun y rt1 u Hs1 ρ1 H1 e1 R1 d1 p1 => ?_)⟩
      refine h2 Wx B Hs1 ρ1 rt1 σ H1 _ z y v u R1 (dv.mono e1) d1 (PEx.seq (S.mono e1) p1 fun q rt2 w Hs2 ρ2 H2 e2 R2 d2 p2 => ?_)
      exact p2 Hs2 ρ2 _ H2 Ext.refl R2 ((S.mono (e1.trans e2)).set k d2) (by simp)
/-- o[i], for o[i] op= e -/
def gIxA (x y : W) (rt : List O) : Ou W := match lsOf x rt, y with
  | some xs, .d (.int i) => match L2.atI xs i with
    | some z => .ok (.d z) rt
    | none => .no
  | _, _ => match x, y with
    | .r n, .d z => match rd rt n with
      | some (.dk kvs) => match keyOf z with
        | some k => match dget kvs k with
          | some v => .ok (.d v) rt
          | none => .no
        | none => .no
      | _ => .no
    | _, _ => .no
def rGetA (K : PySem.W.Frag) : V → V → Hp → VK → Prop := fun o i H Q => (∃ p xs k v, o = .ref p ∧ i = .int k ∧ SqL K H p xs ∧ L2.atI xs k = some v ∧ Q v H) ∨ ∃ a v, o = .ref a ∧ DGet H a i (some v) ∧ Q v H
theorem get_any (hu : X.A.units + 1 < cLine) : PGet X (rGetA X.K) := fun pins s σ H o i ov iv Q I ro ri h => by
  rcases h with ⟨p, xs, k, v, rfl, rfl, hs, hk, q⟩ | ⟨a, v, rfl, g, q⟩
  · cases ro
    obtain ⟨t, rfl⟩ := ri
    obtain ⟨its, rv, pl, hz⟩ := I.list hs
    obtain ⟨j, h1, h2, h3, h4, h5⟩ := atI_get hk
    obtain ⟨u, hu2, ru⟩ := rv.get h2
    have hl := rv.length
    have hn := line63
    have fin : EP X pins σ Q u s := ⟨v, H, I, ru, q⟩
    by_cases h0 : 0 ≤ k
    · have hj : k.toNat = j := by
        rw [seqIndex_of h0 h5] at h1
        exact Option.some.inj h1
      exact wpAny_getItem_list pl.isList h0 (by omega) (by rw [hj]; simpa using hu2) fin
    · have hj : (k + (its.toArray.size : Int)).toNat = j := by
        rw [seqIndex_neg (by omega) h4] at h1
        rw [List.size_toArray, ← hl]
        exact Option.some.inj h1
      exact wpAny_getItem_list_neg pl.isList (by omega) (by rw [List.size_toArray] <;> omega) (by omega) (by rw [hj]; simpa using hu2) fin
  · cases ro
    exact d_getItem hu I g ri fun w' s' I' r' => ⟨v, H, I', r', q⟩
end
end VE

set_option maxRecDepth 100000
set_option maxHeartbeats 1000000
namespace VE
open PySem PySem.Spec L2
section
variable {X : Cx} {Wx : WX} {o i e : Expr} {mo mi m : Ex W} {pos tpos : Pos} {op : Operator} {g : W → W → List O → Ou W}
theorem getA_ok {K : PySem.W.Frag} {w : World} {B : Bnd} {Wx : WX} {Hs H : Hp} {ρ : List Addr} {rt : List O} {σ : L2.St} {x y : W} {v u : V} {Q : VK} (R : Rel K w B Hs ρ rt H) (d1 : WD K w Hs ρ v x) (d2 : WD K w Hs ρ u y)
    (p : PE1 K w B Wx Hs ρ σ (gIxA x y rt) Q) : rGetA K v u H Q := by
  unfold gIxA at p
  split at p
  · rename_i xs i e1
    cases d2
    obtain ⟨a, vs, rfl, h1, h2⟩ := lsOf_ok R d1 e1
    split at p
    · rename_i z e2
      obtain ⟨z', h3, h4⟩ := h2.atI e2
      exact .inl ⟨a, vs, i, z', rfl, rfl, SqL.of h1, h3, p _ Hs ρ H Ext.refl R h4⟩
    · exact p.elim
  · split at p
    · rename_i n z _
      split at p
      · rename_i kvs e1
        obtain ⟨a, vs, rfl, h1, h2, h3⟩ := live_dk R d1 e1
        split at p
        · rename_i k ek
          split at p
          · rename_i q eq
            have := key_ok d2 ek
            subst this
            rcases h2.val k with ⟨_, z2⟩ | ⟨z1, z2, g1, g2, g3⟩
            · rw [z2] at eq; cases eq
            · rw [g2] at eq
              cases eq
              exact .inr ⟨a, z1, rfl, by rw [← g1]; exact DGet.k h1, p _ Hs ρ H Ext.refl R g3⟩
          · exact p.elim
        · exact p.elim
      · exact p.elim
    · exact p.elim
def sAugS (go : W → W → List O → Ou W) (mo mi m : Ex W) : Sx := fun sl rt => (mo sl rt).seq sl fun o rt => (mi sl rt).seq sl fun i rt => (gIxA o i rt).seq sl fun x rt => (m sl rt).seq sl fun y rt => (go x y rt).seq sl fun z rt =>
  (vOf z rt).seq sl fun z rt => (setIx o i z rt).seq sl fun _ rt => .nx sl rt
theorem PEx.valS {K : PySem.W.Frag} {w : World} {B : Bnd} {Wx : WX} {Hs H : Hp} {ρ : List Addr} {n : Nat} {rt : List O} {v : V} {x : W} {sl : Sl} {k : D → List O → Os} {D' : Ends} {P : Prop}
    (R : Rel K w B Hs ρ rt H) (d : WD K w Hs ρ v x) (h : PSx K w B Wx Hs ρ n ((vOf x rt).seq sl k) D')
    (hk : ∀ y rt' Hs', Ext Hs ρ Hs' ρ → Rel K w B Hs' ρ rt' H → Den K w Hs' v y → PSx K w B Wx Hs' ρ n (k y rt') D' → P) : P := by
  cases e : vOf x rt with
  | ok y rt' =>
    obtain ⟨Hs', e1, R1, d1⟩ := vOf_ok R d y rt' e
    rw [e] at h
    exact hk y rt' Hs' e1 R1 d1 (PSx.ext (o := k y rt') h e1)
  | ex c fs rt' => exact (vOf_noex e).elim
  | no => rw [e] at h; exact h.elim
theorem vs_augS (hu : X.A.units + 1 < cLine) (ho : VX X Wx o mo) (hi : VX X Wx i mi) (he : VX X Wx e m) (hg : IpV X op g)
    (ha : ∀ ov iv new, augStore i ov iv new = (do holding [new, ov, iv] (setItem ov iv new); release [new, ov, iv] []; pure .next) := by intros; rfl) : VS X Wx (.AugAssign (.Subscript o i tpos) op e pos) (sAugS g mo mi m) := by
  obtain ⟨t, a1, a2⟩ := ho.ex
  obtain ⟨u, b1, b2⟩ := hi.ex
  obtain ⟨q, c1, c2⟩ := he.ex
  obtain ⟨r, h1, h2⟩ := hg.ex
  refine ⟨_, ps_augS a1 b1 (get_any hu) c1 h1 (set_any hu) ha, fun B Hs ρ sl rt σ H D R S p => ?_⟩
  refine a2 B Hs ρ sl rt σ H _ R S (PEx.seq S p fun x1 rt1 v1 Hs1 ρ1 H1 e1 R1 d1 p1 => ?_)
  have S1 := S.mono e1
  refine b2 B Hs1 ρ1 sl rt1 σ H1 _ R1 S1 (PEx.seq S1 p1 fun x2 rt2 v2 Hs2 ρ2 H2 e2 R2 d2 p2 => ?_)
  have S2 := S1.mono e2
  refine getA_ok (Wx := Wx) (σ := σ) R2 (d1.mono e2) d2 (PEx.seq S2 p2 fun x3 rt3 v3 Hs3 ρ3 H3 e3 R3 d3 p3 => ?_)
  have S3 := S2.mono e3
  refine c2 B Hs3 ρ3 sl rt3 σ H3 _ R3 S3 (PEx.seq S3 p3 fun x4 rt4 v4 Hs4 ρ4 H4 e4 R4 d4 p4 => ?_)
  have S4 := S3.mono e4
  refine h2 Wx B Hs4 ρ4 rt4 σ H4 _ x3 x4 v3 v4 R4 (d3.mono e4) d4 (PEx.seq S4 p4 fun x5 rt5 v5 Hs5 ρ5 H5 e5 R5 d5 p5 => ?_)
  have S5 := S4.mono e5
  refine PEx.valS R5 d5 p5 fun y rt6 Hs6 e6 R6 d6 p6 => ?_
  have S6 := S5.mono e6
  have e26 := ((e3.trans e4).trans e5).trans e6
  refine setIx_ok (Wx := Wx) (σ := σ) R6 (d1.mono (e2.trans e26)) (d2.mono e26) d6 (PEx.seq S6 p6 fun x7 rt7 v7 Hs7 ρ7 H7 e7 R7 d7 p7 => ?_)
  exact p7 Hs7 ρ7 σ H7 Ext.refl R7 (S6.mono e7) rfl

/-! ### methods of built-in types -/
structure MtV (X : Cx) (T id : String) (ty : W → List O → Bool) (g : W → List W → List O → Ou W) : Prop where
  ty : ∀ (B : Bnd) (Hs : Hp) (ρ : List Addr) (rt : List O) (H : Hp) (v : V) (x : W), Rel X.K X.w B Hs ρ rt H → WD X.K X.w Hs ρ v x → ty x rt = true → tyV X.K T v H
  ex : ∃ r, MtR X id r ∧ ∀ (Wx : WX) (B : Bnd) (Hs : Hp) (ρ : List Addr) (rt : List O) (σ : L2.St) (H : Hp) (Q : VK) (x : W) (xs : List W) (v : V) (us : List V), Rel X.K X.w B Hs ρ rt H → WD X.K X.w Hs ρ v x → WDs X.K X.w Hs ρ us xs →
    PE1 X.K X.w B Wx Hs ρ σ (g x xs rt) Q → r v us H Q
def eMt (ty : W → List O → Bool) (g : W → List W → List O → Ou W) (mo : Ex W) (ms : Ex (List W)) : Ex W := fun sl rt => (mo sl rt).bind fun x rt => if ty x rt = true then (ms sl rt).bind fun xs rt => g x xs rt else .no
def isLs (x : W) (rt : List O) : Bool := (lsOf x rt).isSome
def isSt (x : W) (_ : List O) : Bool := match x with
  | .d (.str _) => true
  | _ => false
variable {es : List Expr} {ms : Ex (List W)} {T id : String} {ty : W → List O → Bool} {gm : W → List W → List O → Ou W} {name : Str} {apos cpos : Pos}
theorem vx_mt (pa : PlainAttrs T) (slot : Slot T name id) (hty : typeOf (.builtin id) = pure (.type "method_descriptor")) (hm : MtV X T id ty gm) (ho : VX X Wx o mo) (ha : VA X Wx (e :: es) ms)
    (hbase : attributeBase o name X.env (eval o X.env) = eval o X.env := by rfl)
    (hfew : ((backTo cpos (starEach (e :: es) X.env)).all (fun x => !x.1) && (backToKw cpos (keywordEach [] X.env)).all (fun x => x.1.isSome)
      && decide ((e :: es).length + ([] : List Keyword).length + (if ([] : List Keyword).isEmpty then 0 else 1) < 30)) = true := by rfl)
    (hline : (apos.endLine == cpos.line) = true := by rfl) (hs : starEach (e :: es) X.env = (false, eval e X.env) :: starEach es X.env := by rfl) (hplain : (backTo cpos (starEach es X.env)).any (·.1) = false := by rfl) :
    VX X Wx (.Call (.Attribute o name apos) (e :: es) [] cpos) (eMt ty gm mo ms) := by
  obtain ⟨t, a1, a2⟩ := ho.ex
  obtain ⟨u, b1, b2⟩ := ha.ex
  obtain ⟨r, h1, h2⟩ := hm.ex
  refine vx_pe (pe_bm pa slot hty h1 a1 b1 hbase hfew hline hs hplain) fun B Hs ρ sl rt σ H Q R S p => ?_
  refine a2 B Hs ρ sl rt σ H _ R S (PEx.bind p fun x rt1 v Hs1 ρ1 H1 e1 R1 d1 p1 => ?_)
  split at p1
  · rename_i hT
    refine ⟨hm.ty B Hs1 ρ1 rt1 H1 v x R1 d1 hT, ?_⟩
    refine b2 B Hs1 ρ1 sl rt1 σ H1 _ R1 (S.mono e1) (PEx.bind p1 fun xs rt2 us Hs2 ρ2 H2 e2 R2 d2 p2 => ?_)
    exact h2 Wx B Hs2 ρ2 rt2 σ H2 Q x xs v us R2 (d1.mono e2) d2 p2
  · exact p1.elim
theorem vx_mt0 (pa : PlainAttrs T) (slot : Slot T name id) (hty : typeOf (.builtin id) = pure (.type "method_descriptor")) (hm : MtV X T id ty gm) (ho : VX X Wx o mo)
    (hbase : attributeBase o name X.env (eval o X.env) = eval o X.env := by rfl) (hline : (apos.endLine == cpos.line) = true := by rfl) :
    VX X Wx (.Call (.Attribute o name apos) [] [] cpos) (eMt ty gm mo aNil) := by
  obtain ⟨t, a1, a2⟩ := ho.ex
  obtain ⟨r, h1, h2⟩ := hm.ex
  refine vx_pe (pe_bm0 pa slot hty h1 a1 hbase hline) fun B Hs ρ sl rt σ H Q R S p => ?_
  refine a2 B Hs ρ sl rt σ H _ R S (PEx.bind p fun x rt1 v Hs1 ρ1 H1 e1 R1 d1 p1 => ?_)
  split at p1
  · rename_i hT
    exact ⟨hm.ty B Hs1 ρ1 rt1 H1 v x R1 d1 hT, h2 Wx B Hs1 ρ1 rt1 σ H1 Q x [] v [] R1 d1 .nil p1⟩
  · exact p1.elim

theorem isLs_ok {K : PySem.W.Frag} {w : World} {B : Bnd} {Hs H : Hp} {ρ : List Addr} {rt : List O} {v : V} {x : W} (R : Rel K w B Hs ρ rt H) (d : WD K w Hs ρ v x) (h : isLs x rt = true) : tyV K "list" v H := by
  obtain ⟨xs, e⟩ := Option.isSome_iff_exists.mp h
  obtain ⟨a, vs, rfl, h1, h2⟩ := lsOf_ok R d e
  exact .inl ⟨rfl, vs, SqL.of h1⟩
theorem isSt_ok {K : PySem.W.Frag} {w : World} {Hs H : Hp} {ρ : List Addr} {rt : List O} {v : V} {x : W} (d : WD K w Hs ρ v x) (h : isSt x rt = true) : tyV K "str" v H := by
  cases x with
  | r n => cases h
  | d x =>
    cases x <;> first | cases h | skip
    cases d
    rfl
/-- xs.append(y) -/
def mAppend (x : W) (xs : List W) (rt : List O) : Ou W := match x, xs with
  | .r n, [y] => (vOf y rt).bind fun z rt => match rd rt n with
    | some (.lst zs) => if zs.length < 16000000 then .ok (.d .non) (wr rt n (.lst (zs ++ [z]))) else .no
    | _ => .no
  | _, _ => .no
theorem mtv_append : MtV X "list" "list.append" isLs mAppend := by
  refine ⟨fun B Hs ρ rt H v x R d h => isLs_ok R d h, rAppend, mt_append, fun Wx B Hs ρ rt σ H Q x xs v us R d1 d2 p => ?_⟩
  unfold mAppend at p
  split at p
  · rename_i n y
    cases d2 with
    | cons d2 d3 =>
      cases d3
      refine PEx.val R d2 p fun z rt1 Hs1 e1 R1 dz p1 => ?_
      split at p1
      · rename_i zs ez
        obtain ⟨a, vs, rfl, h1, h2, h3⟩ := live_lst R1 (d1.mono e1) ez
        split at p1
        · rename_i hl
          exact ⟨a, vs, _, rfl, rfl, h1, lim_lt (by rw [h2.length]; exact hl), p1 _ Hs1 ρ _ Ext.refl (h3 _ _ (h2.append (.cons dz .nil))) .non⟩
        · exact p1.elim
      · exact p1.elim
  · exact p.elim
/-- xs.extend(ys), ys a list -/
def mExtend (x : W) (xs : List W) (rt : List O) : Ou W := match x, xs with
  | .r n, [y] => match rd rt n, lsOf y rt with
    | some (.lst zs), some ys => if zs.length + ys.length ≤ 16000000 then .ok (.d .non) (wr rt n (.lst (zs ++ ys))) else .no
    | _, _ => .no
  | _, _ => .no
theorem mtv_extend : MtV X "list" "list.extend" isLs mExtend := by
  refine ⟨fun B Hs ρ rt H v x R d h => isLs_ok R d h, rExtend, mt_extend, fun Wx B Hs ρ rt σ H Q x xs v us R d1 d2 p => ?_⟩
  unfold mExtend at p
  split at p
  · rename_i n y
    cases d2 with
    | cons d2 d3 =>
      cases d3
      split at p
      · rename_i zs ys ez ey
        obtain ⟨a, vs, rfl, h1, h2, h3⟩ := live_lst R d1 ez
        obtain ⟨b, us, rfl, g1, g2⟩ := lsOf_ok R d2 ey
        split at p
        · rename_i hl
          exact ⟨a, b, vs, us, rfl, rfl, h1, g1, lim_le (by rw [h2.length, g2.length]; exact hl), p _ Hs ρ _ Ext.refl (h3 _ _ (h2.append g2)) .non⟩
        · exact p.elim
      · exact p.elim
  · exact p.elim
/-- xs.pop(), xs.pop(i) -/
def mPop (x : W) (xs : List W) (rt : List O) : Ou W := match x, xs with
  | .r n, [] => match rd rt n with
    | some (.lst zs) => match zs[zs.length - 1]? with
      | some z => .ok (.d z) (wr rt n (.lst zs.dropLast))
      | none => .no
    | _ => .no
  | .r n, [.d (.int i)] => match rd rt n with
    | some (.lst zs) => match ixN zs.length i with
      | some j => match zs[j]? with
        | some z => if -1000000000 ≤ i ∧ i ≤ 1000000000 then .ok (.d z) (wr rt n (.lst (zs.eraseIdx j))) else .no
        | none => .no
      | none => .no
    | _ => .no
  | _, _ => .no
theorem Dens.dropLast {K : PySem.W.Frag} {w : World} {H : Hp} {vs : List V} {xs : List D} (h : Dens K w H vs xs) : Dens K w H vs.dropLast xs.dropLast := by
  rw [List.dropLast_eq_take, List.dropLast_eq_take, h.length]
  exact h.take _
theorem mtv_pop : MtV X "list" "list.pop" isLs mPop := by
  refine ⟨fun B Hs ρ rt H v x R d h => isLs_ok R d h, _, MtR.or (r := rPop) (r' := rPopAt) mt_pop mt_popAt, fun Wx B Hs ρ rt σ H Q x xs v us R d1 d2 p => ?_⟩
  unfold mPop at p
  split at p
  · rename_i n
    cases d2
    split at p
    · rename_i zs ez
      obtain ⟨a, vs, rfl, h1, h2, h3⟩ := live_lst R d1 ez
      split at p
      · rename_i z e
        obtain ⟨u, hu, du⟩ := h2.get e
        exact .inl ⟨a, vs, u, rfl, rfl, h1, by rw [h2.length]; exact hu, p _ Hs ρ _ Ext.refl (h3 _ _ h2.dropLast) du⟩
      · exact p.elim
    · exact p.elim
  · rename_i n i
    cases d2 with
    | cons d2 d3 =>
      cases d3
      cases d2
      split at p
      · rename_i zs ez
        obtain ⟨a, vs, rfl, h1, h2, h3⟩ := live_lst R d1 ez
        split at p
        · rename_i j ej
          split at p
          · rename_i z e
            obtain ⟨u, hu, du⟩ := h2.get e
            split at p
            · rename_i hl
              exact .inr ⟨a, vs, i, j, u, rfl, rfl, h1, by omega, by omega, by rw [h2.length]; exact (ixN_seq ej).1, hu, p _ Hs ρ _ Ext.refl (h3 _ _ (h2.eraseIdx j)) du⟩
            · exact p.elim
          · exact p.elim
        · exact p.elim
      · exact p.elim
  · exact p.elim
/-- xs.insert(i, y) -/
def mInsert (x : W) (xs : List W) (rt : List O) : Ou W := match x, xs with
  | .r n, [.d (.int i), y] => (vOf y rt).bind fun z rt => match rd rt n with
    | some (.lst zs) => if zs.length < 16000000 ∧ 0 ≤ i ∧ i ≤ 1000000000 then .ok (.d .non) (wr rt n (.lst (zs.take i.toNat ++ [z] ++ zs.drop i.toNat))) else .no
    | _ => .no
  | _, _ => .no
theorem mtv_insert : MtV X "list" "list.insert" isLs mInsert := by
  refine ⟨fun B Hs ρ rt H v x R d h => isLs_ok R d h, _, mt_insert, fun Wx B Hs ρ rt σ H Q x xs v us R d1 d2 p => ?_⟩
  unfold mInsert at p
  split at p
  · rename_i n i y
    cases d2 with
    | cons d2 d3 =>
      cases d3 with
      | cons d3 d4 =>
        cases d4
        cases d2
        refine PEx.val R d3 p fun z rt1 Hs1 e1 R1 dz p1 => ?_
        split at p1
        · rename_i zs ez
          obtain ⟨a, vs, rfl, h1, h2, h3⟩ := live_lst R1 (d1.mono e1) ez
          split at p1
          · rename_i hl
            exact ⟨a, vs, i, _, rfl, rfl, h1, lim_lt (by rw [h2.length]; exact hl.1), hl.2.1, by omega, p1 _ Hs1 ρ _ Ext.refl (h3 _ _ (((h2.take _).append (.cons dz .nil)).append (h2.drop _))) .non⟩
          · exact p1.elim
        · exact p1.elim
  · exact p.elim
/-- xs.reverse(), xs.clear() -/
def mReverse (x : W) (xs : List W) (rt : List O) : Ou W := match x, xs with
  | .r n, [] => match rd rt n with
    | some (.lst zs) => .ok (.d .non) (wr rt n (.lst zs.reverse))
    | _ => .no
  | _, _ => .no
theorem mtv_reverse : MtV X "list" "list.reverse" isLs mReverse := by
  refine ⟨fun B Hs ρ rt H v x R d h => isLs_ok R d h, rReverse, mt_reverse, fun Wx B Hs ρ rt σ H Q x xs v us R d1 d2 p => ?_⟩
  unfold mReverse at p
  split at p
  · rename_i n
    cases d2
    split at p
    · rename_i zs ez
      obtain ⟨a, vs, rfl, h1, h2, h3⟩ := live_lst R d1 ez
      exact ⟨a, vs, rfl, rfl, h1, p _ Hs ρ _ Ext.refl (h3 _ _ h2.rev) .non⟩
    · exact p.elim
  · exact p.elim
def mClear (x : W) (xs : List W) (rt : List O) : Ou W := match x, xs with
  | .r n, [] => match rd rt n with
    | some (.lst zs) => .ok (.d .non) (wr rt n (.lst []))
    | _ => .no
  | _, _ => .no
theorem mtv_clear : MtV X "list" "list.clear" isLs mClear := by
  refine ⟨fun B Hs ρ rt H v x R d h => isLs_ok R d h, rClear, mt_clear, fun Wx B Hs ρ rt σ H Q x xs v us R d1 d2 p => ?_⟩
  unfold mClear at p
  split at p
  · rename_i n
    cases d2
    split at p
    · rename_i zs ez
      obtain ⟨a, vs, rfl, h1, h2, h3⟩ := live_lst R d1 ez
      exact ⟨a, vs, rfl, rfl, h1, p _ Hs ρ _ Ext.refl (h3 _ _ .nil) .non⟩
    · exact p.elim
  · exact p.elim
end
end VE

set_option maxRecDepth 100000
set_option maxHeartbeats 1000000
namespace VE
open PySem PySem.Spec L2

structure CallV (X : Cx) (f : Value) (g : List W → List O → Ou W) : Prop where
  ex : ∃ r, CallR X f r ∧ ∀ (Wx : WX) (B : Bnd) (Hs : Hp) (ρ : List Addr) (rt : List O) (σ : L2.St) (H : Hp) (Q : VK) (xs : List W) (us : List V), Rel X.K X.w B Hs ρ rt H → WDs X.K X.w Hs ρ us xs →
    PE1 X.K X.w B Wx Hs ρ σ (g xs rt) Q → r us H Q
def eFn (g : List W → List O → Ou W) (ms : Ex (List W)) : Ex W := fun sl rt => (ms sl rt).bind fun xs rt => g xs rt
section
variable {X : Cx} {Wx : WX} {e : Expr} {es : List Expr} {ms : Ex (List W)} {g : List W → List O → Ou W} {x : Str} {p pos : Pos} {id T : String}
theorem fn_ok {r : List V → Hp → VK → Prop} {t : TA} (h2 : ∀ (Wx : WX) (B : Bnd) (Hs : Hp) (ρ : List Addr) (rt : List O) (σ : L2.St) (H : Hp) (Q : VK) (xs : List W) (us : List V), Rel X.K X.w B Hs ρ rt H → WDs X.K X.w Hs ρ us xs → PE1 X.K X.w B Wx Hs ρ σ (g xs rt) Q → r us H Q)
    (a2 : ∀ (B : Bnd) (Hs : Hp) (ρ : List Addr) (sl : Sl) (rt : List O) (σ : L2.St) (H : Hp) (Q : List V → Hp → Prop), Rel X.K X.w B Hs ρ rt H → SlD X.K X.w Hs ρ σ sl → PA1 X.K X.w B Wx Hs ρ σ (ms sl rt) Q → t σ H Q)
    (B : Bnd) (Hs : Hp) (ρ : List Addr) (sl : Sl) (rt : List O) (σ : L2.St) (H : Hp) (Q : VK) (R : Rel X.K X.w B Hs ρ rt H) (S : SlD X.K X.w Hs ρ σ sl) (p : PE1 X.K X.w B Wx Hs ρ σ (eFn g ms sl rt) Q) : tCB r t σ H Q :=
  a2 B Hs ρ sl rt σ H _ R S (PEx.bind p fun xs rt1 us Hs1 ρ1 H1 e1 R1 d1 p1 => h2 Wx B Hs1 ρ1 rt1 σ H1 Q xs us R1 d1 p1)
theorem vx_callB (hc : CallV X (.builtin id) g) (hg : Gl X x) (hm : X.mg x = none) (hv : bootBuiltins x = some (.builtin id)) (ha : VA X Wx (e :: es) ms) (hn : x ≠ "__name__" := by decide) (hdb : (x == ("__debug__" : Str)) = false := by decide)
    (he : starEach (e :: es) X.env = (false, eval e X.env) :: starEach es X.env := by rfl) (hpl : (backTo pos (starEach es X.env)).any (·.1) = false := by rfl) : VX X Wx (.Call (.Name x p) (e :: es) [] pos) (eFn g ms) := by
  obtain ⟨t, a1, a2⟩ := ha.ex
  obtain ⟨r, h1, h2⟩ := hc.ex
  exact vx_pe (pe_callB h1 hg hm hv a1 hn hdb he hpl) (fn_ok h2 a2)
theorem vx_callTy (hc : CallV X (.type T) g) (hg : Gl X x) (hm : X.mg x = none) (hv : bootBuiltins x = some (.type T)) (ha : VA X Wx (e :: es) ms) (hn : x ≠ "__name__" := by decide) (hdb : (x == ("__debug__" : Str)) = false := by decide)
    (he : starEach (e :: es) X.env = (false, eval e X.env) :: starEach es X.env := by rfl) (hpl : (backTo pos (starEach es X.env)).any (·.1) = false := by rfl) : VX X Wx (.Call (.Name x p) (e :: es) [] pos) (eFn g ms) := by
  obtain ⟨t, a1, a2⟩ := ha.ex
  obtain ⟨r, h1, h2⟩ := hc.ex
  exact vx_pe (pe_callTy h1 hg hm hv a1 hn hdb he hpl) (fn_ok h2 a2)
/-- the name of a built-in type, as a value -/
theorem vx_ty (hg : Gl X x) (hm : X.mg x = none) (hv : bootBuiltins x = some (.type T)) (hn : x ≠ "__name__" := by decide) (hd : (x == ("__debug__" : Str)) = false := by decide) : VX X Wx (.Name x pos) (eC (.ty T)) :=
  vx_c (v := .ty T) (pe_bltn hg hm hv rfl hn hd) fun _ => .ty T
/-- a constant of the module -/
theorem vx_glob {y : D} {v : V} {u : Value} (hg : Gl X x) (hm : X.mg x = some u) (r : RelV v u) (d : ∀ Hs, Den X.K X.w Hs v y) (hd : (x == ("__debug__" : Str)) = false := by decide) : VX X Wx (.Name x pos) (eC y) := vx_c (pe_glob hg hm r hd) d
end

/-! ### len, int, abs, list, tuple, sum, max, min, any, all, str, ord -/
def lenD (x : W) (rt : List O) : Option Nat := match lsOf x rt with
  | some xs => some xs.length
  | none => match tpOf x with
    | some xs => some xs.length
    | none => match x with
      | .d (.str s) => if s.length ≤ 16000000 then some s.length else none
      | .d (.dk kvs) => none
      | .r n => match rd rt n with
        | some (.dk kvs) => some kvs.length
        | some (.dt kvs) => some kvs.length
        | some (.nst xs) => some xs.length
        | some (.ndk kvs) => some kvs.length
        | some (.ndt kvs) => some kvs.length
        | _ => none
      | _ => none
def bLen (xs : List W) (rt : List O) : Ou W := match xs with
  | [x] => match lenD x rt with
    | some n => .ok (.d (.int n)) rt
    | none => .no
  | _ => .no
def bInt (xs : List W) (rt : List O) : Ou W := match xs with
  | [.d (.int i)] => .ok (.d (.int i)) rt
  | [.d (.bl b)] => .ok (.d (.int (if b then 1 else 0))) rt
  | [.d (.str s)] => match PySem.intText? s with
    | some n => if s.length ≤ 640 then .ok (.d (.int n)) rt else .no
    | none => .no
  | _ => .no
def bAbs (xs : List W) (rt : List O) : Ou W := match xs with
  | [.d (.int i)] => .ok (.d (.int (if i < 0 then -i else i))) rt
  | _ => .no
def bList (xs : List W) (rt : List O) : Ou W := match xs with
  | [x] => match lsOf x rt with
    | some ys => .ok (.r rt.length) (rt ++ [.lst ys])
    | none => match tpOf x with
      | some ys => .ok (.r rt.length) (rt ++ [.lst ys])
      | none => .no
  | _ => .no
def bTuple (xs : List W) (rt : List O) : Ou W := match xs with
  | [x] => match lsOf x rt with
    | some ys => .ok (.d (.tup ys)) rt
    | none => match x with
      | .d (.tup ys) => .ok (.d (.tup ys)) rt
      | .d (.ktup ys) => .ok (.d (.ktup ys)) rt
      | _ => .no
  | _ => .no
def intsOf : List D → Option (List Int)
  | [] => some []
  | .int i :: xs => (intsOf xs).map (i :: ·)
  | _ :: _ => none
def blsOf : List D → Option (List Bool)
  | [] => some []
  | .bl i :: xs => (blsOf xs).map (i :: ·)
  | _ :: _ => none
def strsOf : List D → Option (List Str)
  | [] => some []
  | .str i :: xs => (strsOf xs).map (i :: ·)
  | _ :: _ => none
section
variable {K : PySem.W.Frag} {w : World} {H : Hp}
theorem ints_ok : ∀ {vs : List V} {xs : List D} {ns : List Int}, Dens K w H vs xs → intsOf xs = some ns → vs = ns.map V.int
  | _, _, _, .nil, e => by cases e; rfl
  | _, _, _, .cons (x := x) (xs := xs) d t, e => by
    cases x <;> first | cases e | skip
    unfold intsOf at e
    obtain ⟨ms, h1, rfl⟩ := Option.map_eq_some_iff.mp e
    cases d
    rw [List.map_cons, ints_ok t h1]
theorem bls_ok : ∀ {vs : List V} {xs : List D} {ns : List Bool}, Dens K w H vs xs → blsOf xs = some ns → vs = ns.map V.bl
  | _, _, _, .nil, e => by cases e; rfl
  | _, _, _, .cons (x := x) (xs := xs) d t, e => by
    cases x <;> first | cases e | skip
    unfold blsOf at e
    obtain ⟨ms, h1, rfl⟩ := Option.map_eq_some_iff.mp e
    cases d
    rw [List.map_cons, bls_ok t h1]
theorem strs_ok : ∀ {vs : List V} {xs : List D} {ns : List Str}, Dens K w H vs xs → strsOf xs = some ns → vs = ns.map V.str
  | _, _, _, .nil, e => by cases e; rfl
  | _, _, _, .cons (x := x) (xs := xs) d t, e => by
    cases x <;> first | cases e | skip
    unfold strsOf at e
    obtain ⟨ms, h1, rfl⟩ := Option.map_eq_some_iff.mp e
    cases d
    rw [List.map_cons, strs_ok t h1]
end
def maxL : List Int → Int
  | [] => 0
  | [x] => x
  | x :: xs => max x (maxL xs)
def minL : List Int → Int
  | [] => 0
  | [x] => x
  | x :: xs => min x (minL xs)
theorem maxL_le : ∀ {ns : List Int} {y : Int}, y ∈ ns → y ≤ maxL ns
  | [x], y, h => by rw [List.mem_singleton.mp h]; exact Int.le_refl _
  | x :: z :: xs, y, h => by
    show y ≤ max x (maxL (z :: xs))
    rcases List.mem_cons.mp h with h | h
    · omega
    · have := maxL_le (ns := z :: xs) h; omega
theorem maxL_mem : ∀ {ns : List Int}, ns ≠ [] → maxL ns ∈ ns
  | [x], _ => by simp [maxL]
  | x :: z :: xs, _ => by
    have h := maxL_mem (ns := z :: xs) (by simp)
    show max x (maxL (z :: xs)) ∈ _
    rcases Int.le_total x (maxL (z :: xs)) with q | q
    · rw [Int.max_eq_right q]; exact List.mem_cons_of_mem _ h
    · rw [Int.max_eq_left q]; exact List.mem_cons_self
theorem minL_le : ∀ {ns : List Int} {y : Int}, y ∈ ns → minL ns ≤ y
  | [x], y, h => by rw [List.mem_singleton.mp h]; exact Int.le_refl _
  | x :: z :: xs, y, h => by
    show min x (minL (z :: xs)) ≤ y
    rcases List.mem_cons.mp h with h | h
    · omega
    · have := minL_le (ns := z :: xs) h; omega
theorem minL_mem : ∀ {ns : List Int}, ns ≠ [] → minL ns ∈ ns
  | [x], _ => by simp [minL]
  | x :: z :: xs, _ => by
    have h := minL_mem (ns := z :: xs) (by simp)
    show min x (minL (z :: xs)) ∈ _
    rcases Int.le_total x (minL (z :: xs)) with q | q
    · rw [Int.min_eq_left q]; exact List.mem_cons_self
    · rw [Int.min_eq_right q]; exact List.mem_cons_of_mem _ h
def bSum (xs : List W) (rt : List O) : Ou W := match xs with
  | [x] => match (lsOf x rt).bind intsOf with
    | some ns => .ok (.d (.int ns.sum)) rt
    | none => .no
  | _ => .no
def bMax (xs : List W) (rt : List O) : Ou W := match xs with
  | [x] => match (lsOf x rt).bind intsOf with
    | some ns => if 0 < ns.length then .ok (.d (.int (maxL ns))) rt else .no
    | none => .no
  | [.d (.int i), .d (.int j)] => .ok (.d (.int (max i j))) rt
  | _ => .no
def bMin (xs : List W) (rt : List O) : Ou W := match xs with
  | [x] => match (lsOf x rt).bind intsOf with
    | some ns => if 0 < ns.length then .ok (.d (.int (minL ns))) rt else .no
    | none => .no
  | [.d (.int i), .d (.int j)] => .ok (.d (.int (min i j))) rt
  | _ => .no
def bAll (xs : List W) (rt : List O) : Ou W := match xs with
  | [x] => match (lsOf x rt).bind blsOf with
    | some ns => .ok (.d (.bl (ns.all id))) rt
    | none => .no
  | _ => .no
def bAny (xs : List W) (rt : List O) : Ou W := match xs with
  | [x] => match (lsOf x rt).bind blsOf with
    | some ns => .ok (.d (.bl (ns.any id))) rt
    | none => .no
  | _ => .no
def bOrd (xs : List W) (rt : List O) : Ou W := match xs with
  | [.d (.str s)] => if s.length = 1 then .ok (.d (.int (s.cps.getD 0 0 : Nat))) rt else .no
  | _ => .no
def bStr (xs : List W) (rt : List O) : Ou W := match xs with
  | [.d (.int i)] => if i.natAbs.log2 < 1920 then .ok (.d (.str (toString i))) rt else .no
  | _ => .no
section
variable {X : Cx}
theorem wds1 {K : PySem.W.Frag} {w : World} {Hs : Hp} {ρ : List Addr} {us : List V} {x : W} (d : WDs K w Hs ρ us [x]) : ∃ v, us = [v] ∧ WD K w Hs ρ v x := by
  cases d with
  | cons d t => cases t; exact ⟨_, rfl, d⟩
theorem wds2 {K : PySem.W.Frag} {w : World} {Hs : Hp} {ρ : List Addr} {us : List V} {x y : W} (d : WDs K w Hs ρ us [x, y]) : ∃ v u, us = [v, u] ∧ WD K w Hs ρ v x ∧ WD K w Hs ρ u y := by
  cases d with
  | cons d t =>
    cases t with
    | cons d2 t => cases t; exact ⟨_, _, rfl, d, d2⟩
theorem cv_len : CallV X (.builtin "len") bLen := by
  refine ⟨_, call_len.or (call_lenD.or call_len_dT), fun Wx B Hs ρ rt σ H Q xs us R d p => ?_⟩
  unfold bLen at p
  split at p
  · rename_i x
    obtain ⟨v, rfl, d1⟩ := wds1 d
    split at p
    · rename_i n e
      have q := p _ Hs ρ H Ext.refl R (.int n)
      unfold lenD at e
      split at e
      · rename_i ys ey
        cases e
        obtain ⟨a, vs, rfl, h1, h2⟩ := lsOf_ok R d1 ey
        exact .inl ⟨_, ys.length, rfl, .inl ⟨vs, SqL.of h1, h2.length.symm⟩, q⟩
      · split at e
        · rename_i ys ey
          cases e
          obtain ⟨a, vs, rfl, h0, h1, h2⟩ := tpOf_ok R d1 ey
          exact .inl ⟨_, ys.length, rfl, .inr ⟨vs, h1, h2.length.symm⟩, q⟩
        · split at e
          · split at e
            · rename_i h
              cases e
              cases d1
              exact .inl ⟨_, _, rfl, ⟨lim_le h, rfl⟩, q⟩
            · cases e
          · cases e
          · rename_i m _ _
            split at e
            · rename_i kvs ek
              cases e
              obtain ⟨a, vs, rfl, h1, h2, h3⟩ := live_dk R d1 ek
              exact .inr (.inl ⟨a, vs, rfl, h1, by rw [h2.length]; exact q⟩)
            · rename_i kvs ek
              cases e
              obtain ⟨a, vs, rfl, h1, h2, h3⟩ := live_dt R d1 ek
              exact .inr (.inr ⟨a, vs, rfl, h1, by rw [h2.length]; exact q⟩)
            · rename_i kvs ek
              cases e
              obtain ⟨a, C, rfl, h2, _⟩ := R.at d1 ek rfl
              cases h2 with
              | @nst _ vs _ _ h1 h2 => exact .inl ⟨_, _, rfl, .inl ⟨vs, SqL.of h1, h2.length.symm⟩, q⟩
            · rename_i kvs ek
              cases e
              obtain ⟨a, C, rfl, h2, _⟩ := R.at d1 ek rfl
              cases h2 with
              | @ndk _ vs _ _ h1 h2 => exact .inr (.inl ⟨_, vs, rfl, h1, by rw [h2.length]; exact q⟩)
            · rename_i kvs ek
              cases e
              obtain ⟨a, C, rfl, h2, _⟩ := R.at d1 ek rfl
              cases h2 with
              | @ndt _ vs _ _ h1 h2 => exact .inr (.inr ⟨_, vs, rfl, h1, by rw [h2.length]; exact q⟩)
            · cases e
          · cases e
    · exact p.elim
  · exact p.elim
theorem cv_int : CallV X (.type "int") bInt := by
  refine ⟨_, call_int1.or call_int_str, fun Wx B Hs ρ rt σ H Q xs us R d p => ?_⟩
  unfold bInt at p
  split at p
  · obtain ⟨v, rfl, d1⟩ := wds1 d
    cases d1
    exact .inl (.inl ⟨_, rfl, p _ Hs ρ H Ext.refl R (.int _)⟩)
  · obtain ⟨v, rfl, d1⟩ := wds1 d
    cases d1
    exact .inl (.inr ⟨_, rfl, p _ Hs ρ H Ext.refl R (.int _)⟩)
  · obtain ⟨v, rfl, d1⟩ := wds1 d
    cases d1
    split at p
    · rename_i n en
      split at p
      · rename_i h
        exact .inr ⟨_, n, rfl, en, h, p _ Hs ρ H Ext.refl R (.int _)⟩
      · exact p.elim
    · exact p.elim
  · exact p.elim
theorem cv_abs : CallV X (.builtin "abs") bAbs := by
  refine ⟨_, call_abs, fun Wx B Hs ρ rt σ H Q xs us R d p => ?_⟩
  unfold bAbs at p
  split at p
  · obtain ⟨v, rfl, d1⟩ := wds1 d
    cases d1
    exact ⟨_, rfl, p _ Hs ρ H Ext.refl R (.int _)⟩
  · exact p.elim
theorem cv_list : CallV X (.type "list") bList := by
  refine ⟨_, call_list_of, fun Wx B Hs ρ rt σ H Q xs us R d p => ?_⟩
  unfold bList at p
  split at p
  · obtain ⟨v, rfl, d1⟩ := wds1 d
    split at p
    · rename_i ys ey
      obtain ⟨a, vs, rfl, h1, h2⟩ := lsOf_ok R d1 ey
      exact ⟨a, vs, rfl, .inl (SqL.of h1), new_list R h2 p⟩
    · split at p
      · rename_i ys ey
        obtain ⟨a, vs, rfl, h0, h1, h2⟩ := tpOf_ok R d1 ey
        exact ⟨a, vs, rfl, .inr h1, new_list R h2 p⟩
      · exact p.elim
  · exact p.elim
theorem cv_tuple : CallV X (.type "tuple") bTuple := by
  refine ⟨_, call_tuple_of, fun Wx B Hs ρ rt σ H Q xs us R d p => ?_⟩
  unfold bTuple at p
  split at p
  · obtain ⟨v, rfl, d1⟩ := wds1 d
    split at p
    · rename_i ys ey
      obtain ⟨a, vs, rfl, h1, h2⟩ := lsOf_ok R d1 ey
      exact ⟨a, vs, rfl, .inl ⟨SqL.of h1, new_tup R h2 p⟩⟩
    · split at p
      · rename_i ys _
        obtain ⟨a, vs, rfl, h0, h1, h2⟩ := tpOf_ok (xs := ys) R d1 rfl
        exact ⟨a, vs, rfl, .inr ⟨h1, p _ Hs ρ H Ext.refl R d1⟩⟩
      · rename_i ys _
        obtain ⟨a, vs, rfl, h0, h1, h2⟩ := tpOf_ok (xs := ys) R d1 rfl
        exact ⟨a, vs, rfl, .inr ⟨h1, p _ Hs ρ H Ext.refl R d1⟩⟩
      · exact p.elim
  · exact p.elim
theorem lsI_ok {α : Type} {K : PySem.W.Frag} {w : World} {B : Bnd} {Hs H : Hp} {ρ : List Addr} {rt : List O} {v : V} {x : W} {f : List D → Option (List α)} {c : α → V} {ns : List α} (hf : ∀ {vs xs ns}, Dens K w Hs vs xs → f xs = some ns → vs = ns.map c)
    (R : Rel K w B Hs ρ rt H) (d : WD K w Hs ρ v x) (e : (lsOf x rt).bind f = some ns) : ∃ a, v = .ref a ∧ SqL K H a (ns.map c) := by
  obtain ⟨ys, ey, ez⟩ := Option.bind_eq_some_iff.mp e
  obtain ⟨a, vs, rfl, h1, h2⟩ := lsOf_ok R d ey
  exact ⟨a, rfl, by rw [← hf h2 ez]; exact SqL.of h1⟩
theorem cv_sum (hc : X.calm = true) : CallV X (.builtin "sum") bSum := by
  refine ⟨_, cr_sum hc, fun Wx B Hs ρ rt σ H Q xs us R d p => ?_⟩
  unfold bSum at p
  split at p
  · obtain ⟨v, rfl, d1⟩ := wds1 d
    split at p
    · rename_i ns e
      obtain ⟨a, rfl, h⟩ := lsI_ok ints_ok R d1 e
      exact ⟨a, ns, rfl, h, p _ Hs ρ H Ext.refl R (.int _)⟩
    · exact p.elim
  · exact p.elim
theorem cv_max (hc : X.calm = true) : CallV X (.builtin "max") bMax := by
  refine ⟨_, (cr_max hc).or (call_max2 hc), fun Wx B Hs ρ rt σ H Q xs us R d p => ?_⟩
  unfold bMax at p
  split at p
  · obtain ⟨v, rfl, d1⟩ := wds1 d
    split at p
    · rename_i ns e
      obtain ⟨a, rfl, h⟩ := lsI_ok ints_ok R d1 e
      split at p
      · rename_i hl
        refine .inl ⟨a, ns, rfl, h, hl, fun m h1 h2 => ?_⟩
        have e1 : m = maxL ns := Int.le_antisymm (maxL_le h1) (h2 _ (maxL_mem (fun z => by rw [z] at hl; simp at hl)))
        rw [e1]
        exact p _ Hs ρ H Ext.refl R (.int _)
      · exact p.elim
    · exact p.elim
  · obtain ⟨v, u, rfl, d1, d2⟩ := wds2 d
    cases d1; cases d2
    rename_i i j
    refine .inr ⟨i, j, rfl, ?_⟩
    have e1 : (if j > i then j else i) = max i j := by omega
    rw [e1]
    exact p _ Hs ρ H Ext.refl R (.int _)
  · exact p.elim
theorem cv_min (hc : X.calm = true) : CallV X (.builtin "min") bMin := by
  refine ⟨_, (cr_min hc).or (call_min2 hc), fun Wx B Hs ρ rt σ H Q xs us R d p => ?_⟩
  unfold bMin at p
  split at p
  · obtain ⟨v, rfl, d1⟩ := wds1 d
    split at p
    · rename_i ns e
      obtain ⟨a, rfl, h⟩ := lsI_ok ints_ok R d1 e
      split at p
      · rename_i hl
        refine .inl ⟨a, ns, rfl, h, hl, fun m h1 h2 => ?_⟩
        have e1 : m = minL ns := Int.le_antisymm (h2 _ (minL_mem (fun z => by rw [z] at hl; simp at hl))) (minL_le h1)
        rw [e1]
        exact p _ Hs ρ H Ext.refl R (.int _)
      · exact p.elim
    · exact p.elim
  · obtain ⟨v, u, rfl, d1, d2⟩ := wds2 d
    cases d1; cases d2
    rename_i i j
    refine .inr ⟨i, j, rfl, ?_⟩
    have e1 : (if j < i then j else i) = min i j := by omega
    rw [e1]
    exact p _ Hs ρ H Ext.refl R (.int _)
  · exact p.elim
theorem cv_all (hc : X.calm = true) : CallV X (.builtin "all") bAll := by
  refine ⟨_, cr_all hc, fun Wx B Hs ρ rt σ H Q xs us R d p => ?_⟩
  unfold bAll at p
  split at p
  · obtain ⟨v, rfl, d1⟩ := wds1 d
    split at p
    · rename_i ns e
      obtain ⟨a, rfl, h⟩ := lsI_ok bls_ok R d1 e
      exact ⟨a, ns, rfl, h, p _ Hs ρ H Ext.refl R (.bl _)⟩
    · exact p.elim
  · exact p.elim
theorem cv_any (hc : X.calm = true) : CallV X (.builtin "any") bAny := by
  refine ⟨_, cr_any hc, fun Wx B Hs ρ rt σ H Q xs us R d p => ?_⟩
  unfold bAny at p
  split at p
  · obtain ⟨v, rfl, d1⟩ := wds1 d
    split at p
    · rename_i ns e
      obtain ⟨a, rfl, h⟩ := lsI_ok bls_ok R d1 e
      exact ⟨a, ns, rfl, h, p _ Hs ρ H Ext.refl R (.bl _)⟩
    · exact p.elim
  · exact p.elim
theorem cv_ord : CallV X (.builtin "ord") bOrd := by
  refine ⟨_, call_ord, fun Wx B Hs ρ rt σ H Q xs us R d p => ?_⟩
  unfold bOrd at p
  split at p
  · obtain ⟨v, rfl, d1⟩ := wds1 d
    cases d1
    split at p
    · rename_i h
      exact ⟨_, rfl, h, p _ Hs ρ H Ext.refl R (.int _)⟩
    · exact p.elim
  · exact p.elim
theorem cv_str : CallV X (.type "str") bStr := by
  refine ⟨_, call_str_int, fun Wx B Hs ρ rt σ H Q xs us R d p => ?_⟩
  unfold bStr at p
  split at p
  · obtain ⟨v, rfl, d1⟩ := wds1 d
    cases d1
    split at p
    · rename_i h
      exact ⟨_, rfl, h, p _ Hs ρ H Ext.refl R (.str _)⟩
    · exact p.elim
  · exact p.elim
end

/-! ### isinstance of built-in types -/
def tyName (x : W) (rt : List O) : Option String := match x with
  | .d .non => some "NoneType"
  | .d (.bl _) => some "bool"
  | .d (.int _) => some "int"
  | .d (.str _) => some "str"
  | .d (.tup _) => some "tuple"
  | .d (.ktup _) => some "tuple"
  | .d (.lst _) => some "list"
  | .r n => match rd rt n with
    | some (.lst _) => some "list"
    | some (.nst _) => some "list"
    | some (.d (.lst _)) => some "list"
    | some (.dk _) => some "dict"
    | some (.dt _) => some "dict"
    | some (.ndk _) => some "dict"
    | some (.ndt _) => some "dict"
    | _ => none
  | _ => none
def bIsi (xs : List W) (rt : List O) : Ou W := match xs with
  | [x, .d (.ty n)] => match tyName x rt with
    | some t => match kitB t n with
      | some b => .ok (.d (.bl b)) rt
      | none => .no
    | none => .no
  | _ => .no
theorem tyName_ok {K : PySem.W.Frag} {w : World} {B : Bnd} {Hs H : Hp} {ρ : List Addr} {rt : List O} {v : V} {x : W} {t : String} (R : Rel K w B Hs ρ rt H) (d : WD K w Hs ρ v x) (e : tyName x rt = some t) : TyX K H v (.type t) := by
  cases x with
  | d x =>
    cases x <;> cases e <;> cases d
    · exact .base .non
    · exact .base (.bl _)
    · exact .base (.int _)
    · exact .base (.str _)
    · rename_i h _; exact .base (.tup (R.same _ _ h))
    · rename_i h _
      rcases h with ⟨ob, h, _⟩ | ⟨o, its, n, h, hc, _⟩
      · exact .fTuple (R.same _ _ h)
      · exact .kTuple h hc
    · rename_i h _; exact .base (.lst (R.same _ _ h))
  | r n =>
    unfold tyName at e
    cases ho : rd rt n with
    | none => simp only [ho] at e; cases e
    | some o =>
      cases o <;> simp only [ho] at e <;> first | cases e | skip
      · rename_i y
        obtain ⟨a, C, rfl, h2, _⟩ := R.at d ho rfl
        cases y <;> simp only at e <;> first | cases e | skip
        cases h2 with
        | d h2 => cases h2 with
          | lst h1 h2 => exact .base (.lst (R.same _ _ h1))
      · obtain ⟨a, C, rfl, h2, _⟩ := R.at d ho rfl
        cases h2 with
        | lst h1 h2 => exact .base (.lst h1)
      · obtain ⟨a, C, rfl, h2, _⟩ := R.at d ho rfl
        cases h2 with
        | dk h1 h2 => exact .base (.dK h1)
      · obtain ⟨a, C, rfl, h2, _⟩ := R.at d ho rfl
        cases h2 with
        | dt h1 h2 => exact .base (.dT h1)
      · obtain ⟨a, C, rfl, h2, _⟩ := R.at d ho rfl
        cases h2 with
        | nst h1 h2 => exact .base (.lst h1)
      · obtain ⟨a, C, rfl, h2, _⟩ := R.at d ho rfl
        cases h2 with
        | ndk h1 h2 => exact .base (.dK h1)
      · obtain ⟨a, C, rfl, h2, _⟩ := R.at d ho rfl
        cases h2 with
        | ndt h1 h2 => exact .base (.dT h1)
theorem cv_isi {X : Cx} : CallV X (.builtin "isinstance") bIsi := by
  refine ⟨_, call_isi, fun Wx B Hs ρ rt σ H Q xs us R d p => ?_⟩
  unfold bIsi at p
  split at p
  · obtain ⟨v, u, rfl, d1, d2⟩ := wds2 d
    cases d2
    split at p
    · rename_i t e
      split at p
      · rename_i b eb
        exact ⟨v, _, _, _, b, rfl, .ty _, tyName_ok R d1 e, kit_ty eb, p _ Hs ρ H Ext.refl R (.bl _)⟩
      · exact p.elim
    · exact p.elim
  · exact p.elim
end VE

set_option maxRecDepth 100000
set_option maxHeartbeats 1000000
namespace VE
open PySem PySem.Spec L2

/-! ### iterables -/
theorem PI.or {X : Cx} {tg iter : Expr} {w1 w2 : TI} (h1 : PI X tg iter w1) (h2 : PI X tg iter w2) : PI X tg iter (fun σ H R => w1 σ H R ∨ w2 σ H R) :=
  ⟨fun pins s σ H R I h => h.elim (h1.run pins s σ H R I) (h2.run pins s σ H R I)⟩
def signs (s : Str) : List D := s.cps.toList.map fun c => .str ⟨#[c]⟩
def seqOf : D → Option (List D)
  | .lst xs => some xs
  | .tup xs => some xs
  | .ktup xs => some xs
  | .fz xs => some xs
  | .str s => some (signs s)
  | _ => none
def itSeq (m : Ex W) : Ex (List D) := fun sl rt => (m sl rt).bind fun x rt => (vOf x rt).bind fun y rt => match seqOf y with
  | some xs => .ok xs rt
  | none => .no
section
variable {K : PySem.W.Frag} {w : World} {Hs : Hp}
theorem itOk_list {a : Addr} {vs : List V} {xs : List D} (h : SqL K Hs a vs) (d : Dens K w Hs vs xs) : ItOk K w Hs (Itl K a) xs := by
  refine ⟨_, _, by rw [← d.length]; exact walk_list, fun H s => SqL.mono s h, fun i H v H' hi y Hs1 s1 s2 => ?_⟩
  obtain ⟨rfl, e⟩ := y
  obtain ⟨x, hx⟩ : ∃ x, xs[i]? = some x := ⟨xs[i], by simp [hi]⟩
  obtain ⟨v', e', d'⟩ := d.get hx
  rw [e] at e'
  cases e'
  exact ⟨x, hx, .inl ⟨rfl, d'.mono s1⟩⟩
theorem itOk_tup {a : Addr} {vs : List V} {xs : List D} (h : SqT K Hs a vs) (d : Dens K w Hs vs xs) : ItOk K w Hs (Itt K a) xs := by
  refine ⟨_, _, by rw [← d.length]; exact walk_tup, fun H s => SqT.mono s h, fun i H v H' hi y Hs1 s1 s2 => ?_⟩
  obtain ⟨rfl, e⟩ := y
  obtain ⟨x, hx⟩ : ∃ x, xs[i]? = some x := ⟨xs[i], by simp [hi]⟩
  obtain ⟨v', e', d'⟩ := d.get hx
  rw [e] at e'
  cases e'
  exact ⟨x, hx, .inl ⟨rfl, d'.mono s1⟩⟩
theorem itOk_str {z : Str} : ItOk K w Hs (Its z) (signs z) := by
  refine ⟨fun _ => True, _, by unfold signs; rw [List.length_map, Array.length_toList]; exact walk_str, fun H s => trivial, fun i H v H' hi y Hs1 s1 s2 => ?_⟩
  obtain ⟨rfl, c, e, rfl⟩ := y
  refine ⟨.str ⟨#[c]⟩, ?_, .inl ⟨rfl, .str _⟩⟩
  unfold signs
  rw [List.getElem?_map, Array.getElem?_toList, e]
  rfl
theorem itOk_fn {J : It} {n : Nat} {f : Nat → Int} (h : Walk J n (fun _ => True) (YFn fun i => .int (f i))) : ItOk K w Hs J ((List.range n).map fun i => .int (f i)) := by
  refine ⟨fun _ => True, _, by rw [List.length_map, List.length_range]; exact h, fun H s => trivial, fun i H v H' hi y Hs1 s1 s2 => ?_⟩
  obtain ⟨rfl, rfl⟩ := y
  rw [List.length_map, List.length_range] at hi
  exact ⟨.int (f i), by simp [hi], .inl ⟨rfl, .int _⟩⟩
end
section
variable {X : Cx} {Wx : WX} {tg e e2 : Expr} {es : List Expr} {m : Ex W} {ms : Ex (List W)} {p pos tpos : Pos}
theorem vi_seq (h : VX X Wx e m) : VI X Wx tg e (itSeq m) := by
  obtain ⟨t, a1, a2⟩ := h.ex
  refine ⟨_, PI.or (pi_list a1) (PI.or (pi_tup a1) (pi_str a1)), fun B Hs ρ sl rt σ H Q R S p => ?_⟩
  unfold itSeq at p
  cases hm : m sl rt with
  | no => rw [hm] at p; exact p.elim
  | ex c fs rt1 =>
    rw [hm] at p
    exact .inl (a2 B Hs ρ sl rt σ H _ R S (by rw [hm]; exact p))
  | ok x rt1 =>
    rw [hm] at p
    simp only [Ou.bind] at p
    cases hv : vOf x rt1 with
    | no => rw [hv] at p; exact p.elim
    | ex c fs rt2 => exact (vOf_noex hv).elim
    | ok y rt2 =>
      rw [hv] at p
      simp only [Ou.bind] at p
      have go : ∀ (Q' : VK), (∀ v Hs' ρ' H', Ext Hs ρ Hs' ρ' → Rel X.K X.w B Hs' ρ' rt2 H' → Den X.K X.w Hs' v y → Q' v H') → t σ H Q' := fun Q' hQ => by
        refine a2 B Hs ρ sl rt σ H _ R S ?_
        rw [hm]
        intro v Hs1 ρ1 H1 e1 R1 d1
        obtain ⟨Hs2, e2, R2, d2⟩ := vOf_ok R1 d1 y rt2 hv
        exact hQ v Hs2 ρ1 H1 (e1.trans e2) R2 d2
      cases y <;> simp only [seqOf] at p <;> first | exact p.elim | skip
      · refine .inr (.inr (go _ fun v Hs' ρ' H' e' R' d' => ?_))
        cases d'
        exact ⟨_, rfl, p _ Hs' ρ' H' e' R' itOk_str⟩
      · refine .inr (.inl (go _ fun v Hs' ρ' H' e' R' d' => ?_))
        cases d' with
        | @tup a vs _ h1 h2 => exact ⟨a, rfl, ⟨vs, SqT.of (R'.same _ _ h1)⟩, p _ Hs' ρ' H' e' R' (itOk_tup (SqT.of h1) h2)⟩
      · refine .inr (.inl (go _ fun v Hs' ρ' H' e' R' d' => ?_))
        cases d' with
        | @ktup a vs _ h1 h2 => exact ⟨a, rfl, ⟨vs, SqT.mono R'.same h1.sqt⟩, p _ Hs' ρ' H' e' R' (itOk_tup h1.sqt h2)⟩
      · refine .inl (go _ fun v Hs' ρ' H' e' R' d' => ?_)
        cases d' with
        | @lst a vs _ h1 h2 => exact ⟨a, rfl, ⟨vs, SqL.of (R'.same _ _ h1)⟩, p _ Hs' ρ' H' e' R' (itOk_list (SqL.of h1) h2)⟩
      · refine .inl (go _ fun v Hs' ρ' H' e' R' d' => ?_)
        cases d' with
        | @fz a vs _ h1 h2 => exact ⟨a, rfl, ⟨vs, SqL.mono R'.same h1⟩, p _ Hs' ρ' H' e' R' (itOk_list h1 h2)⟩
/-- range(n), range(a, b), range(a, b, c) -/
def rangeD (lo : Int) (n : Nat) : List D := (List.range n).map fun (i : Nat) => .int (lo + (i : Int))
def itRng (ms : Ex (List W)) : Ex (List D) := fun sl rt => (ms sl rt).bind fun ws rt => match ws with
  | [.d (.int j)] => if -1000000000000 ≤ j ∧ j ≤ 1000000000000 then .ok (rangeD 0 j.toNat) rt else .no
  | _ => .no
def itRng2 (ms : Ex (List W)) : Ex (List D) := fun sl rt => (ms sl rt).bind fun ws rt => match ws with
  | [.d (.int i), .d (.int j)] => if (-1000000000000 ≤ i ∧ i ≤ 1000000000000) ∧ -1000000000000 ≤ j ∧ j ≤ 1000000000000 then .ok (rangeD i (j - i).toNat) rt else .no
  | _ => .no
theorem vi_range1 (h : VA X Wx [e] ms) (hg : Gl X "range") (hm : X.mg "range" = none) (hs : starEach [e] X.env = [(false, eval e X.env)] := by rfl) : VI X Wx tg (.Call (.Name "range" p) [e] [] pos) (itRng ms) := by
  obtain ⟨t, a1, a2⟩ := h.ex
  refine ⟨_, pi_range1 hg hm a1 hs, fun B Hs ρ sl rt σ H Q R S q => ?_⟩
  refine a2 B Hs ρ sl rt σ H _ R S (PEx.bind q fun ws rt1 vs Hs1 ρ1 H1 e1 R1 d1 p1 => ?_)
  split at p1
  · obtain ⟨v, rfl, d⟩ := wds1 d1
    cases d
    rename_i j
    split at p1
    · rename_i hj
      exact ⟨j, rfl, by omega, by omega, p1 _ Hs1 ρ1 H1 Ext.refl R1 (itOk_fn walk_range)⟩
    · exact p1.elim
  · exact p1.elim
theorem vi_range2 (h : VA X Wx [e, e2] ms) (hg : Gl X "range") (hm : X.mg "range" = none) (hs : starEach [e, e2] X.env = [(false, eval e X.env), (false, eval e2 X.env)] := by rfl) (hs2 : starEach [e2] X.env = [(false, eval e2 X.env)] := by rfl) :
    VI X Wx tg (.Call (.Name "range" p) [e, e2] [] pos) (itRng2 ms) := by
  obtain ⟨t, a1, a2⟩ := h.ex
  refine ⟨_, pi_range2 hg hm a1 hs hs2, fun B Hs ρ sl rt σ H Q R S q => ?_⟩
  refine a2 B Hs ρ sl rt σ H _ R S (PEx.bind q fun ws rt1 vs Hs1 ρ1 H1 e1 R1 d1 p1 => ?_)
  split at p1
  · obtain ⟨v, u, rfl, d, d'⟩ := wds2 d1
    cases d; cases d'
    rename_i i j
    split at p1
    · rename_i hj
      exact ⟨i, j, rfl, by omega, p1 _ Hs1 ρ1 H1 Ext.refl R1 (itOk_fn walk_range)⟩
    · exact p1.elim
  · exact p1.elim
/-- enumerate(xs), zip(xs, ys) -/
def enumD : Int → List D → List D
  | _, [] => []
  | i, x :: xs => .tup [.int i, x] :: enumD (i + 1) xs
def zipD (xs ys : List D) : List D := (xs.zip ys).map fun p => .tup [p.1, p.2]
def itEnum (ms : Ex (List W)) : Ex (List D) := fun sl rt => (ms sl rt).bind fun ws rt => (valsOf ws rt).bind fun ys rt => match ys with
  | [.lst xs] => .ok (enumD 0 xs) rt
  | _ => .no
def itZip (ms : Ex (List W)) : Ex (List D) := fun sl rt => (ms sl rt).bind fun ws rt => (valsOf ws rt).bind fun ys rt => match ys with
  | [.lst xs, .lst zs] => .ok (zipD xs zs) rt
  | [.tup xs, .tup zs] => .ok (zipD xs zs) rt
  | [.ktup xs, .tup zs] => .ok (zipD xs zs) rt
  | [.tup xs, .ktup zs] => .ok (zipD xs zs) rt
  | [.ktup xs, .ktup zs] => .ok (zipD xs zs) rt
  | _ => .no
theorem enumD_get : ∀ {xs : List D} {k : Int} {i : Nat}, (enumD k xs)[i]? = (xs[i]?).map fun x => .tup [.int (k + i), x]
  | [], _, _ => by simp [enumD]
  | x :: xs, k, 0 => by simp [enumD]
  | x :: xs, k, i + 1 => by
    show (enumD (k + 1) xs)[i]? = _
    rw [enumD_get]
    simp only [List.getElem?_cons_succ]
    congr 1
    funext y
    congr 3
    push_cast
    omega
theorem enumD_length : ∀ {xs : List D} {k : Int}, (enumD k xs).length = xs.length
  | [], _ => rfl
  | x :: xs, k => by show (enumD (k + 1) xs).length + 1 = _; rw [enumD_length]; rfl
theorem itOk_pair {K : PySem.W.Frag} {w : World} {Hs : Hp} {J : It} {n : Nat} {G : Hp → Prop} {f g : Nat → Option V} {xs : List D} (hw : Walk J n G (YPair f g)) (hn : xs.length = n) (hG : ∀ H, Same Hs H → G H)
    (hd : ∀ i v u, i < n → f i = some v → g i = some u → ∃ x y, xs[i]? = some (.tup [x, y]) ∧ Den K w Hs v x ∧ Den K w Hs u y) : ItOk K w Hs J xs := by
  refine ⟨G, _, by rw [hn]; exact hw, hG, fun i H v H' hi y Hs1 s1 s2 => ?_⟩
  obtain ⟨T, v1, v2, rfl, hT, rfl, h1, h2⟩ := y
  obtain ⟨x, y, h3, h4, h5⟩ := hd i v1 v2 (by rw [← hn]; exact hi) h1 h2
  have hT1 : Hs1 T = none := by
    cases q : Hs1 T with
    | none => rfl
    | some o => rw [s2 _ _ q] at hT; cases hT
  have s3 := Same.trans' s1 (same_upd (o := HO.tup [v1, v2]) hT1)
  exact ⟨_, h3, .inr ⟨T, _, hT, rfl, .tup upd_same (.cons (h4.mono s3) (.cons (h5.mono s3) .nil))⟩⟩
theorem vi_enum {elts : List Expr} {kk : Nat} (h : VA X Wx [e] ms) (hg : Gl X "enumerate") (hm : X.mg "enumerate" = none) (hs : starEach [e] X.env = [(false, eval e X.env)] := by rfl) : VI X Wx (.Tuple elts kk tpos) (.Call (.Name "enumerate" p) [e] [] pos) (itEnum ms) := by
  obtain ⟨t, a1, a2⟩ := h.ex
  refine ⟨_, pi_enum hg hm a1 hs, fun B Hs ρ sl rt σ H Q R S q => ?_⟩
  refine a2 B Hs ρ sl rt σ H _ R S (PEx.bind q fun ws rt1 vs Hs1 ρ1 H1 e1 R1 d1 p1 => ?_)
  refine PEx.vals R1 d1 p1 fun ys rt2 Hs2 e2 R2 d2 p2 => ?_
  split at p2
  · rename_i xs
    cases d2 with
    | cons d2 d3 =>
      cases d3
      cases d2 with
      | @lst a us _ h1 h2 =>
        refine ⟨a, us, rfl, SqL.of (R2.same _ _ h1), p2 _ Hs2 ρ1 H1 Ext.refl R2 (itOk_pair walk_enum (by rw [enumD_length, h2.length]) (fun H s => SqL.of (s _ _ h1)) fun i v u hi e1 e2 => ?_)⟩
        cases e1
        obtain ⟨x, hx⟩ : ∃ x, xs[i]? = some x := ⟨xs[i]'(by rw [← h2.length]; exact hi), by simp [show i < xs.length by rw [← h2.length]; exact hi]⟩
        obtain ⟨u', e3, d3⟩ := h2.get hx
        rw [e2] at e3
        cases e3
        refine ⟨.int i, x, ?_, .int _, d3⟩
        rw [enumD_get, hx]
        simp
  · exact p2.elim
theorem zipD_get {xs zs : List D} {i : Nat} {x z : D} (h1 : xs[i]? = some x) (h2 : zs[i]? = some z) : (zipD xs zs)[i]? = some (.tup [x, z]) := by
  unfold zipD
  rw [List.getElem?_map, (List.getElem?_zip_eq_some (z := (x, z))).mpr ⟨h1, h2⟩]
  rfl
theorem zip_pairs {K : PySem.W.Frag} {w : World} {Hs : Hp} {us vs : List V} {xs zs : List D} (h1 : Dens K w Hs us xs) (h2 : Dens K w Hs vs zs) (i : Nat) (v u : V) (hi : i < min us.length vs.length) (e1 : us[i]? = some v) (e2 : vs[i]? = some u) :
    ∃ x y, (zipD xs zs)[i]? = some (.tup [x, y]) ∧ Den K w Hs v x ∧ Den K w Hs u y := by
  have l1 : i < xs.length := by rw [← h1.length]; omega
  have l2 : i < zs.length := by rw [← h2.length]; omega
  obtain ⟨v', e3, d3⟩ := h1.get (show xs[i]? = some xs[i] by simp [l1])
  obtain ⟨u', e4, d4⟩ := h2.get (show zs[i]? = some zs[i] by simp [l2])
  rw [e1] at e3
  rw [e2] at e4
  cases e3; cases e4
  exact ⟨_, _, zipD_get (by simp [l1]) (by simp [l2]), d3, d4⟩
theorem zipD_length {K : PySem.W.Frag} {w : World} {Hs : Hp} {us vs : List V} {xs zs : List D} (h1 : Dens K w Hs us xs) (h2 : Dens K w Hs vs zs) : (zipD xs zs).length = min us.length vs.length := by
  unfold zipD
  rw [List.length_map, List.length_zip, h1.length, h2.length]
theorem walk_zipT {K : PySem.W.Frag} {a b : Addr} {xs ys : List V} : Walk (RZ.ItzT K a b) (min xs.length ys.length) (fun H => SqT K H a xs ∧ SqT K H b ys) (YPair (fun i => xs[i]?) (fun i => ys[i]?)) := by
  refine ⟨fun i _ hi q => ?_, fun _ q => ⟨xs, ys, q.1, q.2, by omega⟩, fun i H v H' _ q y => ?_⟩
  · have h1 : i < xs.length := by omega
    have h2 : i < ys.length := by omega
    exact ⟨xs, ys, xs[i], ys[i], q.1, q.2, by simp [h1], by simp [h2]⟩
  · obtain ⟨T, x, z, h1, h2, h3, h4, h5⟩ := y
    exact ⟨T, x, z, h1, h2, h3, h4 xs q.1, h5 ys q.2⟩
theorem vi_zip {elts : List Expr} {kk : Nat} (h : VA X Wx [e, e2] ms) (hg : Gl X "zip") (hm : X.mg "zip" = none)
    (hs : starEach [e, e2] X.env = (false, eval e X.env) :: starEach [e2] X.env := by rfl) (hpl : (backTo pos (starEach [e2] X.env)).any (·.1) = false := by rfl) : VI X Wx (.Tuple elts kk tpos) (.Call (.Name "zip" p) [e, e2] [] pos) (itZip ms) := by
  obtain ⟨t, a1, a2⟩ := h.ex
  refine ⟨_, RZ.pi_zipA hg hm a1 hs hpl, fun B Hs ρ sl rt σ H Q R S q => ?_⟩
  refine a2 B Hs ρ sl rt σ H _ R S (PEx.bind q fun ws rt1 vs Hs1 ρ1 H1 e1 R1 d1 p1 => ?_)
  refine PEx.vals R1 d1 p1 fun ys rt2 Hs2 e2 R2 d2 p2 => ?_
  have tt : ∀ {a b : Addr} {us vs2 : List V} {xs zs : List D}, SqT X.K Hs2 a us → SqT X.K Hs2 b vs2 → Dens X.K X.w Hs2 us xs → Dens X.K X.w Hs2 vs2 zs → vs = [.ref a, .ref b] →
      PEx X.K X.w B Wx Hs2 ρ1 σ (fun h _ J xs => ItOk X.K X.w h J xs) (.ok (zipD xs zs) rt2) Q → ∃ a b xs ys, vs = [.ref a, .ref b] ∧ ((SqL X.K H1 a xs ∧ SqL X.K H1 b ys ∧ Q (Itz X.K a b) H1) ∨ (SqT X.K H1 a xs ∧ SqT X.K H1 b ys ∧ Q (RZ.ItzT X.K a b) H1)) := fun {a b us vs2 xs zs} g1 g2 g3 g4 ev p3 =>
    ⟨a, b, us, vs2, ev, .inr ⟨SqT.mono R2.same g1, SqT.mono R2.same g2, p3 _ Hs2 ρ1 H1 Ext.refl R2 (itOk_pair walk_zipT (zipD_length g3 g4) (fun H s => ⟨SqT.mono s g1, SqT.mono s g2⟩) (zip_pairs g3 g4))⟩⟩
  split at p2
  · cases d2 with
    | cons d2 d3 =>
      cases d3 with
      | cons d3 d4 =>
        cases d4
        cases d2 with
        | @lst a us _ h1 h2 =>
          cases d3 with
          | @lst b vs _ g1 g2 =>
            exact ⟨a, b, us, vs, rfl, .inl ⟨SqL.of (R2.same _ _ h1), SqL.of (R2.same _ _ g1), p2 _ Hs2 ρ1 H1 Ext.refl R2 (itOk_pair (walk_zip rfl) (zipD_length h2 g2) (fun H s => ⟨SqL.of (s _ _ h1), SqL.of (s _ _ g1)⟩) (zip_pairs h2 g2))⟩⟩
  · cases d2 with
    | cons d2 d3 =>
      cases d3 with
      | cons d3 d4 =>
        cases d4
        cases d2 with
        | tup h1 h2 => cases d3 with
          | tup g1 g2 => exact tt (SqT.of h1) (SqT.of g1) h2 g2 rfl p2
  · cases d2 with
    | cons d2 d3 =>
      cases d3 with
      | cons d3 d4 =>
        cases d4
        cases d2 with
        | ktup h1 h2 => cases d3 with
          | tup g1 g2 => exact tt h1.sqt (SqT.of g1) h2 g2 rfl p2
  · cases d2 with
    | cons d2 d3 =>
      cases d3 with
      | cons d3 d4 =>
        cases d4
        cases d2 with
        | tup h1 h2 => cases d3 with
          | ktup g1 g2 => exact tt (SqT.of h1) g1.sqt h2 g2 rfl p2
  · cases d2 with
    | cons d2 d3 =>
      cases d3 with
      | cons d3 d4 =>
        cases d4
        cases d2 with
        | ktup h1 h2 => cases d3 with
          | ktup g1 g2 => exact tt h1.sqt g1.sqt h2 g2 rfl p2
  · exact p2.elim
end

/-! ### comprehensions -/
/-- the reading that a mirror gives -/
def tM (K : PySem.W.Frag) (w : World) (Wx : WX) (m : Ex W) : TE := fun σ H Q => ∃ B Hs ρ sl rt, Rel K w B Hs ρ rt H ∧ SlD K w Hs ρ σ sl ∧ PE1 K w B Wx Hs ρ σ (m sl rt) Q
def tMT (K : PySem.W.Frag) (w : World) (Wx : WX) (m : Ex Bool) : TT := fun σ H Q => ∃ B Hs ρ sl rt, Rel K w B Hs ρ rt H ∧ SlD K w Hs ρ σ sl ∧ PT1 K w B Wx Hs ρ σ (m sl rt) Q
theorem VX.pe {X : Cx} {Wx : WX} {e : Expr} {m : Ex W} (h : VX X Wx e m) : PE X e (tM X.K X.w Wx m) := by
  obtain ⟨t, a1, a2⟩ := h.ex
  exact ⟨fun pins s σ H Q I ⟨B, Hs, ρ, sl, rt, R, S, p⟩ => a1.run pins s σ H Q I (a2 B Hs ρ sl rt σ H Q R S p)⟩
structure VTs (X : Cx) (Wx : WX) (ifs : List Expr) (m : Ex Bool) : Prop where
  ex : ∃ t, PTs X ifs t ∧ ∀ (B : Bnd) (Hs : Hp) (ρ : List Addr) (sl : Sl) (rt : List O) (σ : L2.St) (H : Hp) (Q : Bool → Hp → Prop), Rel X.K X.w B Hs ρ rt H → SlD X.K X.w Hs ρ σ sl → PT1 X.K X.w B Wx Hs ρ σ (m sl rt) Q → t σ H Q
theorem VTs.pts {X : Cx} {Wx : WX} {e : List Expr} {m : Ex Bool} (h : VTs X Wx e m) : PTs X e (tMT X.K X.w Wx m) := by
  obtain ⟨t, a1, a2⟩ := h.ex
  exact ⟨fun pins s σ H Q I ⟨B, Hs, ρ, sl, rt, R, S, p⟩ => a1.run pins s σ H Q I (a2 B Hs ρ sl rt σ H Q R S p)⟩
def eYes : Ex Bool := fun _ rt => .ok true rt
theorem vts_nil {X : Cx} {Wx : WX} : VTs X Wx [] eYes := ⟨_, pts_nil, fun B Hs ρ sl rt σ H Q R S p => p true Hs ρ H Ext.refl R rfl⟩
theorem vts_one {X : Cx} {Wx : WX} {c : Expr} {m : Ex Bool} (h : VT X Wx c m) : VTs X Wx [c] m := by
  obtain ⟨t, a1, a2⟩ := h.ex
  exact ⟨_, pts_one a1, a2⟩
/-- a target of names alone, their slots among vs -/
structure VGc (X : Cx) (vs : List Nat) (tg : Expr) (m : Gx) : Prop where
  ex : ∃ g, PG X tg g ∧ ∀ (B : Bnd) (Hs : Hp) (ρ : List Addr) (x : W) (v : V) (sl : Sl) (rt : List O) (σ : L2.St) (H : Hp) (Q : L2.St → Hp → Prop), Rel X.K X.w B Hs ρ rt H → SlD X.K X.w Hs ρ σ sl → WD X.K X.w Hs ρ v x →
    ∀ sl' rt', m x sl rt = .ok sl' rt' → (∀ σ', SlD X.K X.w Hs ρ σ' sl' → wipe σ' vs = wipe σ vs → rt' = rt → Q σ' H) → g v σ H Q
structure VGcs (X : Cx) (vs : List Nat) (tgs : List Expr) (m : List D → Ex Sl) : Prop where
  ex : ∃ g, PGs X tgs g ∧ ∀ (B : Bnd) (Hs : Hp) (ρ : List Addr) (xs : List D) (us : List V) (sl : Sl) (rt : List O) (σ : L2.St) (H : Hp) (Q : L2.St → Hp → Prop), Rel X.K X.w B Hs ρ rt H → SlD X.K X.w Hs ρ σ sl → Dens X.K X.w Hs us xs →
    ∀ sl' rt', m xs sl rt = .ok sl' rt' → (∀ σ', SlD X.K X.w Hs ρ σ' sl' → wipe σ' vs = wipe σ vs → rt' = rt → Q σ' H) → g us σ H Q
theorem wipe_get {σ : L2.St} {i : Nat} : ∀ {vs : List Nat}, (wipe σ vs)[i]? = if i ∈ vs ∧ i < σ.length then some none else σ[i]?
  | [] => by simp [wipe]
  | v :: vs => by
    unfold wipe
    by_cases h : v = i
    · subst h
      by_cases hl : v < σ.length
      · rw [List.getElem?_set_self (by rw [wipe_length]; exact hl), if_pos ⟨List.mem_cons_self, hl⟩]
      · rw [if_neg (fun z => hl z.2), List.getElem?_eq_none (by simp [wipe_length]; omega), List.getElem?_eq_none (by omega)]
    · rw [List.getElem?_set_ne h, wipe_get]
      by_cases hm : i ∈ vs ∧ i < σ.length
      · rw [if_pos hm, if_pos ⟨List.mem_cons_of_mem _ hm.1, hm.2⟩]
      · rw [if_neg hm, if_neg]
        rintro ⟨h1, h2⟩
        rcases List.mem_cons.mp h1 with h1 | h1
        · exact h h1.symm
        · exact hm ⟨h1, h2⟩
theorem wipe_set {σ : L2.St} {i : Nat} {o : Option V} {vs : List Nat} (h : i ∈ vs) : wipe (σ.set i o) vs = wipe σ vs := by
  refine List.ext_getElem? fun j => ?_
  rw [wipe_get, wipe_get, List.length_set]
  by_cases hj : i = j
  · subst hj
    by_cases hl : i < σ.length
    · rw [if_pos ⟨h, hl⟩, if_pos ⟨h, hl⟩]
    · rw [if_neg (fun z => hl z.2), if_neg (fun z => hl z.2), List.getElem?_eq_none (by simp; omega), List.getElem?_eq_none (by omega)]
  · rw [List.getElem?_set_ne hj]
section
variable {X : Cx} {vs : List Nat} {e : Expr} {es : List Expr} {pos : Pos} {m : Gx} {ms : List D → Ex Sl}
theorem vgc_name (i : Nat) {x : Str} (hv : i ∈ vs) (hN : X.N.Nodup) (hi : X.N[i]? = some x) (hx : Loc X.env.scope x) (hf : X.fn x = true ∨ X.env.scope.names.lookup x = some .local := by first | exact .inl rfl | exact .inr rfl | assumption) : VGc X vs (.Name x pos) (gN i) :=
  ⟨_, pg_name hN hi hx hf, fun B Hs ρ x v sl rt σ H Q R S d sl' rt' e h => by
    cases e
    exact h _ (S.set i d) (wipe_set hv) rfl⟩
theorem vgcs_nil : VGcs X vs [] gNil' := ⟨_, pgs_nil, fun B Hs ρ xs us sl rt σ H Q R S d sl' rt' e h => by
  cases d with
  | nil => cases e; exact ⟨rfl, h _ S rfl rfl⟩
  | cons _ _ => cases e⟩
theorem vgcs_cons (h1 : VGc X vs e m) (h2 : VGcs X vs es ms) (hs : (assignEach (e :: es) X.env).map (·.2) = assign e X.env :: (assignEach es X.env).map (·.2) := by rfl) : VGcs X vs (e :: es) (gCons' m ms) := by
  obtain ⟨g, a1, a2⟩ := h1.ex
  obtain ⟨u, b1, b2⟩ := h2.ex
  refine ⟨_, pgs_cons a1 b1 hs, fun B Hs ρ xs us sl rt σ H Q R S d sl' rt' ee h => ?_⟩
  cases d with
  | nil => cases ee
  | @cons v x us xs d ds =>
    unfold gCons' at ee
    simp only at ee
    cases h3 : m (.d x) sl rt with
    | no => rw [h3] at ee; cases ee
    | ex c fs rt1 => rw [h3] at ee; cases ee
    | ok sl1 rt1 =>
      rw [h3] at ee
      simp only [Ou.bind] at ee
      cases h4 : ms xs sl1 rt1 with
      | no => rw [h4] at ee; cases ee
      | ex c fs rt2 => rw [h4] at ee; cases ee
      | ok sl2 rt2 =>
        rw [h4] at ee
        cases ee
        refine ⟨v, us, rfl, a2 B Hs ρ (.d x) v sl rt σ H _ R S d sl1 rt1 h3 fun σ1 S1 w1 er1 => ?_⟩
        subst er1
        refine b2 B Hs ρ xs us sl1 rt1 σ1 H Q R S1 ds _ _ h4 fun σ2 S2 w2 er2 => ?_
        exact h σ2 S2 (w2.trans w1) er2
theorem vgc_tup {k : Nat} {n : Nat} (hc : X.calm = true) (h : VGcs X vs es ms) (hn : (assignEach es X.env).length = n := by rfl) (hst : (assignEach es X.env).findIdx? (·.1) = none := by rfl) : VGc X vs (.Tuple es k pos) (gT n ms) := by
  obtain ⟨g, a1, a2⟩ := h.ex
  refine ⟨_, pg_tup hc a1 hn hst, fun B Hs ρ x v sl rt σ H Q R S d sl' rt' e hq => ?_⟩
  cases x with
  | r _ => cases e
  | d x =>
    cases x <;> first | cases e | skip
    · rename_i xs
      cases d with
      | @tup a us _ h1 h2 =>
        unfold gT at e
        by_cases hl : xs.length = n
        · simp only [hl, if_true] at e
          exact ⟨a, us, rfl, SqT.of (R.same _ _ h1), h2.length.trans hl, a2 B Hs ρ xs us sl rt σ H Q R S h2 sl' rt' e hq⟩
        · simp only [hl, if_false] at e
          cases e
    · rename_i xs
      cases d with
      | @ktup a us _ h1 h2 =>
        unfold gT at e
        by_cases hl : xs.length = n
        · simp only [hl, if_true] at e
          exact ⟨a, us, rfl, SqT.mono R.same h1.sqt, h2.length.trans hl, a2 B Hs ρ xs us sl rt σ H Q R S h2 sl' rt' e hq⟩
        · simp only [hl, if_false] at e
          cases e
end
theorem VGc.vg {X : Cx} {Wx : WX} {vs : List Nat} {tg : Expr} {m : Gx} (h : VGc X vs tg m) (hl : ∀ x sl rt sl' rt', m x sl rt = .ok sl' rt' → sl'.length = sl.length) (hx : ∀ x sl rt c fs rt', m x sl rt ≠ .ex c fs rt') : VG X Wx tg m := by
  obtain ⟨g, a1, a2⟩ := h.ex
  refine ⟨g, a1, fun B Hs ρ x v sl rt σ H Q R S d p => ?_⟩
  cases e : m x sl rt with
  | no => rw [e] at p; exact p.elim
  | ex c fs rt' => exact (hx _ _ _ _ _ _ e).elim
  | ok sl' rt' =>
    rw [e] at p
    refine a2 B Hs ρ x v sl rt σ H Q R S d sl' rt' e fun σ' S' _ er => ?_
    subst er
    exact p σ' Hs ρ H Ext.refl R ⟨S', by rw [S'.len, S.len, hl _ _ _ _ _ e]⟩
def gM (K : PySem.W.Frag) (w : World) (vs : List Nat) (m : Gx) : TG := fun v σ H Q => ∃ B Hs ρ x sl rt sl' rt', Rel K w B Hs ρ rt H ∧ SlD K w Hs ρ σ sl ∧ WD K w Hs ρ v x ∧ m x sl rt = .ok sl' rt' ∧ ∀ σ', SlD K w Hs ρ σ' sl' → wipe σ' vs = wipe σ vs → rt' = rt → Q σ' H
theorem VGc.pg {X : Cx} {vs : List Nat} {tg : Expr} {m : Gx} (h : VGc X vs tg m) : PG X tg (gM X.K X.w vs m) := by
  obtain ⟨g, a1, a2⟩ := h.ex
  exact ⟨fun pins s σ H v u Q I r ⟨B, Hs, ρ, x, sl, rt, sl', rt', R, S, d, e, q⟩ => a1.run pins s σ H v u Q I r (a2 B Hs ρ x v sl rt σ H Q R S d sl' rt' e q)⟩
/-- the turns of a comprehension; its list is the root d -/
def compL (vs : List Nat) (d : Nat) (g : Gx) (tt : Ex Bool) (el : Ex W) (sl : Sl) : List D → List O → Ou Unit
  | [], rt => .ok () rt
  | x :: xs, rt => (g (.d x) (kill vs sl) rt).noex.bind fun sl1 rt => (tt sl1 rt).noex.bind fun b rt => if b = true then (el sl1 rt).noex.bind fun y rt => (vOf y rt).bind fun z rt => match rt[d]? with
      | some (.lst acc) => if acc.length < 16000000 ∧ tkOk (d + 1) ((rt.set d (.lst (acc ++ [z]))).take (d + 1)) = true then compL vs d g tt el sl xs ((rt.set d (.lst (acc ++ [z]))).take (d + 1)) else .no
      | _ => .no
    else if tkOk (d + 1) (rt.take (d + 1)) = true then compL vs d g tt el sl xs (rt.take (d + 1)) else .no
def eComp (vs : List Nat) (it : Ex (List D)) (g : Gx) (tt : Ex Bool) (el : Ex W) : Ex W := fun sl rt => (it sl rt).bind fun xs rt => (compL vs rt.length g tt el sl xs (rt ++ [.lst []])).bind fun _ rt' => .ok (.r rt.length) rt'
abbrev WF : WX := fun _ _ _ _ => False
end VE

set_option maxRecDepth 100000
set_option maxHeartbeats 1000000
namespace VE
open PySem PySem.Spec L2
theorem SlD.wipe {K : PySem.W.Frag} {w : World} {Hs : Hp} {ρ : List Addr} {σ : L2.St} {sl : Sl} (h : SlD K w Hs ρ σ sl) (vs : List Nat) : SlD K w Hs ρ (wipe σ vs) (VE.kill vs sl) := by
  have h2 := h.kill vs
  refine ⟨by rw [wipe_length]; exact h2.len, fun i x e => ?_⟩
  obtain ⟨v, e1, d⟩ := h2.at_ i x e
  refine ⟨v, ?_, d⟩
  rw [wipe_get, if_neg]
  · exact e1
  · rintro ⟨hm, _⟩
    have kill_none : ∀ (vs : List Nat) (sl : Sl) (i : Nat), i ∈ vs → ∀ x, (VE.kill vs sl)[i]? ≠ some (some x) := by
      intro vs
      induction vs with
      | nil => intro sl i hi; cases hi
      | cons k ks ih =>
        intro sl i hi x e
        have keep : ∀ (ks : List Nat) (sl : Sl) (i : Nat), (∀ x, sl[i]? ≠ some (some x)) → ∀ x, (VE.kill ks sl)[i]? ≠ some (some x) := by
          intro ks
          induction ks with
          | nil => intro sl i h; exact h
          | cons k ks ih2 =>
            intro sl i h
            refine ih2 _ i fun x e => ?_
            by_cases hk : k = i
            · subst hk
              by_cases hl : k < sl.length
              · rw [List.getElem?_set_self hl] at e; cases e
              · rw [List.getElem?_eq_none (by simp; omega)] at e; cases e
            · rw [List.getElem?_set_ne hk] at e
              exact h x e
        by_cases hk : k = i
        · subst hk
          refine keep ks (sl.set k none) k (fun x e => ?_) x e
          by_cases hl : k < sl.length
          · rw [List.getElem?_set_self hl] at e; cases e
          · rw [List.getElem?_eq_none (by simp; omega)] at e; cases e
        · rcases List.mem_cons.mp hi with h | h
          · exact hk h.symm
          · exact ih (sl.set k none) i h x e
    exact kill_none vs sl i hm x e
section
variable {X : Cx} {Wx : WX} {elt tg iter : Expr} {ifs : List Expr} {scope : Scope} {own : List (Str × Nat)} {pos : Pos} {it : Ex (List D)} {g : Gx} {mt : Ex Bool} {me : Ex W}
/-- the reading of a comprehension from its mirror -/
theorem tk_lt {L : Nat} {rt : List O} (h : tkOk L rt = true) : ∀ n p, O.vw n p ∈ rt → n < L := fun n p hm => by simpa using List.all_eq_true.mp h _ hm
theorem comp_ok {wi : TI} (i2 : ∀ (B : Bnd) (Hs : Hp) (ρ : List Addr) (sl : Sl) (rt : List O) (σ : L2.St) (H : Hp) (Q : It → Hp → Prop), Rel X.K X.w B Hs ρ rt H → SlD X.K X.w Hs ρ σ sl → PEx X.K X.w B Wx Hs ρ σ (fun h _ J xs => ItOk X.K X.w h J xs) (it sl rt) Q → wi σ H Q)
    (vs : List Nat) (B : Bnd) (Hs : Hp) (ρ : List Addr) (sl : Sl) (rt : List O) (σ : L2.St) (H : Hp) (Q : VK) (R : Rel X.K X.w B Hs ρ rt H) (S : SlD X.K X.w Hs ρ σ sl) (p : PE1 X.K X.w B Wx Hs ρ σ (eComp vs it g mt me sl rt) Q) :
    tLc wi (gM X.K X.w vs g) (tMT X.K X.w WF mt) (tM X.K X.w WF me) vs σ H Q := by
  refine i2 B Hs ρ sl rt σ H _ R S (PEx.bind p fun xs rt1 J Hs1 ρ1 H1 e1 R1 d1 p1 => ?_)
  obtain ⟨G, Y, hw, hG, hY⟩ := d1.ex
  intro D hD
  have R2 := R1.push (o := .lst []) (u := .lst []) hD (.lst upd_same .nil)
  have S1 := S.mono e1
  -- the state between turns: the list's root is the last one
  refine lc_it hw (fun i H' => ∃ Hs' rt' acc, Same Hs1 Hs' ∧ Rel X.K X.w B Hs' (ρ1 ++ [D]) (rt' ++ [acc]) H' ∧ rt'.length = rt1.length ∧
      PE1 X.K X.w B Wx Hs1 ρ1 σ ((compL vs rt1.length g mt me sl (xs.drop i) (rt' ++ [acc])).bind fun _ rt'' => .ok (.r rt1.length) rt'') Q)
    ⟨Hs1, rt1, .lst [], Same.rfl', R2, rfl, by rw [List.drop_zero]; exact p1⟩ (fun i H' _ ⟨Hs', rt', acc, s2, R3, _⟩ => hG H' (Same.trans' s2 R3.same)) ?_ ?_
  · rintro i v H' H2 hi ⟨Hs', rt', acc, s2, R3, hlen, p2⟩ y
    obtain ⟨x, hx, hd⟩ := hY i H' v H2 hi y Hs' s2 R3.same
    have hdrop : xs.drop i = x :: xs.drop (i + 1) := by
      obtain ⟨q1, q2⟩ := List.getElem?_eq_some_iff.mp hx
      rw [List.drop_eq_getElem_cons q1, q2]
    obtain ⟨Hs3, e3, R4, d3⟩ : ∃ Hs3, Same Hs' Hs3 ∧ Rel X.K X.w B Hs3 (ρ1 ++ [D]) (rt' ++ [acc]) H2 ∧ Den X.K X.w Hs3 v x := by
      rcases hd with ⟨rfl, hd⟩ | ⟨T, o, hT, rfl, hd⟩
      · exact ⟨Hs', Same.rfl', R3, hd⟩
      · exact ⟨upd Hs' T o, same_upd (R3.fresh hT).1, R3.alloc hT, hd⟩
    rw [hdrop] at p2
    unfold compL at p2
    have S3 : SlD X.K X.w Hs3 (ρ1 ++ [D]) (wipe σ vs) (kill vs sl) := (S1.wipe vs).mono ⟨Same.trans' s2 e3, [D], rfl⟩
    have s13 := Same.trans' s2 e3
    cases hg : g (.d x) (kill vs sl) (rt' ++ [acc]) with
    | no => rw [hg] at p2; exact p2.elim
    | ex c fs rt4 => rw [hg] at p2; exact p2.elim
    | ok sl4 rt4 =>
      rw [hg] at p2
      simp only [Ou.noex, Ou.bind] at p2
      refine ⟨B, Hs3, _, .d x, _, _, sl4, rt4, R4, S3, d3, hg, fun σ4 S4 w4 er => ?_⟩
      subst er
      have ww : wipe (wipe σ vs) vs = wipe σ vs := by
        refine List.ext_getElem? fun j => ?_
        rw [wipe_get, wipe_get, wipe_length]
        by_cases hj : j ∈ vs ∧ j < σ.length
        · rw [if_pos hj, if_pos hj]
        · rw [if_neg hj, if_neg hj]
      refine ⟨w4.trans ww, ?_⟩
      refine ⟨B, Hs3, _, sl4, _, R4, S4, ?_⟩
      -- the tests
      cases ht : mt sl4 (rt' ++ [acc]) with
      | no => rw [ht] at p2; exact p2.elim
      | ex c fs rt5 => rw [ht] at p2; exact p2.elim
      | ok b rt5 =>
        rw [ht] at p2
        simp only [Ou.bind] at p2
        intro b' Hs5 ρ5 H5 e5 R5 eb
        subst eb
        have hext : ∃ t5, ρ5 = ρ1 ++ (D :: t5) := by
          obtain ⟨_, t, rfl⟩ := e5
          exact ⟨t, by simp⟩
        obtain ⟨t5, rfl⟩ := hext
        have hl5 : rt1.length + 1 ≤ rt5.length := by
          have := R5.len
          rw [List.length_append, List.length_cons, R1.len] at this
          omega
        have takeρ : ∀ t : List Addr, (ρ1 ++ (D :: t)).take (rt1.length + 1) = ρ1 ++ [D] := fun t => by
          rw [← R1.len, List.take_append, List.take_of_length_le (Nat.le_succ _)]
          simp
        have dAt : ∀ t : List Addr, (ρ1 ++ (D :: t))[rt1.length]? = some D := fun t => by
          rw [← R1.len, List.getElem?_append_right (Nat.le_refl _), Nat.sub_self]
          rfl
        cases b' with
        | false =>
          rw [if_neg Bool.false_ne_true]
          simp only [Bool.false_eq_true, if_false] at p2
          by_cases htk : tkOk (rt1.length + 1) (rt5.take (rt1.length + 1)) = true
          · rw [if_pos htk] at p2
            have R6 := R5.take (k := rt1.length + 1) hl5 (tk_lt htk)
            rw [takeρ] at R6
            obtain ⟨rt6, o6, h6⟩ : ∃ rt6 o6, rt5.take (rt1.length + 1) = rt6 ++ [o6] ∧ rt6.length = rt1.length := by
              refine ⟨rt5.take rt1.length, rt5[rt1.length]'(by omega), ?_, by rw [List.length_take]; omega⟩
              rw [List.take_succ_eq_append_getElem]
            rw [h6.1] at R6 p2
            exact ⟨Hs5, rt6, o6, Same.trans' s13 e5.same, R6, h6.2, p2⟩
          · rw [if_neg htk] at p2
            exact p2.elim
        | true =>
          rw [if_pos rfl]
          simp only [if_true] at p2
          refine ⟨B, Hs5, _, sl4, rt5, R5, S4.mono e5, ?_⟩
          cases he : me sl4 rt5 with
          | no => rw [he] at p2; exact p2.elim
          | ex c fs rt7 => rw [he] at p2; exact p2.elim
          | ok y rt7 =>
            rw [he] at p2
            simp only [Ou.bind] at p2
            intro u Hs7 ρ7 H7 e7 R7 d7
            obtain ⟨t7, rfl⟩ : ∃ t7, ρ7 = ρ1 ++ (D :: t7) := by
              obtain ⟨_, t, rfl⟩ := e7
              exact ⟨t5 ++ t, by simp⟩
            cases hv : vOf y rt7 with
            | no => rw [hv] at p2; exact p2.elim
            | ex c fs rt8 => exact (vOf_noex hv).elim
            | ok z rt8 =>
              rw [hv] at p2
              simp only [Ou.bind] at p2
              obtain ⟨Hs8, e8, R8, d8⟩ := vOf_ok R7 d7 z rt8 hv
              cases hr : rt8[rt1.length]? with
              | none => simp only [hr] at p2; exact p2.elim
              | some o =>
                cases o <;> simp only [hr] at p2 <;> first | exact p2.elim | skip
                rename_i acc8
                obtain ⟨a8, us8, ea, h8, dd8, w8⟩ := live_lst (v := .ref D) R8 ⟨D, dAt t7, rfl⟩ (show rd rt8 rt1.length = some (.lst acc8) by unfold rd; rw [hr])
                cases ea
                by_cases hlt : acc8.length < 16000000 ∧ tkOk (rt1.length + 1) ((rt8.set rt1.length (.lst (acc8 ++ [z]))).take (rt1.length + 1)) = true
                · rw [if_pos hlt] at p2
                  refine ⟨us8, h8, lim_lt (by rw [dd8.length]; exact hlt.1), ?_⟩
                  have R9 := w8 (us8 ++ [u]) (acc8 ++ [z]) (dd8.append (.cons d8 .nil))
                  rw [show wr rt8 rt1.length (.lst (acc8 ++ [z])) = rt8.set rt1.length (.lst (acc8 ++ [z])) by unfold wr; rw [hr]] at R9
                  have hl8 : rt1.length + 1 ≤ rt8.length := (List.getElem?_eq_some_iff.mp hr).1
                  have R10 := R9.take (k := rt1.length + 1) (by simpa using hl8) (tk_lt hlt.2)
                  rw [takeρ] at R10
                  have hcut : (rt8.set rt1.length (.lst (acc8 ++ [z]))).take (rt1.length + 1) = rt8.take rt1.length ++ [.lst (acc8 ++ [z])] := by
                    rw [List.take_succ, List.getElem?_set_self (by omega), List.take_set_of_le (Nat.le_refl _)]
                    rfl
                  rw [hcut] at R10 p2
                  exact ⟨Hs8, rt8.take rt1.length, .lst (acc8 ++ [z]), Same.trans' s13 (Same.trans' e5.same (Same.trans' e7.same e8.same)), R10, by rw [List.length_take]; omega, p2⟩
                · rw [if_neg hlt] at p2
                  exact p2.elim
  · rintro H' ⟨Hs', rt', acc, s2, R3, hlen, p2⟩
    rw [List.drop_eq_nil_of_le (Nat.le_refl _)] at p2
    exact p2 (.ref D) Hs' _ H' ⟨s2, [D], rfl⟩ R3 ⟨D, by rw [← R1.len, List.getElem?_append_right (Nat.le_refl _), Nat.sub_self]; rfl, rfl⟩
theorem vx_comp (vs : List Nat) (hc : X.calm = true) (hN : X.N.Nodup) (hi : VI X Wx tg iter it) (ok : BlkOk X.N X.env.scope scope own) (hv : own.map (·.2) = vs := by rfl)
    (hg : ∀ (s : Shared) (H : Hp) (C : Addr) (cl : List (Str × Addr)) (fp : List Addr), VGc (X.blk s H scope (compEnvC scope cl C X.env) fp) vs tg g) (ht : ∀ (s : Shared) (H : Hp) (C : Addr) (cl : List (Str × Addr)) (fp : List Addr), VTs (X.blk s H scope (compEnvC scope cl C X.env) fp) WF ifs mt)
    (he : ∀ (s : Shared) (H : Hp) (C : Addr) (cl : List (Str × Addr)) (fp : List Addr), VX (X.blk s H scope (compEnvC scope cl C X.env) fp) WF elt me) (hs : ∀ x, foldedSetIterable iter X.env x = pure x := by intro _; rfl) :
    VX X Wx (.ListComp elt [⟨tg, iter, ifs, 0⟩] scope pos) (eComp vs it g mt me) := by
  subst hv
  obtain ⟨wi, i1, i2⟩ := hi.ex
  exact vx_pe (pe_lc hc hN i1 ok (fun s H C cl fp => (hg s H C cl fp).pg) (fun s H C cl fp => (ht s H C cl fp).pts) (fun s H C cl fp => (he s H C cl fp).pe) hs) (comp_ok i2 _)
theorem vs_setComp (vs : List Nat) {i : Nat} {y : Str} {py spos : Pos} (hc : X.calm = true) (hN : X.N.Nodup) (hy : X.N[i]? = some y) (hyl : X.env.scope.names.lookup y = some .local)
    (hsw : swapsWith (.ListComp elt [⟨tg, iter, ifs, 0⟩] scope pos) (some (.Name y py)) spos.line X.env = pure true) (hi : VI X Wx tg iter it) (ok : BlkOk X.N X.env.scope scope own) (hv : own.map (·.2) = vs := by rfl)
    (hg : ∀ (s : Shared) (H : Hp) (C : Addr) (cl : List (Str × Addr)) (fp : List Addr), VGc (X.blk s H scope (compEnvC scope cl C X.env) fp) vs tg g) (ht : ∀ (s : Shared) (H : Hp) (C : Addr) (cl : List (Str × Addr)) (fp : List Addr), VTs (X.blk s H scope (compEnvC scope cl C X.env) fp) WF ifs mt)
    (he : ∀ (s : Shared) (H : Hp) (C : Addr) (cl : List (Str × Addr)) (fp : List Addr), VX (X.blk s H scope (compEnvC scope cl C X.env) fp) WF elt me) (hs : ∀ x, foldedSetIterable iter X.env x = pure x := by intro _; rfl) :
    VS X Wx (.Assign [.Name y py] (.ListComp elt [⟨tg, iter, ifs, 0⟩] scope pos) spos) (sSet i (eComp vs it g mt me)) := by
  subst hv
  obtain ⟨wi, i1, i2⟩ := hi.ex
  refine ⟨_, ps_setLc (g := gM X.K X.w _ g) (tt := tMT X.K X.w WF mt) (te := tM X.K X.w WF me) hc hN hy hyl hsw i1 ok (fun s H C cl fp => (hg s H C cl fp).pg) (fun s H C cl fp => (ht s H C cl fp).pts) (fun s H C cl fp => (he s H C cl fp).pe) hs, fun B Hs ρ sl rt σ H D R S p => ?_⟩
  refine comp_ok i2 _ B Hs ρ sl rt σ H _ R S (PEx.seq S p fun x rt1 v Hs1 ρ1 H1 e1 R1 d1 p1 => ?_)
  exact p1 Hs1 ρ1 _ H1 Ext.refl R1 ((S.mono e1).set i d1) (by simp)
end
end VE

set_option maxRecDepth 100000
set_option maxHeartbeats 1000000
namespace VE
open PySem PySem.Spec L2

/-! ### a def that is called: its promise, told for its name -/
structure Cal (P : Program) (w : World) (K : PySem.W.Frag) (mg : Str → Option Value) (base : Heap) (k : Nat) (x : Str) (ps : List Str) (m : FM) : Prop where
  ex : ∃ (f : Addr) (fd : FuncData), FnOk P w K mg base (L2.CX P w) k f fd ps (spV K w m ps.length) ∧ mg x = some (.ref f) ∧ PySem.W.keepIn K (.ref f) = true ∧ Binds K fd ps []
theorem Cal.le {P : Program} {w : World} {K : PySem.W.Frag} {mg : Str → Option Value} {base : Heap} {j k : Nat} {x : Str} {ps : List Str} {m : FM} (C : Cal P w K mg base j x ps m) (h : j ≤ k) : Cal P w K mg base k x ps m := by
  obtain ⟨f, fd, h1, h2⟩ := C.ex
  exact ⟨f, fd, h1.mono h, h2⟩
section
variable {X : Cx} {Wx : WX} {e : Expr} {es : List Expr} {ms : Ex (List W)} {pos p : Pos} {k j : Nat} {x : Str} {ps : List Str} {fm : FM}
theorem vx_fn (C : Cal X.prog X.w X.K X.mg X.base j x ps fm) (hr : Room k X.A) (hj : j ≤ k) (hg : Gl X x) (tk : Takes X Wx) (ha : VA X Wx (e :: es) ms) (hdb : (x == ("__debug__" : Str)) = false := by decide)
    (he : starEach (e :: es) X.env = (false, eval e X.env) :: starEach es X.env := by rfl) (hpl : (backTo pos (starEach es X.env)).any (·.1) = false := by rfl) {np : Nat} (hl : ps.length = np := by rfl) :
    VX X Wx (.Call (.Name x p) (e :: es) [] pos) (eCall fm np ms) := by
  subst hl
  obtain ⟨f, fd, h1, h2, h3, h4⟩ := C.ex
  exact vx_call h1 (hr.mono hj) hg h2 h3 h4 tk ha hdb he hpl
theorem vx_fn0 (C : Cal X.prog X.w X.K X.mg X.base j x [] fm) (hr : Room k X.A) (hj : j ≤ k) (hg : Gl X x) (hdb : (x == ("__debug__" : Str)) = false := by decide) :
    VX X Wx (.Call (.Name x p) [] [] pos) (eCall0 fm) := by
  obtain ⟨f, fd, h1, h2, h3, h4⟩ := C.ex
  exact vx_call0 h1 (hr.mono hj) hg h2 h3 h4 hdb
end

section
variable {X : Cx} {Wx : WX} {a b c e : Expr} {pos : Pos} {ma mb mc m : Ex W}
/-! ### -e, a < b < c -/
def eNeg (m : Ex W) : Ex W := fun sl rt => (m sl rt).bind fun x rt => match x with
  | .d (.int i) => .ok (.d (.int (-i))) rt
  | _ => .no
theorem vx_neg (ha : VX X Wx a ma) : VX X Wx (.UnaryOp .USub a pos) (eNeg ma) := by
  obtain ⟨t, a1, a2⟩ := ha.ex
  refine vx_pe (pe_un un_neg a1) fun B Hs ρ sl rt σ H Q R S p => ?_
  refine a2 B Hs ρ sl rt σ H _ R S (PEx.bind p fun x rt1 v Hs1 ρ1 H1 e1 R1 d1 p1 => ?_)
  split at p1
  · cases d1
    exact ⟨_, rfl, p1 _ Hs1 ρ1 H1 Ext.refl R1 (.int _)⟩
  · exact p1.elim
def eChain (g g' : W → W → List O → Ou W) (ma mb mc : Ex W) : Ex W := fun sl rt => (ma sl rt).bind fun x rt => (mb sl rt).bind fun y rt => (g x y rt).bind fun z rt => match z with
  | .d (.bl b) => if b = true then (mc sl rt).bind fun u rt => g' y u rt else .ok (.d (.bl false)) rt
  | _ => .no
theorem chain_ok {r r' : R2} {g g' : W → W → List O → Ou W} {ta tb tc : TE} 
    (hr : ∀ (Wx : WX) (B : Bnd) (Hs : Hp) (ρ : List Addr) (rt : List O) (σ : L2.St) (H : Hp) (Q : VK) (x y : W) (v u : V), Rel X.K X.w B Hs ρ rt H → WD X.K X.w Hs ρ v x → WD X.K X.w Hs ρ u y → PE1 X.K X.w B Wx Hs ρ σ (g x y rt) Q → r v u H Q)
    (hr' : ∀ (Wx : WX) (B : Bnd) (Hs : Hp) (ρ : List Addr) (rt : List O) (σ : L2.St) (H : Hp) (Q : VK) (x y : W) (v u : V), Rel X.K X.w B Hs ρ rt H → WD X.K X.w Hs ρ v x → WD X.K X.w Hs ρ u y → PE1 X.K X.w B Wx Hs ρ σ (g' x y rt) Q → r' v u H Q)
    (ha : ∀ (B : Bnd) (Hs : Hp) (ρ : List Addr) (sl : Sl) (rt : List O) (σ : L2.St) (H : Hp) (Q : VK), Rel X.K X.w B Hs ρ rt H → SlD X.K X.w Hs ρ σ sl → PE1 X.K X.w B Wx Hs ρ σ (ma sl rt) Q → ta σ H Q)
    (hb : ∀ (B : Bnd) (Hs : Hp) (ρ : List Addr) (sl : Sl) (rt : List O) (σ : L2.St) (H : Hp) (Q : VK), Rel X.K X.w B Hs ρ rt H → SlD X.K X.w Hs ρ σ sl → PE1 X.K X.w B Wx Hs ρ σ (mb sl rt) Q → tb σ H Q)
    (hc : ∀ (B : Bnd) (Hs : Hp) (ρ : List Addr) (sl : Sl) (rt : List O) (σ : L2.St) (H : Hp) (Q : VK), Rel X.K X.w B Hs ρ rt H → SlD X.K X.w Hs ρ σ sl → PE1 X.K X.w B Wx Hs ρ σ (mc sl rt) Q → tc σ H Q)
    (B : Bnd) (Hs : Hp) (ρ : List Addr) (sl : Sl) (rt : List O) (σ : L2.St) (H : Hp) (Q : VK) (R : Rel X.K X.w B Hs ρ rt H) (S : SlD X.K X.w Hs ρ σ sl) (p : PE1 X.K X.w B Wx Hs ρ σ (eChain g g' ma mb mc sl rt) Q) : tChain r r' ta tb tc σ H Q := by
  refine ha B Hs ρ sl rt σ H _ R S (PEx.bind p fun x rt1 v Hs1 ρ1 H1 e1 R1 d1 p1 => ?_)
  refine hb B Hs1 ρ1 sl rt1 σ H1 _ R1 (S.mono e1) (PEx.bind p1 fun y rt2 u Hs2 ρ2 H2 e2 R2 d2 p2 => ?_)
  refine hr Wx B Hs2 ρ2 rt2 σ H2 _ x y v u R2 (d1.mono e2) d2 (PEx.bind p2 fun z rt3 t Hs3 ρ3 H3 e3 R3 d3 p3 => ?_)
  split at p3
  · rename_i b
    cases d3
    refine ⟨b, rfl, ?_⟩
    cases b with
    | true =>
      refine hc B Hs3 ρ3 sl rt3 σ H3 _ R3 (S.mono (e1.trans (e2.trans e3))) (PEx.bind p3 fun w' rt4 t Hs4 ρ4 H4 e4 R4 d4 p4 => ?_)
      exact hr' Wx B Hs4 ρ4 rt4 σ H4 Q y w' u t R4 (d2.mono (e3.trans e4)) d4 p4
    | false => exact p3 _ Hs3 ρ3 H3 Ext.refl R3 (.bl false)
  · exact p3.elim
theorem vx_chain {op op' : CmpOp} {g g' : W → W → List O → Ou W} (ho : OpV X (compareOp op) g) (ho' : OpV X (compareOp op') g') (ha : VX X Wx a ma) (hb : VX X Wx b mb) (hc : VX X Wx c mc)
    (hm : lastMarks [op, op'] [b, c] = false := by with_unfolding_all rfl) : VX X Wx (.Compare a [op, op'] [b, c] pos) (eChain g g' ma mb mc) := by
  obtain ⟨r, h1, h2⟩ := ho.ex
  obtain ⟨r', h1', h2'⟩ := ho'.ex
  obtain ⟨ta, a1, a2⟩ := ha.ex
  obtain ⟨tb, b1, b2⟩ := hb.ex
  obtain ⟨tc, c1, c2⟩ := hc.ex
  exact vx_pe (pe_chain h1 h1' a1 b1 c1 hm) (chain_ok h2 h2' a2 b2 c2)
theorem vt_chain {op op' : CmpOp} {g g' : W → W → List O → Ou W} (ho : OpV X (compareOp op) g) (ho' : OpV X (compareOp op') g') (ha : VX X Wx a ma) (hb : VX X Wx b mb) (hc : VX X Wx c mc)
    (hm : lastMarks [op, op'] [b, c] = false := by with_unfolding_all rfl) : VT X Wx (.Compare a [op, op'] [b, c] pos) (eB (eChain g g' ma mb mc)) := by
  obtain ⟨r, h1, h2⟩ := ho.ex
  obtain ⟨r', h1', h2'⟩ := ho'.ex
  obtain ⟨ta, a1, a2⟩ := ha.ex
  obtain ⟨tb, b1, b2⟩ := hb.ex
  obtain ⟨tc, c1, c2⟩ := hc.ex
  exact ⟨⟨_, pt_chain h1 h1' a1 b1 c1 hm, test_ok (chain_ok h2 h2' a2 b2 c2)⟩⟩

/-! ### x in y -/
def flOf : D → Option V
  | .non => some .non
  | .bl b => some (.bl b)
  | .int i => some (.int i)
  | .str s => some (.str s)
  | _ => none
def flAll : List D → Option (List V)
  | [] => some []
  | x :: xs => match flOf x, flAll xs with
    | some v, some vs => some (v :: vs)
    | _, _ => none
theorem fl_ok {K : PySem.W.Frag} {w : World} {H : Hp} {v u : V} {x : D} (d : Den K w H v x) (e : flOf x = some u) : v = u ∧ flatV u = true := by
  cases d <;> cases e <;> exact ⟨rfl, rfl⟩
theorem fls_ok {K : PySem.W.Frag} {w : World} {H : Hp} : ∀ {vs us : List V} {xs : List D}, Dens K w H vs xs → flAll xs = some us → vs = us ∧ us.all flatV = true
  | _, _, _, .nil, e => by cases e; exact ⟨rfl, rfl⟩
  | _, _, _, .cons (x := x) (xs := xs) d t, e => by
    rw [flAll] at e
    cases h1 : flOf x with
    | none => simp only [h1] at e; cases e
    | some k =>
      cases h2 : flAll xs with
      | none => simp only [h1, h2] at e; cases e
      | some ks =>
        simp only [h1, h2] at e
        cases e
        obtain ⟨rfl, g1⟩ := fl_ok d h1
        obtain ⟨rfl, g2⟩ := fls_ok t h2
        exact ⟨rfl, by rw [List.all_cons, g1, g2]; rfl⟩
def inFl (x : D) (ys : List D) : Option Bool := match flOf x, flAll ys with
  | some v, some vs => some (inV v vs)
  | _, _ => none
def inDp (x : D) (ys : List D) : Option Bool := match pyOf x, pyAll ys with
  | some p, some ps => if SeqAt.shaped p = true ∧ SeqAt.shaped (.list ps) = true then some (ps.any fun z => PyData.eqv z p) else none
  | _, _ => none
def inStr (i j : Str) : Bool := !(Builtin.Str.occurrences j i 0 j.length 1).isEmpty
def inD (x y : D) : Option Bool := match y with
  | .lst ys => inDp x ys
  | .fz ys => inFl x ys
  | .tup ys => inFl x ys
  | .ktup ys => inFl x ys
  | .str j => match x with
    | .str i => some (inStr i j)
    | _ => none
  | .dk kvs => match x with
    | .str i => some (dget kvs (.inr i)).isSome
    | .int i => if (kvs.any fun kv => kv.1.isLeft) = true then some (dget kvs (.inl i)).isSome else none
    | _ => none
  | .dt kvs => match x with
    | .tup zs => match keysOf zs with
      | some k => some (dget kvs k).isSome
      | none => none
    | _ => none
  | _ => none
/-- a live dict may be asked for any key -/
def inW (x : D) (y : W) (rt : List O) : Option Bool := match y with
  | .d y => inD x y
  | .r n => match rd rt n with
    | some (.dk kvs) => match keyOf x with
      | some k => some (dget kvs k).isSome
      | none => none
    | some (.ndk kvs) => match keyOf x with
      | some k => some (aget kvs k).isSome
      | none => none
    | some (.ndt kvs) => match x with
      | .tup zs => match keysOf zs with
        | some k => some (aget kvs k).isSome
        | none => none
      | _ => none
    | _ => inD x (lkD (.r n) rt)
def gIn (x y : W) (rt : List O) : Ou W := match inW (lkD x rt) y rt with
  | some b => .ok (.d (.bl b)) rt
  | none => .no
def gNin (x y : W) (rt : List O) : Ou W := match inW (lkD x rt) y rt with
  | some b => .ok (.d (.bl (!b))) rt
  | none => .no
def rInDk : V → V → Hp → (Bool → Prop) → Prop := fun x y H q => ∃ a o, y = .ref a ∧ DGet H a x o ∧ q o.isSome
theorem op_inDk (hu : X.A.units + 1 < cLine) : OpR X (compareOp .In) (fun x y H Q => rInDk x y H fun b => Q (.bl b) H) := by
  intro pins s σ H x y v u Q I rx ry h
  obtain ⟨a, o, rfl, g, q⟩ := h
  cases ry
  exact d_in hu I g rx fun s' I' => ⟨.bl _, H, I', rfl, q⟩
theorem op_ninDk (hu : X.A.units + 1 < cLine) : OpR X (compareOp .NotIn) (fun x y H Q => rInDk x y H fun b => Q (.bl (!b)) H) := by
  intro pins s σ H x y v u Q I rx ry h
  obtain ⟨a, o, rfl, g, q⟩ := h
  cases ry
  exact d_notIn hu I g rx fun s' I' => ⟨.bl _, H, I', rfl, q⟩
def rInWd (K : PySem.W.Frag) (w : World) : V → V → Hp → (Bool → Prop) → Prop := fun x y H q => ∃ (a : Addr) (kvs : List (Key × V)) (z : Str), x = .str z ∧ y = .ref a ∧ WDict K w a kvs ∧ q (valV kvs (Sum.inr z)).isSome
theorem relO_some {o : Option V} {o' : Option Value} (r : RelO o o') : o.isSome = o'.isSome := by
  cases o <;> cases o' <;> first | rfl | exact r.elim
theorem op_inWd : OpR X (compareOp .In) (fun x y H Q => rInWd X.K X.w x y H fun b => Q (.bl b) H) := by
  intro pins s σ H x y v u Q I rx ry h
  obtain ⟨a, kvs, z, rfl, rfl, ⟨es, n, h1, h2, h3, h4, h5⟩, q⟩ := h
  obtain ⟨o, g1, g2⟩ := h5 z
  exact op_in_kd (d := a) (es := es) (n := n) ⟨h1, h2, h3⟩ pins s σ H _ _ v u Q I rx ry ⟨z, o, rfl, rfl, g1, by rw [← relO_some g2]; exact q⟩
theorem op_ninWd : OpR X (compareOp .NotIn) (fun x y H Q => rInWd X.K X.w x y H fun b => Q (.bl (!b)) H) := by
  intro pins s σ H x y v u Q I rx ry h
  obtain ⟨a, kvs, z, rfl, rfl, ⟨es, n, h1, h2, h3, h4, h5⟩, q⟩ := h
  obtain ⟨o, g1, g2⟩ := h5 z
  exact op_notIn_kd (d := a) (es := es) (n := n) ⟨h1, h2, h3⟩ pins s σ H _ _ v u Q I rx ry ⟨z, o, rfl, rfl, g1, by rw [← relO_some g2]; exact q⟩
/-- all that may stand behind in -/
def InR (K : PySem.W.Frag) (w : World) (x y : V) (H : Hp) (q : Bool → Prop) : Prop :=
  (∃ d ds, Dp K H x d ∧ Dp K H y (.list ds) ∧ SeqAt.shaped d = true ∧ SeqAt.shaped (.list ds) = true ∧ q (ds.any fun z => PyData.eqv z d)) ∨
  (∃ p xs, y = .ref p ∧ (SqL K H p xs ∨ SqT K H p xs) ∧ flatV x = true ∧ xs.all flatV = true ∧ q (inV x xs)) ∨
  (∃ i j, x = .str i ∧ y = .str j ∧ q (inStr i j)) ∨ rInDk x y H q ∨ rInWd K w x y H q
theorem inR_or (hu : X.A.units + 65 < cLine) : OpR X (compareOp .In) (fun x y H Q => InR X.K X.w x y H fun b => Q (.bl b) H) := by
  intro pins s σ H x y v u Q I rx ry h
  rcases h with h | ⟨p, xs, h1, h2, h3, h4, h5⟩ | h | h | h
  · exact op_inD hu pins s σ H x y v u Q I rx ry h
  · exact op_in_seq pins s σ H x y v u Q I rx ry ⟨p, xs, h1, h2, h3, h4, h5⟩
  · exact op_in_str pins s σ H x y v u Q I rx ry h
  · exact op_inDk (by omega) pins s σ H x y v u Q I rx ry h
  · exact op_inWd pins s σ H x y v u Q I rx ry h
theorem ninR_or (hu : X.A.units + 65 < cLine) : OpR X (compareOp .NotIn) (fun x y H Q => InR X.K X.w x y H fun b => Q (.bl (!b)) H) := by
  intro pins s σ H x y v u Q I rx ry h
  rcases h with h | ⟨p, xs, h1, h2, h3, h4, h5⟩ | h | h | h
  · exact op_notInD hu pins s σ H x y v u Q I rx ry h
  · exact op_notIn_seq pins s σ H x y v u Q I rx ry ⟨p, xs, h1, h2, h3, h4, h5⟩
  · exact op_notin_str pins s σ H x y v u Q I rx ry h
  · exact op_ninDk (by omega) pins s σ H x y v u Q I rx ry h
  · exact op_ninWd pins s σ H x y v u Q I rx ry h
theorem inFl_ok {K : PySem.W.Frag} {w : World} {H : Hp} {v : V} {x : D} {vs : List V} {ys : List D} {b : Bool} (d1 : Den K w H v x) (d2 : Dens K w H vs ys) (e : inFl x ys = some b) : flatV v = true ∧ vs.all flatV = true ∧ inV v vs = b := by
  unfold inFl at e
  split at e
  · rename_i h1 h2
    cases e
    obtain ⟨rfl, g1⟩ := fl_ok d1 h1
    obtain ⟨rfl, g2⟩ := fls_ok d2 h2
    exact ⟨g1, g2, rfl⟩
  · cases e
theorem valV_some {κ : Type} [DecidableEq κ] {K : PySem.W.Frag} {w : World} {H : Hp} {vs : List (κ × V)} {xs : List (κ × D)} (h : DenA K w H vs xs) (k : κ) : (valV vs k).isSome = (dget xs k).isSome := by
  rcases h.val k with ⟨z1, z2⟩ | ⟨z1, z2, g1, g2, g3⟩
  · rw [z1, z2]; rfl
  · rw [g1, g2]; rfl
theorem left_key {K : PySem.W.Frag} {w : World} {H : Hp} : ∀ {vs : List (Key × V)} {xs : List (Key × D)}, DenA K w H vs xs → (∀ k ∈ vs, ∃ z, k.1 = Sum.inr z) → (xs.any fun kv => kv.1.isLeft) = false
  | _, _, .nil, _ => rfl
  | _, _, .cons (k := k) d t, h => by
    rw [List.any_cons, left_key t fun k hk => h k (List.mem_cons_of_mem _ hk)]
    obtain ⟨z, e⟩ := h _ (List.mem_cons_self ..)
    simp only at e
    subst e
    rfl
theorem inD_ok {K : PySem.W.Frag} {w : World} {H : Hp} {v u : V} {x y : D} {b : Bool} {q : Bool → Prop} (d1 : Den K w H v x) (d2 : Den K w H u y) (e : inD x y = some b) (p : q b) : InR K w v u H q := by
  unfold inD at e
  split at e
  · rename_i ys
    cases d2 with
    | lst h r =>
      unfold inDp at e
      split at e
      · rename_i h1 h2
        split at e
        · rename_i hs
          cases e
          exact .inl ⟨_, _, dp_of d1 h1, .lst (SqL.of h) (dps_of r h2), hs.1, hs.2, p⟩
        · cases e
      · cases e
  · cases d2 with
    | fz h r =>
      obtain ⟨g1, g2, rfl⟩ := inFl_ok d1 r e
      exact .inr (.inl ⟨_, _, rfl, .inl h, g1, g2, p⟩)
  · cases d2 with
    | tup h r =>
      obtain ⟨g1, g2, rfl⟩ := inFl_ok d1 r e
      exact .inr (.inl ⟨_, _, rfl, .inr (SqT.of h), g1, g2, p⟩)
  · cases d2 with
    | ktup h r =>
      obtain ⟨g1, g2, rfl⟩ := inFl_ok d1 r e
      exact .inr (.inl ⟨_, _, rfl, .inr h.sqt, g1, g2, p⟩)
  · split at e
    · cases d1; cases d2; cases e
      exact .inr (.inr (.inl ⟨_, _, rfl, rfl, p⟩))
    · cases e
  · rename_i kvs
    split at e
    · rename_i i
      cases e
      cases d1
      cases d2 with
      | dk h r =>
        refine .inr (.inr (.inr (.inl ⟨_, _, rfl, .inl ⟨_, .inr i, h, rfl, rfl⟩, ?_⟩)))
        rw [valV_some r]; exact p
      | wd h r =>
        refine .inr (.inr (.inr (.inr ⟨_, _, i, rfl, rfl, h, ?_⟩)))
        rw [valV_some r]; exact p
    · rename_i i
      cases d1
      split at e
      · rename_i hl
        cases e
        cases d2 with
        | dk h r =>
          refine .inr (.inr (.inr (.inl ⟨_, _, rfl, .inl ⟨_, .inl i, h, rfl, rfl⟩, ?_⟩)))
          rw [valV_some r]; exact p
        | wd h r =>
          obtain ⟨_, _, _, _, _, h4, _⟩ := h
          rw [left_key r h4] at hl
          cases hl
      · cases e
    · cases e
  · rename_i kvs
    split at e
    · rename_i zs
      split at e
      · rename_i k ek
        cases e
        cases d1 with
        | tup g1 g2 =>
          cases d2 with
          | dt h r =>
            have := keys_ok g2 ek
            subst this
            refine .inr (.inr (.inr (.inl ⟨_, _, rfl, .inr ⟨_, k, _, h, rfl, g1, rfl⟩, ?_⟩)))
            rw [valV_some r]; exact p
      · cases e
    · cases e
  · cases e
theorem OwnA.some {K : PySem.W.Frag} {w : World} {Hs H : Hp} {κ : Type} [DecidableEq κ] (k : κ) : ∀ {vs : List (κ × V)} {xs : List (κ × O)} {A : List Addr}, OwnA K w Hs H vs xs A → (valV vs k).isSome = (aget xs k).isSome
  | _, _, _, .nil => rfl
  | _, _, _, .cons (k := k') (v := v) h t => by
    unfold aget
    by_cases e : k' = k
    · rw [valV_pos (p := (k', v)) e, if_pos e]; rfl
    · rw [valV_neg (p := (k', v)) e, if_neg e]; exact t.some k
theorem inW_ok {K : PySem.W.Frag} {w : World} {B : Bnd} {Hs H : Hp} {ρ : List Addr} {rt : List O} {v u : V} {x : D} {y : W} {b : Bool} {q : Bool → Prop} (R : Rel K w B Hs ρ rt H) (d1 : Den K w H v x) (d2 : WD K w Hs ρ u y) (e : inW x y rt = some b) (p : q b) : InR K w v u H q := by
  unfold inW at e
  split at e
  · exact inD_ok d1 (Den.mono R.same d2) e p
  · rename_i n
    split at e
    · rename_i kvs hk
      obtain ⟨a, vs, rfl, h1, h2, _⟩ := live_dk R d2 hk
      split at e
      · rename_i k ek
        cases e
        have := key_ok d1 ek
        subst this
        refine .inr (.inr (.inr (.inl ⟨_, _, rfl, DGet.k h1, ?_⟩)))
        rw [valV_some h2]; exact p
      · cases e
    · rename_i kvs hk
      obtain ⟨a, C, rfl, h1, _⟩ := R.at d2 hk rfl
      split at e
      · rename_i k ek
        cases e
        have := key_ok d1 ek
        subst this
        cases h1 with
        | @ndk _ vs _ _ h1 h2 =>
          refine .inr (.inr (.inr (.inl ⟨_, _, rfl, DGet.k h1, ?_⟩)))
          rw [h2.some k]; exact p
      · cases e
    · rename_i kvs hk
      obtain ⟨a, C, rfl, h1, _⟩ := R.at d2 hk rfl
      split at e
      · split at e
        · rename_i k ek
          cases e
          cases d1 with
          | tup g1 g2 =>
            have := keys_ok g2 ek
            subst this
            cases h1 with
            | @ndt _ vs _ _ h1 h2 =>
              refine .inr (.inr (.inr (.inl ⟨_, _, rfl, DGet.t h1 g1, ?_⟩)))
              rw [h2.some k]; exact p
        · cases e
      · cases e
    · exact inD_ok d1 (lk_ok R d2) e p
theorem opv_in (hu : X.A.units + 65 < cLine) : OpV X (compareOp .In) gIn := by
  refine ⟨_, inR_or hu, fun Wx B Hs ρ rt σ H Q x y v u R d1 d2 p => ?_⟩
  unfold gIn at p
  split at p
  · rename_i b e
    exact inW_ok R (lk_ok R d1) d2 e (p _ Hs ρ H Ext.refl R (.bl _))
  · exact p.elim
theorem opv_nin (hu : X.A.units + 65 < cLine) : OpV X (compareOp .NotIn) gNin := by
  refine ⟨_, ninR_or hu, fun Wx B Hs ρ rt σ H Q x y v u R d1 d2 p => ?_⟩
  unfold gNin at p
  split at p
  · rename_i b e
    exact inW_ok (q := fun b => Q (.bl (!b)) H) R (lk_ok R d1) d2 e (p _ Hs ρ H Ext.refl R (.bl _))
  · exact p.elim
end
end VE

set_option maxRecDepth 100000
set_option maxHeartbeats 1000000
namespace VE
open PySem PySem.Spec L2
theorem boot_len : bootBuiltins "len" = some (.builtin "len") := by decide +kernel
theorem boot_abs : bootBuiltins "abs" = some (.builtin "abs") := by decide +kernel
theorem boot_sum : bootBuiltins "sum" = some (.builtin "sum") := by decide +kernel
theorem boot_max : bootBuiltins "max" = some (.builtin "max") := by decide +kernel
theorem boot_min : bootBuiltins "min" = some (.builtin "min") := by decide +kernel
theorem boot_all : bootBuiltins "all" = some (.builtin "all") := by decide +kernel
theorem boot_any : bootBuiltins "any" = some (.builtin "any") := by decide +kernel
theorem boot_ord : bootBuiltins "ord" = some (.builtin "ord") := by decide +kernel
theorem boot_isinstance : bootBuiltins "isinstance" = some (.builtin "isinstance") := by decide +kernel
theorem boot_sorted : bootBuiltins "sorted" = some (.builtin "sorted") := by decide +kernel
theorem boot_int : bootBuiltins "int" = some (.type "int") := by decide +kernel
theorem boot_list : bootBuiltins "list" = some (.type "list") := by decide +kernel
theorem boot_tuple : bootBuiltins "tuple" = some (.type "tuple") := by decide +kernel
theorem boot_str : bootBuiltins "str" = some (.type "str") := by decide +kernel
theorem boot_set : bootBuiltins "set" = some (.type "set") := by decide +kernel
theorem boot_dict : bootBuiltins "dict" = some (.type "dict") := by decide +kernel
theorem boot_bool : bootBuiltins "bool" = some (.type "bool") := by decide +kernel
theorem boot_float : bootBuiltins "float" = some (.type "float") := by decide +kernel
theorem boot_range : bootBuiltins "range" = some (.type "range") := by decide +kernel
theorem boot_enumerate : bootBuiltins "enumerate" = some (.type "enumerate") := by decide +kernel
theorem boot_zip : bootBuiltins "zip" = some (.type "zip") := by decide +kernel
theorem room65 {k : Nat} {A : Around} (hr : Room k A) : A.units + 65 < cLine := by have := hr.un; omega
theorem room1 {k : Nat} {A : Around} (hr : Room k A) : A.units + 1 < cLine := by have := hr.un; omega
theorem dens_ints {K : PySem.W.Frag} {w : World} {H : Hp} : ∀ ns : List Int, Dens K w H (ns.map V.int) (ns.map D.int)
  | [] => .nil
  | n :: ns => .cons (.int n) (dens_ints ns)
/-- the end: what the mirror of law answers at every script -/
theorem walk_v {l : PySem.W.OpenLaw} {k : Nat} {q : Program} {loose : List Str} {XP : (Str → Option Value) → Heap → Prop} {YP : World → Heap → Prop} {d : DefRec} {K : Params → PySem.W.Frag} {m : FM}
    (hn : l.most = some 63) (hdf : d.params.defaults = []) (hr : Room k callerA) (hY : ∀ (w : World) (h : Heap), YP w h → (K w.params).In h)
    (F : ∀ (w : World) (mg : Str → Option Value) (fa : Addr) (h : Heap), (K w.params).In h → h.Ns mainGlobals mg → mg d.name = some (.ref fa) →
      ∃ fd : FuncData, (∀ (s : Shared) (u : Value), BindsTo s fd ⟨[u], []⟩ [("script", u)]) ∧ ∀ base : Heap, (K w.params).In base → base.Ns mainGlobals mg → FnOk l.prog w (K w.params) mg base (L2.CX l.prog w) k fa fd ["script"] (spV (K w.params) w m 1))
    (ht : ∀ ns : List Int, ns.length ≤ 63 → ∃ rt, m [.d (.fz (ns.map D.int))] [] = .ok (.d (.bl true)) rt) :
    PySem.W.WalkO q loose XP YP l.row.toRowW d [] (fun f vs => PySem.call f vs) :=
  L2.walk_of (n := 63) (k := k) (x := "script") (CX := fun w => L2.CX l.prog w) (sp := fun w => spV (K w.params) w m 1) hn (by decide) hdf hr hY F
    (fun w H a ns hl _ hS => ⟨rfl, [], H, [], [], _, ⟨fun _ _ h => h, rfl, ⟨fun _ => [], fun i o e => by cases e⟩, fun _ _ h => .inr h, fun _ h => h, fun _ h => .inl h, fun _ _ _ e => by cases e⟩, .cons (x := .d (.fz (ns.map D.int))) (.fz hS (dens_ints ns)) .nil, by
      obtain ⟨rt, e⟩ := ht ns hl
      rw [e]
      intro v Hs ρ H' _ _ d1
      exact bl_of d1⟩)
    fun w H s e s' z => by
      obtain ⟨_, _, _, _, _, _, _, _, _, _, _, _, h⟩ := z
      exact h
end VE

set_option maxRecDepth 100000
set_option maxHeartbeats 1000000
namespace VE
open PySem PySem.Spec L2
section
variable {X : Cx} {Wx : WX} {a b c e : Expr} {pos p p2 : Pos} {ma mb mc m : Ex W}
theorem dens_rg {K : PySem.W.Frag} {w : World} {H : Hp} (lo : Int) : ∀ (l : List Nat), Dens K w H (l.map fun i => V.int (lo + (i : Nat))) (l.map fun (i : Nat) => D.int (lo + (i : Int)))
  | [] => .nil
  | n :: l => .cons (.int _) (dens_rg lo l)
/-- list(range(n)), list(range(i, j)) -/
def eLRg (m : Ex W) : Ex W := fun sl rt => (m sl rt).bind fun x rt => match x with
  | .d (.int n) => if n ≤ 16000000 ∧ 0 ≤ n then .ok (.r rt.length) (rt ++ [.lst (rangeD 0 n.toNat)]) else .no
  | _ => .no
theorem vx_lrg (hc : X.calm = true) (hl : X.mg "list" = none) (hr : X.mg "range" = none) (ha : VX X Wx a ma) (g1 : Gl X "list" := by rfl) (g2 : Gl X "range" := by rfl)
    (na : starEach [a] X.env = (false, eval a X.env) :: starEach [] X.env := by rfl) (nb : starEach [.Call (.Name "range" p2) [a] [] p] X.env = (false, eval (.Call (.Name "range" p2) [a] [] p) X.env) :: starEach [] X.env := by rfl) {p3 p4 : Pos} :
    VX X Wx (.Call (.Name "list" p3) [.Call (.Name "range" p2) [a] [] p] [] p4) (eLRg ma) := by
  obtain ⟨t, a1, a2⟩ := ha.ex
  refine vx_pe (pe_listRg hc g1 hl (prg_1 g2 hr a1 na) nb) fun B Hs ρ sl rt σ H Q R S p => ?_
  refine a2 B Hs ρ sl rt σ H _ R S (PEx.bind p fun x rt1 v Hs1 ρ1 H1 e1 R1 d1 p1 => ?_)
  split at p1
  · rename_i n
    cases d1
    split at p1
    · rename_i h
      refine ⟨n, rfl, RgOk.of_le (by omega) (by omega) (by omega) h.2, ?_⟩
      have := dens_rg (K := X.K) (w := X.w) (H := Hs1) 0 (List.range n.toNat)
      refine new_list (xs := rangeD 0 n.toNat) R1 ?_ p1
      unfold rgV rangeD
      rw [Int.sub_zero]
      exact this
    · exact p1.elim
  · exact p1.elim
theorem w_dummy : True := trivial

/-! ### xs[::-1] -/
def tRevT (K : PySem.W.Frag) (te : TE) : TE := fun σ H Q => te σ H fun x H1 => ∃ a xs, x = .ref a ∧ SqT K H1 a xs ∧ ∀ p, H1 p = none → Q (.ref p) (upd H1 p (.tup xs.reverse))
def eRevL (m : Ex W) : Ex W := fun sl rt => (m sl rt).bind fun x rt => match lsOf x rt with
  | some xs => .ok (.r rt.length) (rt ++ [.lst xs.reverse])
  | none => .no
theorem vx_revL {k : Nat} {p1 p2 p3 : Pos} (ha : VX X Wx a ma) : VX X Wx (.Subscript a (.Slice none none (some (.UnaryOp .USub (.Constant (.int 1) k p1) p2)) p3) pos) (eRevL ma) := by
  obtain ⟨t, a1, a2⟩ := ha.ex
  refine vx_pe (pe_revL a1) fun B Hs ρ sl rt σ H Q R S p => ?_
  refine a2 B Hs ρ sl rt σ H _ R S (PEx.bind p fun x rt1 v Hs1 ρ1 H1 e1 R1 d1 p1 => ?_)
  split at p1
  · rename_i xs e
    obtain ⟨a, vs, rfl, h1, h2⟩ := lsOf_ok R1 d1 e
    exact ⟨a, vs, rfl, SqL.of h1, new_list R1 h2.rev p1⟩
  · exact p1.elim
end
end VE

set_option maxRecDepth 100000
set_option maxHeartbeats 1000000
namespace VE
open PySem PySem.Spec L2
section
variable {K : PySem.W.Frag} {w : World} {B : Bnd} {Hs Hs' H H' : Hp} {ρ : List Addr} {rt : List O}
/-- a place in a root gets a number -/
theorem Rel.pushV (R : Rel K w B Hs ρ rt H) {n : Nat} {p : List Sel} {a b : Addr} {o : O} (hb : ρ[n]? = some b) (ho : rt[n]? = some o) (hv : o.isVw = false) (ha : adr H (.ref b) o p = some (.ref a)) : Rel K w B Hs (ρ ++ [a]) (rt ++ [.vw n p]) H := by
  obtain ⟨F, hF⟩ := R.own
  have hn : n < rt.length := (List.getElem?_eq_some_iff.mp ho).1
  refine ⟨R.same, by simp [R.len], ⟨ov F rt.length [], fun i x e => ?_⟩, R.frame, R.there, R.pers, fun k m q e => ?_⟩
  · by_cases hi : i < rt.length
    · rw [List.getElem?_append_left hi] at e
      obtain ⟨c, e1, h1, h2, h3, h4⟩ := hF i x e
      rw [ov_ne (show i ≠ rt.length by omega)]
      refine ⟨c, by rw [List.getElem?_append_left (by rw [R.len]; exact hi)]; exact e1, h1, h2, h3, fun j hj hij d hd => ?_⟩
      by_cases hjn : j = rt.length
      · rw [hjn, ov_same]; exact fun z => nomatch z
      · rw [ov_ne hjn]
        refine h4 j ?_ hij d hd
        simp only [List.length_append, List.length_singleton] at hj
        omega
    · have hi2 : i = rt.length := by
        have := (List.getElem?_eq_some_iff.mp e).1
        simp only [List.length_append, List.length_singleton] at this
        omega
      subst hi2
      rw [List.getElem?_append_right (Nat.le_refl _), Nat.sub_self] at e
      cases e
      rw [ov_same]
      refine ⟨a, ?_, rfl, by simp, (fun d hd => absurd hd (by simp)), (fun j hj hij d hd => absurd hd (by simp))⟩
      rw [← R.len, List.getElem?_append_right (Nat.le_refl _), Nat.sub_self]
      rfl
  · by_cases hk : k < rt.length
    · rw [List.getElem?_append_left hk] at e
      obtain ⟨a', b', x, h1, h2, h3, h5, h4⟩ := R.lk k m q e
      have hm := (List.getElem?_eq_some_iff.mp h3).1
      exact ⟨a', b', x, by rw [List.getElem?_append_left (by rw [R.len]; exact hk)]; exact h1, by rw [List.getElem?_append_left (by rw [R.len]; exact hm)]; exact h2, by rw [List.getElem?_append_left hm]; exact h3, h5, h4⟩
    · have hk2 : k = rt.length := by
        have := (List.getElem?_eq_some_iff.mp e).1
        simp only [List.length_append, List.length_singleton] at this
        omega
      subst hk2
      rw [List.getElem?_append_right (Nat.le_refl _), Nat.sub_self] at e
      cases e
      exact ⟨a, b, o, by rw [← R.len, List.getElem?_append_right (Nat.le_refl _), Nat.sub_self]; rfl, by rw [List.getElem?_append_left (by rw [R.len]; exact hn)]; exact hb, by rw [List.getElem?_append_left hn]; exact ho, hv, ha⟩
/-- a longer path -/
theorem adr_app : ∀ {p q : List Sel} {v u : V} {o x : O}, adr H v o p = some u → getP o p = some x → adr H v o (p ++ q) = adr H u x q
  | [], q, v, u, o, x, e, g => by
    rw [adr_nil] at e; cases e
    rw [getP_nil] at g; cases g
    rfl
  | c :: p, q, v, u, o, x, e, g => by
    obtain ⟨v', x', f, k, e1, e2, _⟩ := adr_kid e
    rw [e2] at g
    rw [List.cons_append, k.adr]
    exact adr_app e1 g
end
end VE

set_option maxRecDepth 100000
set_option maxHeartbeats 1000000
namespace VE
open PySem PySem.Spec L2 PyProof.Rows
section
variable {X : Cx}
def rIxDk : R2 := fun x y H Q => ∃ a v, x = .ref a ∧ DGet H a y (some v) ∧ Q v H
theorem ix_dict (hu : X.A.units + 1 < cLine) : IxR X rIxDk := by
  intro value slice pins s σ H x y v u Q I rx ry h hs
  obtain ⟨a, z, rfl, g, q⟩ := h
  cases rx
  have hT := dict_typeIs I g
  unfold subscriptTail
  refine wpAny_bind ?_
  rw [getitemInPython_of_ne hT.not_modules]
  refine wpAny_bind (wpAny_specialOf hT PySem.F.slot_dict_getitem.lookup ?_)
  have fin : wpAny (model X.prog X.w) X.A (subscripted slice false (.ref a) u) (fun r s₃ => wpAny (model X.prog X.w) X.A (letTemporaryGo value (.ref a) r >>= fun _ => pure r) (EP X pins σ Q) X.xe s₃) X.xe s := by
    rw [hs]
    exact wpAny_operating (d_getItem hu I g ry fun w' s' I' r' => wpAny_bind (wpAny_letTemporaryGo (wpAny_pure ⟨z, H, I', r', q⟩)))
  first
    | exact wpAny_pure (wpAny_bind fin)
    | exact wpAny_bind (wpAny_pure (wpAny_bind fin))
    | exact wpAny_bind fin
/-- a step down: plain data, or a place -/
def stepV (rt : List O) (n : Nat) (c : Sel) : O → Ou W
  | .d y => .ok (.d y) rt
  | _ => .ok (.r rt.length) (rt ++ [.vw (locR rt n).1 ((locR rt n).2 ++ [c])])
def gIxV (x y : W) (rt : List O) : Ou W := match x, y with
  | .r n, .d k => match rd rt n with
    | some (.nst xs) => match k with
      | .int i => match ixN xs.length i with
        | some j => match xs[j]? with
          | some z => stepV rt n (.ix j) z
          | none => .no
        | none => .no
      | _ => .no
    | some (.ndk kvs) => match keyOf k with
      | some k => match aget kvs k with
        | some z => stepV rt n (.key k) z
        | none => .no
      | none => .no
    | some (.ndt kvs) => match k with
      | .tup zs => match keysOf zs with
        | some k => match aget kvs k with
          | some z => stepV rt n (.keys k) z
          | none => .no
        | none => .no
      | _ => .no
    | some (.dk kvs) => match keyOf k with
      | some k => match dget kvs k with
        | some z => .ok (.d z) rt
        | none => .no
      | none => .no
    | some (.dt kvs) => match k with
      | .tup zs => match keysOf zs with
        | some k => match dget kvs k with
          | some z => .ok (.d z) rt
          | none => .no
        | none => .no
      | _ => .no
    | _ => gIx x y rt
  | .d (.dk kvs), .d k => match k with
    | .int i => match dget kvs (.inl i) with
      | some z => .ok (.d z) rt
      | none => .no
    | .str i => match dget kvs (.inr i) with
      | some z => .ok (.d z) rt
      | none => .no
    | _ => .no
  | .d (.dt kvs), .d (.tup zs) => match keysOf zs with
    | some k => match dget kvs k with
      | some z => .ok (.d z) rt
      | none => .no
    | none => .no
  | _, _ => gIx x y rt
def rIx2 (K : PySem.W.Frag) (w : World) : R2 := fun x y H Q => rIx K x y H Q ∨ rIxDk x y H Q ∨ L2.rIxD K w x y H Q
theorem ix_all (hu : X.A.units + 1 < cLine) : IxR X (rIx2 X.K X.w) := ix_seq.or ((ix_dict hu).or ix_kdict)
/-- a step down is a place -/
theorem Rel.step {K : PySem.W.Frag} {w : World} {B : Bnd} {Hs H : Hp} {ρ : List Addr} {rt : List O} {σ : L2.St} {Wx : WX} {n : Nat} {v u : V} {x z : O} {c : Sel} {f : O → O} {Q : VK} (R : Rel K w B Hs ρ rt H) (d : WD K w Hs ρ v (.r n)) (e : rd rt n = some x) (hx : x.isVw = false) (k : Kid H v x c u z f)
    (p : PE1 K w B Wx Hs ρ σ (stepV rt n c z) Q) : Q u H := by
  obtain ⟨a, m, q, b, o, rfl, hb, ho, hv, h1, h2, h3, hloc⟩ := R.loc d e hx
  obtain ⟨a', C, ea, g1, g2, g3, _⟩ := R.at d e hx
  cases ea
  obtain ⟨A1, B1, A2, _, hz, _⟩ := k.own g1
  have hnd : (∀ y, z ≠ .d y) → ∃ a', u = .ref a' := fun hne => by
    cases hz <;> first | exact ⟨_, rfl⟩ | exact absurd rfl (hne _)
  have live : (∀ y, z ≠ .d y) → PE1 K w B Wx Hs ρ σ (.ok (.r rt.length) (rt ++ [.vw (locR rt n).1 ((locR rt n).2 ++ [c])])) Q → Q u H := fun hne p => by
    obtain ⟨a', rfl⟩ := hnd hne
    rw [hloc] at p
    have hadr : adr H (.ref b) o (q ++ [c]) = some (.ref a') := by rw [adr_app h1 h2, k.adr, adr_nil]
    exact p (.ref a') Hs _ H ⟨Same.rfl', [a'], rfl⟩ (R.pushV hb ho hv hadr) ⟨a', by rw [← R.len, List.getElem?_append_right (Nat.le_refl _), Nat.sub_self]; rfl, rfl⟩
  cases z with
  | d y =>
    cases hz with
    | d hz => exact p u Hs ρ H Ext.refl R hz
  | _ => exact live (fun y h => nomatch h) p
end
end VE

set_option maxRecDepth 100000
set_option maxHeartbeats 1000000
namespace VE
open PySem PySem.Spec L2
theorem ixN_at {n : Nat} {i : Int} {j : Nat} (h : ixN n i = some j) {α : Type} {xs : List α} (hl : xs.length = n) {x : α} (e : xs[j]? = some x) : L2.atI xs i = some x := by
  unfold L2.atI
  rw [hl, h]
  exact e
theorem OwnA.getv {K : PySem.W.Frag} {w : World} {Hs H : Hp} {κ : Type} [DecidableEq κ] {k : κ} {x : O} : ∀ {vs : List (κ × V)} {xs : List (κ × O)} {A : List Addr}, OwnA K w Hs H vs xs A → VE.aget xs k = Option.some x → ∃ v, VE.aget vs k = Option.some v ∧ valV vs k = Option.some v
  | _, _, _, .nil, e => by cases e
  | _, _, _, .cons (k := k') (v := v) h t, e => by
    unfold VE.aget at e ⊢
    by_cases hk : k' = k
    · rw [if_pos hk] at e ⊢
      exact ⟨v, rfl, valV_pos (p := (k', v)) hk⟩
    · rw [if_neg hk] at e ⊢
      rw [valV_neg (p := (k', v)) hk]
      exact t.getv e
theorem Owns.get {K : PySem.W.Frag} {w : World} {Hs H : Hp} {vs : List V} {xs : List O} {A : List Addr} {j : Nat} {x : O} (h : Owns K w Hs H vs xs A) (e : xs[j]? = some x) : ∃ v, vs[j]? = some v := by
  have := (List.getElem?_eq_some_iff.mp e).1
  exact ⟨vs[j]'(by rw [h.length]; exact this), by simp [h.length, this]⟩
theorem gIxV_ok {X : Cx} (Wx : WX) (B : Bnd) (Hs : Hp) (ρ : List Addr) (rt : List O) (σ : L2.St) (H : Hp) (Q : VK) (x y : W) (v u : V) (R : Rel X.K X.w B Hs ρ rt H) (d1 : WD X.K X.w Hs ρ v x) (d2 : WD X.K X.w Hs ρ u y)
    (p : PE1 X.K X.w B Wx Hs ρ σ (gIxV x y rt) Q) : rIx2 X.K X.w v u H Q := by
  unfold gIxV at p
  split at p
  · rename_i n k
    change Den X.K X.w Hs u k at d2
    split at p
    · rename_i xs e
      obtain ⟨a, C, rfl, g1, _⟩ := R.at d1 e rfl
      split at p
      · rename_i i
        cases d2
        split at p
        · rename_i j hj
          split at p
          · rename_i z hz
            cases g1 with
            | @nst _ vs _ _ h r =>
              obtain ⟨v', hv'⟩ := r.get hz
              exact .inl (.inl ⟨a, vs, i, v', rfl, rfl, SqL.of h, ixN_at hj r.length hv', R.step d1 e rfl (.nst h hv' hz) p⟩)
          · exact p.elim
        · exact p.elim
      · exact p.elim
    · rename_i kvs e
      obtain ⟨a, C, rfl, g1, _⟩ := R.at d1 e rfl
      split at p
      · rename_i k' hk
        have := key_ok d2 hk
        subst this
        split at p
        · rename_i z hz
          cases g1 with
          | @ndk _ vs _ _ h r =>
            obtain ⟨v', hv', hv2⟩ := r.getv hz
            exact .inr (.inl ⟨a, v', rfl, by rw [← hv2]; exact DGet.k h, R.step d1 e rfl (.ndk h hv' hz) p⟩)
        · exact p.elim
      · exact p.elim
    · rename_i kvs e
      obtain ⟨a, C, rfl, g1, _⟩ := R.at d1 e rfl
      split at p
      · split at p
        · rename_i k' hk
          split at p
          · rename_i z hz
            cases d2 with
            | @tup b us _ t1 t2 =>
              have := keys_ok t2 hk
              subst this
              cases g1 with
              | @ndt _ vs _ _ h r =>
                obtain ⟨v', hv', hv2⟩ := r.getv hz
                exact .inr (.inl ⟨a, v', rfl, by rw [← hv2]; exact DGet.t h (R.same _ _ t1), R.step d1 e rfl (.ndt h hv' hz) p⟩)
          · exact p.elim
        · exact p.elim
      · exact p.elim
    · rename_i kvs e
      obtain ⟨a, vs, rfl, h1, h2, _⟩ := live_dk R d1 e
      split at p
      · rename_i k' hk
        have := key_ok d2 hk
        subst this
        split at p
        · rename_i z hz
          rcases h2.val k' with ⟨_, z2⟩ | ⟨z1, z2, q1, q2, q3⟩
          · rw [z2] at hz; cases hz
          · rw [q2] at hz; cases hz
            exact .inr (.inl ⟨a, z1, rfl, by rw [← q1]; exact DGet.k h1, p _ Hs ρ H Ext.refl R q3⟩)
        · exact p.elim
      · exact p.elim
    · rename_i kvs e
      obtain ⟨a, vs, rfl, h1, h2, _⟩ := live_dt R d1 e
      split at p
      · split at p
        · rename_i k' hk
          split at p
          · rename_i z hz
            cases d2 with
            | @tup b us _ t1 t2 =>
              have := keys_ok t2 hk
              subst this
              rcases h2.val k' with ⟨_, z2⟩ | ⟨z1, z2, q1, q2, q3⟩
              · rw [z2] at hz; cases hz
              · rw [q2] at hz; cases hz
                exact .inr (.inl ⟨a, z1, rfl, by rw [← q1]; exact DGet.t h1 (R.same _ _ t1), p _ Hs ρ H Ext.refl R q3⟩)
          · exact p.elim
        · exact p.elim
      · exact p.elim
    · exact .inl (gIx_ok Wx B Hs ρ rt σ H Q _ (.d k) v u R d1 d2 p)
  · rename_i kvs k
    change Den X.K X.w Hs v (.dk kvs) at d1
    change Den X.K X.w Hs u k at d2
    split at p
    · rename_i i
      cases d2
      split at p
      · rename_i z hz
        cases d1 with
        | @dk a vs _ h r =>
          rcases r.val (Sum.inl i) with ⟨_, z2⟩ | ⟨z1, z2, q1, q2, q3⟩
          · rw [z2] at hz; cases hz
          · rw [q2] at hz; cases hz
            exact .inr (.inl ⟨a, z1, rfl, .inl ⟨vs, .inl i, Rd.mono R.same h, rfl, q1.symm⟩, p _ Hs ρ H Ext.refl R q3⟩)
        | @wd a vs _ h r =>
          obtain ⟨_, _, _, _, _, h4, _⟩ := h
          have hl := left_key r h4
          rcases r.val (Sum.inl i) with ⟨_, z2⟩ | ⟨z1, z2, q1, q2, q3⟩
          · rw [z2] at hz; cases hz
          · exfalso
            unfold dget at q2
            obtain ⟨kv, hkv, _⟩ := Option.map_eq_some_iff.mp q2
            have hm := List.mem_of_find?_eq_some hkv
            have hp := List.find?_some hkv
            have := List.any_eq_false.mp hl kv hm
            rw [of_decide_eq_true hp] at this
            exact this rfl
      · exact p.elim
    · rename_i i
      cases d2
      split at p
      · rename_i z hz
        cases d1 with
        | @dk a vs _ h r =>
          rcases r.val (Sum.inr i) with ⟨_, z2⟩ | ⟨z1, z2, q1, q2, q3⟩
          · rw [z2] at hz; cases hz
          · rw [q2] at hz; cases hz
            exact .inr (.inl ⟨a, z1, rfl, .inl ⟨vs, .inr i, Rd.mono R.same h, rfl, q1.symm⟩, p _ Hs ρ H Ext.refl R q3⟩)
        | @wd a vs _ h r =>
          obtain ⟨es, n, h1, h2, h3, h4, h5⟩ := h
          rcases r.val (Sum.inr i) with ⟨_, z2⟩ | ⟨z1, z2, q1, q2, q3⟩
          · rw [z2] at hz; cases hz
          · rw [q2] at hz; cases hz
            obtain ⟨o, g1, g2⟩ := h5 i
            rw [q1] at g2
            cases o with
            | none => exact g2.elim
            | some uu => exact .inr (.inr ⟨a, i, z1, rfl, rfl, ⟨es, n, uu, h1, h2, g1, g2⟩, p _ Hs ρ H Ext.refl R q3⟩)
      · exact p.elim
    · exact p.elim
  · rename_i kvs zs
    change Den X.K X.w Hs v (.dt kvs) at d1
    change Den X.K X.w Hs u (.tup zs) at d2
    split at p
    · rename_i k' hk
      split at p
      · rename_i z hz
        cases d2 with
        | @tup b us _ t1 t2 =>
          have := keys_ok t2 hk
          subst this
          cases d1 with
          | @dt a vs _ h r =>
            rcases r.val k' with ⟨_, z2⟩ | ⟨z1, z2, q1, q2, q3⟩
            · rw [z2] at hz; cases hz
            · rw [q2] at hz; cases hz
              exact .inr (.inl ⟨a, z1, rfl, .inr ⟨vs, k', b, Rd.mono R.same h, rfl, R.same _ _ t1, q1.symm⟩, p _ Hs ρ H Ext.refl R q3⟩)
      · exact p.elim
    · exact p.elim
  · exact .inl (gIx_ok Wx B Hs ρ rt σ H Q _ _ v u R d1 d2 p)
section
variable {X : Cx} {Wx : WX} {a b : Expr} {ma mb : Ex W} {pos : Pos}
theorem vx_ixv (hu : X.A.units + 1 < cLine) (ha : VX X Wx a ma) (hb : VX X Wx b mb) (hs : PlainIx b := by intro _ _; rfl) : VX X Wx (.Subscript a b pos) (eOp gIxV ma mb) := by
  obtain ⟨ta, a1, a2⟩ := ha.ex
  obtain ⟨tb, b1, b2⟩ := hb.ex
  exact vx_pe (pe_ix (ix_all hu) a1 b1 hs) (two_op (fun Wx => gIxV_ok Wx) a2 b2)
end
end VE

set_option maxRecDepth 100000
set_option maxHeartbeats 1000000
namespace VE
open PySem PySem.Spec L2 PyProof.Rows
section
variable {X : Cx} {Wx : WX} {a b e : Expr} {pos p p2 : Pos} {ma mb m : Ex W} {ms : Ex (List W)}

/-! ### a, b = x, y -/
def sPar (i j : Nat) (ms : Ex (List W)) : Sx := fun sl rt => (ms sl rt).seq sl fun xs rt => match xs with
  | [x, y] => .nx ((sl.set i (some x)).set j (some y)) rt
  | _ => .no
theorem vs_par (i j : Nat) {x y : Str} {px py pt : Pos} {kt k2 pt2} (hc : X.calm = true) (hN : X.N.Nodup) (hi : X.N[i]? = some x) (hj : X.N[j]? = some y) (hij : i ≠ j)
    (hx : X.env.scope.names.lookup x = some .local) (hy : X.env.scope.names.lookup y = some .local) (ha : VA X Wx [a, b] ms)
    (hw : swappedStores [.Tuple [.Name x px, .Name y py] kt pt] (.Tuple [a, b] k2 pt2) X.env = pure (some [x, y]))
    (hs : swapsWithSole [.Tuple [.Name x px, .Name y py] kt pt] (.Tuple [a, b] k2 pt2) pos.line X.env = pure false := by rfl) :
    VS X Wx (.Assign [.Tuple [.Name x px, .Name y py] kt pt] (.Tuple [a, b] k2 pt2) pos) (sPar i j ms) := by
  obtain ⟨ta, a1, a2⟩ := ha.ex
  refine ⟨_, ps_par hc hN hi hj hij hx hy a1 hw hs, fun B Hs ρ sl rt σ H D R S p => ?_⟩
  refine a2 B Hs ρ sl rt σ H _ R S (PEx.seq S p fun xs rt1 us Hs1 ρ1 H1 e1 R1 d1 p1 => ?_)
  split at p1
  · cases d1 with
    | cons h1 t => cases t with
      | cons h2 t => cases t with
        | nil => exact ⟨_, _, rfl, p1 Hs1 ρ1 _ H1 Ext.refl R1 (((S.mono e1).set i h1).set j h2) (by simp)⟩
  · exact p1.elim

/-! ### len(set(xs)), xs a list of ints -/
def firsts (ns : List Int) : List Int := PyProof.Rows.firstMet (fun i => ns.getD i 0) ns.length
def tLenSetD (K : PySem.W.Frag) (ta : TE) : TE := fun σ H Q => ta σ H fun x H1 => ∃ (l : Addr) (ns : List Int), x = V.ref l ∧ SqL K H1 l (ns.map V.int) ∧ ns.length < 64 ∧ Q (.int (firsts ns).length) H1
theorem pe_lenSetD {ta : TE} {q : Pos} (hc : X.calm = true) (hg : Gl X "len") (hm : X.mg "len" = none) (hg2 : Gl X "set") (hm2 : X.mg "set" = none) (ha : PE X a ta)
    (na : starEach [a] X.env = (false, eval a X.env) :: starEach [] X.env := by rfl) : PE X (.Call (.Name "len" p) [.Call (.Name "set" p2) [a] [] q] [] pos) (tLenSetD X.K ta) := by
  refine ⟨fun pins s σ H Q I h => ?_⟩
  refine Call_ (ld_blt I hg hm PySem.boot_len ?_)
  refine PyProof.Rows.callWith_builtin1 (PyProof.Rows.args_cons ?_ rfl) rfl rfl
  refine Call_ (ld_blt I hg2 hm2 PyProof.Rows.boot_set ?_)
  refine PyProof.Rows.callWith_type1 (PyProof.Rows.args_cons (thn (ha.run pins s σ H _ I h) fun v s1 ⟨x, H1, I1, r1, q1⟩ => PyProof.Rows.args_nil ?_) na) na rfl
  obtain ⟨l, ns, rfl, hq, h1, q1⟩ := q1
  cases r1
  obtain ⟨its, r, pl, hz⟩ := I1.list hq
  have hl : its.toArray.size = ns.length := by rw [List.size_toArray, ← r.length, List.length_map]
  refine call_set_list (I1.ok.hd hc) pl.isList (ns := ns) (by simpa using r.ints) (by unfold scanBound; omega) fun h' tk hS hk => ?_
  rw [hl] at hS
  have hle := PyProof.Rows.firstMet_length_le (fun i => ns.getD i 0) ns.length
  refine PyProof.Rows.args_nil ?_
  obtain ⟨o, es, ep, t, ho, hex, hd, _, _, _, hf, hn⟩ := hS
  have I2 : Inv X pins σ H1 { s1 with heap := h', toks := tk } := I1.kept fun b o e => hk b o (Heap.lt_size e) e
  refine call_len_set ho hex hd hf (by rw [hn]; omega) ⟨.int (firsts ns).length, H1, I2.tok _, ⟨_, by rw [hn]; rfl⟩, q1⟩
def eLenSet (m : Ex W) : Ex W := fun sl rt => (m sl rt).bind fun x rt => match (lsOf x rt).bind intsOf with
  | some ns => if ns.length < 64 then .ok (.d (.int (firsts ns).length)) rt else .no
  | none => .no
theorem vx_lenSet {q : Pos} (hc : X.calm = true) (hg : Gl X "len") (hm : X.mg "len" = none) (hg2 : Gl X "set") (hm2 : X.mg "set" = none) (ha : VX X Wx a ma)
    (na : starEach [a] X.env = (false, eval a X.env) :: starEach [] X.env := by rfl) : VX X Wx (.Call (.Name "len" p) [.Call (.Name "set" p2) [a] [] q] [] pos) (eLenSet ma) := by
  obtain ⟨ta, a1, a2⟩ := ha.ex
  refine vx_pe (pe_lenSetD hc hg hm hg2 hm2 a1 na) fun B Hs ρ sl rt σ H Q R S p => ?_
  refine a2 B Hs ρ sl rt σ H _ R S (PEx.bind p fun x rt1 v Hs1 ρ1 H1 e1 R1 d1 p1 => ?_)
  split at p1
  · rename_i ns en
    split at p1
    · rename_i hl
      obtain ⟨l, rfl, h⟩ := lsI_ok ints_ok R1 d1 en
      exact ⟨l, ns, rfl, h, hl, p1 _ Hs1 ρ1 H1 Ext.refl R1 (.int _)⟩
    · exact p1.elim
  · exact p1.elim
theorem firsts_mem {ns : List Int} {k : Int} : k ∈ firsts ns ↔ k ∈ ns := by
  have := PyProof.Rows.firstMet_any (fun i => ns.getD i 0) ns.length k
  have e : (List.range ns.length).map (fun i => ns.getD i 0) = ns := by
    refine List.ext_getElem (by simp) fun i h1 h2 => ?_
    simp [List.getD_eq_getElem?_getD, h2]
  rw [e] at this
  have h2 : ∀ l : List Int, (l.any (· == k)) = true ↔ k ∈ l := fun l => by
    rw [List.any_eq_true]
    constructor
    · rintro ⟨x, hx, hk⟩
      rw [← beq_iff_eq.mp hk]; exact hx
    · exact fun h => ⟨k, h, by simp⟩
  rw [← h2, ← h2, ← this]
  rfl
theorem firsts_nodup {ns : List Int} : (firsts ns).Nodup := by
  unfold firsts PyProof.Rows.firstMet
  have step : ∀ (l acc : List Int), acc.Nodup → (l.foldl PyProof.Rows.step_dedup acc).Nodup := by
    intro l
    induction l with
    | nil => exact fun _ h => h
    | cons x l ih =>
      intro acc h
      refine ih _ ?_
      unfold PyProof.Rows.step_dedup
      split
      · exact h
      · rename_i hx
        rw [List.nodup_append]
        refine ⟨h, by simp, fun a ha b hb => ?_⟩
        rw [List.mem_singleton.mp hb]
        intro z
        subst z
        refine hx ?_
        first | (rw [List.any_eq_true]; exact ⟨a, ha, by simp⟩) | exact ha | simpa using ha
  exact step _ _ (by simp)

/-! ### sorted -/
def srtI (ns : List Int) : List Int := ns.mergeSort fun i j => decide (i ≤ j)
theorem srtI_perm (ns : List Int) : (srtI ns).Perm ns := List.mergeSort_perm _ _
theorem srtI_le (ns : List Int) : (srtI ns).Pairwise (· ≤ ·) := by
  have := List.pairwise_mergeSort (le := fun i j : Int => decide (i ≤ j)) (fun a b c h1 h2 => by simp at *; omega) (fun a b => by simp; omega) ns
  exact this.imp fun h => by simpa using h
theorem sorted_uniq {a b : List Int} (h : a.Perm b) (ha : a.Pairwise (· ≤ ·)) (hb : b.Pairwise (· ≤ ·)) : a = b := h.eq_of_pairwise (fun _ _ _ _ h1 h2 => Int.le_antisymm h1 h2) ha hb
def prOf : List D → Option (List (Int × Int))
  | [] => some []
  | .tup [.int i, .int j] :: xs => (prOf xs).map fun l => (i, j) :: l
  | _ => none
abbrev prD (p : Int × Int) : D := .tup [.int p.1, .int p.2]
def prLe (p q : Int × Int) : Bool := decide (p.1 < q.1) || (decide (p.1 = q.1) && decide (p.2 ≤ q.2))
def srtP (ps : List (Int × Int)) : List (Int × Int) := ps.mergeSort prLe
theorem srtP_perm (ps : List (Int × Int)) : (srtP ps).Perm ps := List.mergeSort_perm _ _
theorem prLe_iff {p q : Int × Int} : prLe p q = true ↔ p.1 < q.1 ∨ (p.1 = q.1 ∧ p.2 ≤ q.2) := by
  unfold prLe
  simp
theorem srtP_le (ps : List (Int × Int)) : (srtP ps).Pairwise fun p q => prLe p q = true :=
  List.pairwise_mergeSort (le := prLe) (fun a b c h1 h2 => by rw [prLe_iff] at *; omega) (fun a b => by
    rw [Bool.or_eq_true, prLe_iff, prLe_iff]; omega) ps
theorem sortedP_uniq {a b : List (Int × Int)} (h : a.Perm b) (ha : a.Pairwise fun p q => prLe p q = true) (hb : b.Pairwise fun p q => prLe p q = true) : a = b :=
  h.eq_of_pairwise (fun p q _ _ h1 h2 => by
    rw [prLe_iff] at h1 h2
    exact Prod.ext (by omega) (by omega)) ha hb
def bSorted (xs : List W) (rt : List O) : Ou W := match xs with
  | [x] => match lsOf x rt with
    | some ds => match intsOf ds with
      | some ns => .ok (.r rt.length) (rt ++ [.lst ((srtI ns).map D.int)])
      | none => match prOf ds with
        | some ps => .ok (.r rt.length) (rt ++ [.lst ((srtP ps).map prD)])
        | none => .no
    | none => .no
  | _ => .no
end
section
variable {K : PySem.W.Frag} {w : World} {H : Hp}
/-- what a pair of the list stands for -/
theorem prs_ok : ∀ {vs : List V} {xs : List D} {ps : List (Int × Int)}, Dens K w H vs xs → prOf xs = some ps → ∃ as : List Addr, vs = as.map V.ref ∧ as.length = ps.length ∧ ∀ (i : Nat) (a : Addr) (p : Int × Int), as[i]? = some a → ps[i]? = some p → H a = some (.tup [.int p.1, .int p.2])
  | _, _, _, .nil, e => by cases e; exact ⟨[], rfl, rfl, fun i a p h _ => by simp at h⟩
  | _, _, _, .cons (x := x) (xs := xs) d t, e => by
    unfold prOf at e
    split at e
    · rename_i h; cases h
    · rename_i i j ys h
      cases h
      obtain ⟨l, h1, rfl⟩ := Option.map_eq_some_iff.mp e
      obtain ⟨as, rfl, hl, ht⟩ := prs_ok t h1
      cases d with
      | @tup a vs _ h2 h3 =>
        cases h3 with
        | cons k1 t1 => cases t1 with
          | cons k2 t2 => cases t2 with
            | nil =>
              cases k1; cases k2
              refine ⟨a :: as, rfl, by simp [hl], fun n b p e1 e2 => ?_⟩
              cases n with
              | zero => simp at e1 e2; subst e1 e2; exact h2
              | succ n => exact ht n b p (by simpa using e1) (by simpa using e2)
    · cases e
end
section
variable {X : Cx}
/-- the pair at a reference -/
noncomputable def kOf (H : Hp) : V → Int × Int
  | .ref a => match H a with
    | some (.tup [.int i, .int j]) => (i, j)
    | _ => (0, 0)
  | _ => (0, 0)
theorem dens_pairs {K : PySem.W.Frag} {w : World} {H : Hp} : ∀ {ys : List V}, (∀ y ∈ ys, ∃ t, y = V.ref t ∧ H t = some (.tup [.int (kOf H y).1, .int (kOf H y).2])) → Dens K w H ys ((ys.map (kOf H)).map prD)
  | [], _ => .nil
  | y :: ys, h => by
    obtain ⟨t, e, ht⟩ := h y (List.mem_cons_self ..)
    refine .cons ?_ (dens_pairs fun z hz => h z (List.mem_cons_of_mem _ hz))
    rw [e] at ht ⊢
    exact .tup ht (.cons (.int _) (.cons (.int _) .nil))
theorem cv_sorted (hc : X.calm = true) : CallV X (.builtin "sorted") bSorted := by
  refine ⟨_, cr_sortedI.or cr_sortedPO, fun Wx B Hs ρ rt σ H Q xs us R d p => ?_⟩
  unfold bSorted at p
  split at p
  · obtain ⟨v, rfl, d1⟩ := wds1 d
    split at p
    · rename_i ds ed
      obtain ⟨l, vs, rfl, h1, h2⟩ := lsOf_ok R d1 ed
      split at p
      · rename_i ns en
        refine .inl ⟨l, ns, rfl, by rw [← ints_ok h2 en]; exact SqL.of h1, fun ns' q hp hs hq => ?_⟩
        have := sorted_uniq (hp.trans (srtI_perm ns).symm) hs (srtI_le ns)
        subst this
        exact new_list R (dens_ints _) p q hq
      · split at p
        · rename_i ps ep
          obtain ⟨as, rfl, hl, ht⟩ := prs_ok h2 ep
          have hk : (as.map V.ref).map (kOf Hs) = ps := by
            refine List.ext_getElem (by simp [hl]) fun i k1 k2 => ?_
            simp only [List.length_map] at k1
            have := ht i as[i] ps[i] (by simp) (by simp)
            simp [kOf, this]
          have hx : ∀ x ∈ as.map V.ref, ∃ t, x = V.ref t ∧ Hs t = some (.tup [.int (kOf Hs x).1, .int (kOf Hs x).2]) := fun x hx => by
            obtain ⟨a, ha, rfl⟩ := List.mem_map.mp hx
            obtain ⟨i, hi, rfl⟩ := List.getElem_of_mem ha
            have := ht i as[i] (ps[i]'(by omega)) (by simp) (by simp)
            exact ⟨_, rfl, by rw [this]; simp [kOf, this]⟩
          refine .inr ⟨l, as.map V.ref, kOf Hs, rfl, SqL.of h1, fun x hm => ?_, fun ys q hs hb hq => ?_⟩
          · obtain ⟨t, e, ht⟩ := hx x hm
            exact ⟨t, e, R.same _ _ ht⟩
          · have hm : ∀ y ∈ ys, y ∈ as.map V.ref := fun y hy => hb.perm.mem_iff.mp hy
            have hd : Dens X.K X.w Hs ys ((ys.map (kOf Hs)).map prD) := dens_pairs fun y hy => hx y (hm y hy)
            have e : ys.map (kOf Hs) = srtP ps := by
              refine sortedP_uniq ?_ ?_ (srtP_le ps)
              · refine List.Perm.trans ?_ (srtP_perm ps).symm
                rw [← hk]
                exact hb.perm.map _
              · rw [List.pairwise_map]
                refine hs.imp fun h => ?_
                rw [prLe_iff]
                have := SrtO.lexB_no.mp h
                omega
            rw [e] at hd
            exact new_list R hd p q hq
        · exact p.elim
    · exact p.elim
  · exact p.elim
end
end VE

set_option maxRecDepth 100000
set_option maxHeartbeats 1000000
namespace VE
open PySem PySem.Spec L2

/-! ### a walk over what may change: a turn asks the roots anew -/
inductive Nx where
  | it (x : W) (rt : List O) | stop | no
abbrev ItM := Nat → List O → Nx
def NxOk (K : PySem.W.Frag) (w : World) (B : Bnd) (Hs : Hp) (ρ : List Addr) (J : It) (i : Nat) (H : Hp) : Nx → Prop
  | .it x rt => J.go i H ∧ ∀ v H', J.yld i H v H' → ∃ Hs' ρ', Ext Hs ρ Hs' ρ' ∧ Rel K w B Hs' ρ' rt H' ∧ WD K w Hs' ρ' v x
  | .stop => J.stop i H
  | .no => True
/-- from here on, J is told by nx -/
def ItV (K : PySem.W.Frag) (w : World) (B : Bnd) (Hs : Hp) (ρ : List Addr) (J : It) (nx : ItM) : Prop :=
  ∀ i Hs' ρ' rt H, Ext Hs ρ Hs' ρ' → Rel K w B Hs' ρ' rt H → NxOk K w B Hs' ρ' J i H (nx i rt)
structure VIV (X : Cx) (Wx : WX) (tg iter : Expr) (m : Ex (ItM × Nat)) : Prop where
  ex : ∃ wi, PI X tg iter wi ∧ ∀ (B : Bnd) (Hs : Hp) (ρ : List Addr) (sl : Sl) (rt : List O) (σ : L2.St) (H : Hp) (Q : It → Hp → Prop), Rel X.K X.w B Hs ρ rt H → SlD X.K X.w Hs ρ σ sl →
    PEx X.K X.w B Wx Hs ρ σ (fun h r J q => ItV X.K X.w B h r J q.1) (m sl rt) Q → wi σ H Q
def forV (nx : ItM) (ks : List Nat) (L : Nat) (g : Gx) (body : Sx) : Nat → Nat → Sx
  | 0, _, _, _ => .no
  | m + 1, i, sl, rt => match nx i rt with
    | .stop => .nx sl rt
    | .no => .no
    | .it x rt => (g x sl rt).noex.seq sl fun sl rt => match body sl rt with
      | .nx sl rt => turnEnd ks L (forV nx ks L g body m (i + 1)) sl rt
      | .ct sl rt => turnEnd ks L (forV nx ks L g body m (i + 1)) sl rt
      | .bk sl rt => turnEnd ks L .nx sl rt
      | .re x rt => .re x rt
      | .ex c fs sl rt => .ex c fs sl rt
      | .no => .no
def sForV (ks : List Nat) (it : Ex (ItM × Nat)) (g : Gx) (body : Sx) : Sx := fun sl rt => (it sl rt).seq sl fun q rt => forV q.1 ks rt.length g body q.2 0 sl rt
theorem vs_forV {X : Cx} {Wx : WX} {tg iter : Expr} {body : List Stmt} {it : Ex (ItM × Nat)} {g : Gx} {m : Sx} {pos : Pos} (ks : List Nat) (hp : PassesOwn (model X.prog X.w) X.A X.env X.xe) (hc : X.calm = true) (hi : VIV X Wx tg iter it) (hg : VG X Wx tg g) (hb : VSs X Wx body m)
    (hs : ∀ x, foldedSetIterable iter X.env x = pure x := by intro _; rfl) : VS X Wx (.For tg iter body [] pos) (sForV ks it g m) := by
  obtain ⟨wi, i1, i2⟩ := hi.ex
  obtain ⟨tg', g1, g2⟩ := hg.ex
  obtain ⟨tb, b1, b2⟩ := hb.ex
  refine ⟨_, ps_for hp hc i1 g1 b1 hs, fun B Hs ρ sl rt σ H D R S p => ?_⟩
  refine i2 B Hs ρ sl rt σ H _ R S (PEx.seq S p fun q rt1 J Hs1 ρ1 H1 e1 R1 d1 p1 => ?_)
  obtain ⟨nx, fu⟩ := q
  simp only at d1 p1
  rw [← R1.len] at p1
  refine ⟨fun i k σ' H' => Stt X B Hs1 ρ1 σ.length σ' H' fun sl' rt' => PSx X.K X.w B Wx Hs1 ρ1 σ.length (forV nx ks ρ1.length g m k i sl' rt') D,
    ⟨fu, Hs1, ρ1, sl, rt1, Ext.refl, R1, S.mono e1, rfl, p1⟩, ?_⟩
  rintro i k σ' H' ⟨Hs', ρ', sl', rt', e2, R2, S2, l2, p2⟩
  cases k with
  | zero => exact p2.elim
  | succ k =>
  unfold forV at p2
  have hj := d1 i Hs' ρ' rt' H' e2 R2
  cases hnx : nx i rt' with
  | no => rw [hnx] at p2; exact p2.elim
  | stop =>
    rw [hnx] at p2 hj
    exact .inl ⟨hj, p2 Hs' ρ' σ' H' e2 R2 S2 l2⟩
  | it x rx =>
    rw [hnx] at p2 hj
    obtain ⟨hgo, hy⟩ := hj
    simp only at p2
    refine .inr ⟨hgo, fun σ' H' => Stt X B Hs1 ρ1 σ.length σ' H' fun sl' rt' => PSx X.K X.w B Wx Hs1 ρ1 σ.length (forV nx ks ρ1.length g m k (i + 1) sl' rt') D, fun σ'' H'' h => ⟨k, Nat.lt_succ_self k, h⟩, fun v H2 yv => ?_⟩
    obtain ⟨Hs3, ρ3, e3, R3, d3⟩ := hy v H2 yv
    refine g2 B Hs3 ρ3 x v sl' rx σ' H2 _ R3 (S2.mono e3) d3 ?_
    cases hgo : g x sl' rx with
    | no => rw [hgo] at p2; exact p2.elim
    | ex c fs rt4 => rw [hgo] at p2; exact p2.elim
    | ok sl4 rt4 =>
      rw [hgo] at p2
      intro σ4 Hs4 ρ4 H4 e4 R4 d4
      have l4 : σ4.length = σ.length := d4.2.trans l2
      refine b2 B Hs4 ρ4 sl4 rt4 σ4 H4 _ R4 d4.1 ?_
      have e14 := (e2.trans e3).trans e4
      rw [l4]
      simp only [Ou.noex, Ou.seq] at p2
      cases hbo : m sl4 rt4 with
      | nx sl5 rt5 =>
        rw [hbo] at p2
        exact fun Hs5 ρ5 σ5 H5 e5 R5 S5 l5 => turn_ok (e14.trans e5) R5 S5 l5 p2
      | ct sl5 rt5 =>
        rw [hbo] at p2
        exact fun Hs5 ρ5 σ5 H5 e5 R5 S5 l5 => turn_ok (e14.trans e5) R5 S5 l5 p2
      | bk sl5 rt5 =>
        rw [hbo] at p2
        intro Hs5 ρ5 σ5 H5 e5 R5 S5 l5
        obtain ⟨Hs6, ρ6, sl6, rt6, e6, R6, S6, l6, p6⟩ := turn_ok (ks := ks) (k := Os.nx) (e14.trans e5) R5 S5 l5 p2
        exact p6 Hs6 ρ6 σ5 H5 e6 R6 S6 l6
      | re x5 rt5 => rw [hbo] at p2; exact PSx.ext (o := .re x5 rt5) p2 e14
      | ex c fs sl5 rt5 => rw [hbo] at p2; exact PSx.ext (o := .ex c fs sl5 rt5) p2 e14
      | no => rw [hbo] at p2; exact p2.elim
def compV (nx : ItM) (vs : List Nat) (d : Nat) (g : Gx) (tt : Ex Bool) (el : Ex W) (sl : Sl) : Nat → Nat → List O → Ou Unit
  | 0, _, _ => .no
  | m + 1, i, rt => match nx i rt with
    | .stop => .ok () rt
    | .no => .no
    | .it x rt => (g x (kill vs sl) rt).noex.bind fun sl1 rt => (tt sl1 rt).noex.bind fun b rt => if b = true then (el sl1 rt).noex.bind fun y rt => (vOf y rt).bind fun z rt => match rt[d]? with
        | some (.lst acc) => if acc.length < 16000000 ∧ tkOk (d + 1) ((rt.set d (.lst (acc ++ [z]))).take (d + 1)) = true then compV nx vs d g tt el sl m (i + 1) ((rt.set d (.lst (acc ++ [z]))).take (d + 1)) else .no
        | _ => .no
      else if tkOk (d + 1) (rt.take (d + 1)) = true then compV nx vs d g tt el sl m (i + 1) (rt.take (d + 1)) else .no
def eCompV (vs : List Nat) (it : Ex (ItM × Nat)) (g : Gx) (tt : Ex Bool) (el : Ex W) : Ex W := fun sl rt => (it sl rt).bind fun q rt => (compV q.1 vs rt.length g tt el sl q.2 0 (rt ++ [.lst []])).bind fun _ rt' => .ok (.r rt.length) rt'
section
variable {X : Cx} {Wx : WX} {elt tg iter : Expr} {ifs : List Expr} {scope : Scope} {own : List (Str × Nat)} {pos : Pos} {it : Ex (ItM × Nat)} {g : Gx} {mt : Ex Bool} {me : Ex W}
theorem compV_ok {wi : TI} (i2 : ∀ (B : Bnd) (Hs : Hp) (ρ : List Addr) (sl : Sl) (rt : List O) (σ : L2.St) (H : Hp) (Q : It → Hp → Prop), Rel X.K X.w B Hs ρ rt H → SlD X.K X.w Hs ρ σ sl → PEx X.K X.w B Wx Hs ρ σ (fun h r J q => ItV X.K X.w B h r J q.1) (it sl rt) Q → wi σ H Q)
    (vs : List Nat) (B : Bnd) (Hs : Hp) (ρ : List Addr) (sl : Sl) (rt : List O) (σ : L2.St) (H : Hp) (Q : VK) (R : Rel X.K X.w B Hs ρ rt H) (S : SlD X.K X.w Hs ρ σ sl) (p : PE1 X.K X.w B Wx Hs ρ σ (eCompV vs it g mt me sl rt) Q) :
    tLc wi (gM X.K X.w vs g) (tMT X.K X.w WF mt) (tM X.K X.w WF me) vs σ H Q := by
  refine i2 B Hs ρ sl rt σ H _ R S (PEx.bind p fun q rt1 J Hs1 ρ1 H1 e1 R1 d1 p1 => ?_)
  obtain ⟨nx, fu⟩ := q
  simp only at d1 p1
  intro D hD
  have R2 := R1.push (o := .lst []) (u := .lst []) hD (.lst upd_same .nil)
  have S1 := S.mono e1
  -- the state between turns: the list's root is the last one
  refine ⟨fun i m H' => ∃ Hs' rt' acc, Same Hs1 Hs' ∧ Rel X.K X.w B Hs' (ρ1 ++ [D]) (rt' ++ [acc]) H' ∧ rt'.length = rt1.length ∧
      PE1 X.K X.w B Wx Hs1 ρ1 σ ((compV nx vs rt1.length g mt me sl m i (rt' ++ [acc])).bind fun _ rt'' => .ok (.r rt1.length) rt'') Q,
    ⟨fu, Hs1, rt1, .lst [], Same.rfl', R2, rfl, p1⟩, ?_⟩
  rintro i m H' ⟨Hs', rt', acc, s2, R3, hlen, p2⟩
  cases m with
  | zero => exact p2.elim
  | succ m =>
  unfold compV at p2
  have hj := d1 i Hs' (ρ1 ++ [D]) (rt' ++ [acc]) H' ⟨s2, [D], rfl⟩ R3
  cases hnx : nx i (rt' ++ [acc]) with
  | no => rw [hnx] at p2; exact p2.elim
  | stop =>
    rw [hnx] at p2 hj
    exact .inl ⟨hj, p2 (.ref D) Hs' _ H' ⟨s2, [D], rfl⟩ R3 ⟨D, by rw [← R1.len, List.getElem?_append_right (Nat.le_refl _), Nat.sub_self]; rfl, rfl⟩⟩
  | it x rx =>
    rw [hnx] at p2 hj
    obtain ⟨hgo, hy⟩ := hj
    refine .inr ⟨hgo, fun H' => ∃ Hs' rt' acc, Same Hs1 Hs' ∧ Rel X.K X.w B Hs' (ρ1 ++ [D]) (rt' ++ [acc]) H' ∧ rt'.length = rt1.length ∧
      PE1 X.K X.w B Wx Hs1 ρ1 σ ((compV nx vs rt1.length g mt me sl m (i + 1) (rt' ++ [acc])).bind fun _ rt'' => .ok (.r rt1.length) rt'') Q, fun H'' h => ⟨m, Nat.lt_succ_self m, h⟩, fun v H2 yv => ?_⟩
    obtain ⟨Hs3, ρ3, e3', R4, d3⟩ := hy v H2 yv
    obtain ⟨e3, tx, rfl⟩ := e3'
    simp only at p2
    have S3 : SlD X.K X.w Hs3 (ρ1 ++ [D] ++ tx) (wipe σ vs) (kill vs sl) := (S1.wipe vs).mono ⟨Same.trans' s2 e3, D :: tx, by simp⟩
    have s13 := Same.trans' s2 e3
    cases hg : g x (kill vs sl) rx with
    | no => rw [hg] at p2; exact p2.elim
    | ex c fs rt4 => rw [hg] at p2; exact p2.elim
    | ok sl4 rt4 =>
      rw [hg] at p2
      simp only [Ou.noex, Ou.bind] at p2
      refine ⟨B, Hs3, _, x, _, _, sl4, rt4, R4, S3, d3, hg, fun σ4 S4 w4 er => ?_⟩
      subst er
      have ww : wipe (wipe σ vs) vs = wipe σ vs := by
        refine List.ext_getElem? fun j => ?_
        rw [wipe_get, wipe_get, wipe_length]
        by_cases hj : j ∈ vs ∧ j < σ.length
        · rw [if_pos hj, if_pos hj]
        · rw [if_neg hj, if_neg hj]
      refine ⟨w4.trans ww, ?_⟩
      refine ⟨B, Hs3, _, sl4, _, R4, S4, ?_⟩
      -- the tests
      cases ht : mt sl4 rt4 with
      | no => rw [ht] at p2; exact p2.elim
      | ex c fs rt5 => rw [ht] at p2; exact p2.elim
      | ok b rt5 =>
        rw [ht] at p2
        simp only [Ou.bind] at p2
        intro b' Hs5 ρ5 H5 e5 R5 eb
        subst eb
        have hext : ∃ t5, ρ5 = ρ1 ++ (D :: t5) := by
          obtain ⟨_, t, rfl⟩ := e5
          exact ⟨tx ++ t, by simp⟩
        obtain ⟨t5, rfl⟩ := hext
        have hl5 : rt1.length + 1 ≤ rt5.length := by
          have := R5.len
          rw [List.length_append, List.length_cons, R1.len] at this
          omega
        have takeρ : ∀ t : List Addr, (ρ1 ++ (D :: t)).take (rt1.length + 1) = ρ1 ++ [D] := fun t => by
          rw [← R1.len, List.take_append, List.take_of_length_le (Nat.le_succ _)]
          simp
        have dAt : ∀ t : List Addr, (ρ1 ++ (D :: t))[rt1.length]? = some D := fun t => by
          rw [← R1.len, List.getElem?_append_right (Nat.le_refl _), Nat.sub_self]
          rfl
        cases b' with
        | false =>
          rw [if_neg Bool.false_ne_true]
          simp only [Bool.false_eq_true, if_false] at p2
          by_cases htk : tkOk (rt1.length + 1) (rt5.take (rt1.length + 1)) = true
          · rw [if_pos htk] at p2
            have R6 := R5.take (k := rt1.length + 1) hl5 (tk_lt htk)
            rw [takeρ] at R6
            obtain ⟨rt6, o6, h6⟩ : ∃ rt6 o6, rt5.take (rt1.length + 1) = rt6 ++ [o6] ∧ rt6.length = rt1.length := by
              refine ⟨rt5.take rt1.length, rt5[rt1.length]'(by omega), ?_, by rw [List.length_take]; omega⟩
              rw [List.take_succ_eq_append_getElem]
            rw [h6.1] at R6 p2
            exact ⟨Hs5, rt6, o6, Same.trans' s13 e5.same, R6, h6.2, p2⟩
          · rw [if_neg htk] at p2
            exact p2.elim
        | true =>
          rw [if_pos rfl]
          simp only [if_true] at p2
          refine ⟨B, Hs5, _, sl4, rt5, R5, S4.mono e5, ?_⟩
          cases he : me sl4 rt5 with
          | no => rw [he] at p2; exact p2.elim
          | ex c fs rt7 => rw [he] at p2; exact p2.elim
          | ok y rt7 =>
            rw [he] at p2
            simp only [Ou.bind] at p2
            intro u Hs7 ρ7 H7 e7 R7 d7
            obtain ⟨t7, rfl⟩ : ∃ t7, ρ7 = ρ1 ++ (D :: t7) := by
              obtain ⟨_, t, rfl⟩ := e7
              exact ⟨t5 ++ t, by simp⟩
            cases hv : vOf y rt7 with
            | no => rw [hv] at p2; exact p2.elim
            | ex c fs rt8 => exact (vOf_noex hv).elim
            | ok z rt8 =>
              rw [hv] at p2
              simp only [Ou.bind] at p2
              obtain ⟨Hs8, e8, R8, d8⟩ := vOf_ok R7 d7 z rt8 hv
              cases hr : rt8[rt1.length]? with
              | none => simp only [hr] at p2; exact p2.elim
              | some o =>
                cases o <;> simp only [hr] at p2 <;> first | exact p2.elim | skip
                rename_i acc8
                obtain ⟨a8, us8, ea, h8, dd8, w8⟩ := live_lst (v := .ref D) R8 ⟨D, dAt t7, rfl⟩ (show rd rt8 rt1.length = some (.lst acc8) by unfold rd; rw [hr])
                cases ea
                by_cases hlt : acc8.length < 16000000 ∧ tkOk (rt1.length + 1) ((rt8.set rt1.length (.lst (acc8 ++ [z]))).take (rt1.length + 1)) = true
                · rw [if_pos hlt] at p2
                  refine ⟨us8, h8, lim_lt (by rw [dd8.length]; exact hlt.1), ?_⟩
                  have R9 := w8 (us8 ++ [u]) (acc8 ++ [z]) (dd8.append (.cons d8 .nil))
                  rw [show wr rt8 rt1.length (.lst (acc8 ++ [z])) = rt8.set rt1.length (.lst (acc8 ++ [z])) by unfold wr; rw [hr]] at R9
                  have hl8 : rt1.length + 1 ≤ rt8.length := (List.getElem?_eq_some_iff.mp hr).1
                  have R10 := R9.take (k := rt1.length + 1) (by simpa using hl8) (tk_lt hlt.2)
                  rw [takeρ] at R10
                  have hcut : (rt8.set rt1.length (.lst (acc8 ++ [z]))).take (rt1.length + 1) = rt8.take rt1.length ++ [.lst (acc8 ++ [z])] := by
                    rw [List.take_succ, List.getElem?_set_self (by omega), List.take_set_of_le (Nat.le_refl _)]
                    rfl
                  rw [hcut] at R10 p2
                  exact ⟨Hs8, rt8.take rt1.length, .lst (acc8 ++ [z]), Same.trans' s13 (Same.trans' e5.same (Same.trans' e7.same e8.same)), R10, by rw [List.length_take]; omega, p2⟩
                · rw [if_neg hlt] at p2
                  exact p2.elim
theorem vx_compV (vs : List Nat) (hc : X.calm = true) (hN : X.N.Nodup) (hi : VIV X Wx tg iter it) (ok : BlkOk X.N X.env.scope scope own) (hv : own.map (·.2) = vs := by rfl)
    (hg : ∀ (s : Shared) (H : Hp) (C : Addr) (cl : List (Str × Addr)) (fp : List Addr), VGc (X.blk s H scope (compEnvC scope cl C X.env) fp) vs tg g) (ht : ∀ (s : Shared) (H : Hp) (C : Addr) (cl : List (Str × Addr)) (fp : List Addr), VTs (X.blk s H scope (compEnvC scope cl C X.env) fp) WF ifs mt)
    (he : ∀ (s : Shared) (H : Hp) (C : Addr) (cl : List (Str × Addr)) (fp : List Addr), VX (X.blk s H scope (compEnvC scope cl C X.env) fp) WF elt me) (hs : ∀ x, foldedSetIterable iter X.env x = pure x := by intro _; rfl) :
    VX X Wx (.ListComp elt [⟨tg, iter, ifs, 0⟩] scope pos) (eCompV vs it g mt me) := by
  subst hv
  obtain ⟨wi, i1, i2⟩ := hi.ex
  exact vx_pe (pe_lc hc hN i1 ok (fun s H C cl fp => (hg s H C cl fp).pg) (fun s H C cl fp => (ht s H C cl fp).pts) (fun s H C cl fp => (he s H C cl fp).pe) hs) (compV_ok i2 _)
theorem vs_setCompV (vs : List Nat) {i : Nat} {y : Str} {py spos : Pos} (hc : X.calm = true) (hN : X.N.Nodup) (hy : X.N[i]? = some y) (hyl : X.env.scope.names.lookup y = some .local)
    (hsw : swapsWith (.ListComp elt [⟨tg, iter, ifs, 0⟩] scope pos) (some (.Name y py)) spos.line X.env = pure true) (hi : VIV X Wx tg iter it) (ok : BlkOk X.N X.env.scope scope own) (hv : own.map (·.2) = vs := by rfl)
    (hg : ∀ (s : Shared) (H : Hp) (C : Addr) (cl : List (Str × Addr)) (fp : List Addr), VGc (X.blk s H scope (compEnvC scope cl C X.env) fp) vs tg g) (ht : ∀ (s : Shared) (H : Hp) (C : Addr) (cl : List (Str × Addr)) (fp : List Addr), VTs (X.blk s H scope (compEnvC scope cl C X.env) fp) WF ifs mt)
    (he : ∀ (s : Shared) (H : Hp) (C : Addr) (cl : List (Str × Addr)) (fp : List Addr), VX (X.blk s H scope (compEnvC scope cl C X.env) fp) WF elt me) (hs : ∀ x, foldedSetIterable iter X.env x = pure x := by intro _; rfl) :
    VS X Wx (.Assign [.Name y py] (.ListComp elt [⟨tg, iter, ifs, 0⟩] scope pos) spos) (sSet i (eCompV vs it g mt me)) := by
  subst hv
  obtain ⟨wi, i1, i2⟩ := hi.ex
  refine ⟨_, ps_setLc (g := gM X.K X.w _ g) (tt := tMT X.K X.w WF mt) (te := tM X.K X.w WF me) hc hN hy hyl hsw i1 ok (fun s H C cl fp => (hg s H C cl fp).pg) (fun s H C cl fp => (ht s H C cl fp).pts) (fun s H C cl fp => (he s H C cl fp).pe) hs, fun B Hs ρ sl rt σ H D R S p => ?_⟩
  refine compV_ok i2 _ B Hs ρ sl rt σ H _ R S (PEx.seq S p fun x rt1 v Hs1 ρ1 H1 e1 R1 d1 p1 => ?_)
  exact p1 Hs1 ρ1 _ H1 Ext.refl R1 ((S.mono e1).set i d1) (by simp)
end
/-! ### for x in xs, xs a list that stays live -/
def nxL (n : Nat) : ItM := fun i rt => match rd rt n with
  | some (.lst xs) => match xs[i]? with
    | some x => .it (.d x) rt
    | none => .stop
  | some (.nst xs) => match xs[i]? with
    | some (.d x) => .it (.d x) rt
    | some _ => .it (.r rt.length) (rt ++ [.vw (locR rt n).1 ((locR rt n).2 ++ [.ix i])])
    | none => .stop
  | _ => .no
def itL (m : Ex W) : Ex (ItM × Nat) := fun sl rt => (m sl rt).bind fun x rt => match x with
  | .r n => match rd rt n with
    | some (.lst xs) => .ok (nxL n, xs.length + 1) rt
    | some (.nst xs) => .ok (nxL n, xs.length + 1) rt
    | _ => .no
  | _ => .no
theorem locR_of {K : PySem.W.Frag} {w : World} {B : Bnd} {Hs H : Hp} {ρ : List Addr} {rt : List O} {n : Nat} {v : V} {x : O} (R : Rel K w B Hs ρ rt H) (d : WD K w Hs ρ v (.r n)) (e : rd rt n = some x) (hx : x.isVw = false) :
    ∃ a b o, v = .ref a ∧ ρ[(locR rt n).1]? = some b ∧ rt[(locR rt n).1]? = some o ∧ o.isVw = false ∧ adr H (.ref b) o (locR rt n).2 = some (.ref a) ∧ getP o (locR rt n).2 = some x := by
  obtain ⟨a, m, p, b, o, h1, h2, h3, h4, h5, h6, _, h8⟩ := R.loc d e hx
  rw [h8]
  exact ⟨a, b, o, h1, h2, h3, h4, h5, h6⟩
theorem vi_live {X : Cx} {Wx : WX} {tg e : Expr} {m : Ex W} (h : VX X Wx e m) : VIV X Wx tg e (itL m) := by
  obtain ⟨t, a1, a2⟩ := h.ex
  refine ⟨_, pi_list a1, fun B Hs ρ sl rt σ H Q R S p => ?_⟩
  refine a2 B Hs ρ sl rt σ H _ R S (PEx.bind p fun x rt1 v Hs1 ρ1 H1 e1 R1 d1 p1 => ?_)
  cases x with
  | d x => exact p1.elim
  | r n =>
    obtain ⟨a, ha, rfl⟩ := d1
    have hit : ItV X.K X.w B Hs1 ρ1 (Itl X.K a) (nxL n) := by
      intro i Hs' ρ' rt' H' e' R'
      have d' : WD X.K X.w Hs' ρ' (.ref a) (.r n) := ⟨a, e'.at ha, rfl⟩
      unfold nxL
      cases ho : rd rt' n with
      | none => exact trivial
      | some o =>
        cases o <;> simp only <;> first | exact trivial | skip
        · rename_i xs
          obtain ⟨a', vs, ea, h1, h2, _⟩ := live_lst R' d' ho
          cases ea
          cases hx : xs[i]? with
          | none =>
            exact ⟨vs, SqL.of h1, by rw [h2.length]; exact List.getElem?_eq_none_iff.mp hx⟩
          | some x =>
            obtain ⟨u, hu, du⟩ := h2.get hx
            refine ⟨⟨vs, u, SqL.of h1, hu⟩, fun v H2 ⟨eh, hv⟩ => ?_⟩
            subst eh
            have := hv vs (SqL.of h1)
            rw [hu] at this
            cases this
            exact ⟨Hs', ρ', Ext.refl, R', du⟩
        · rename_i xs
          obtain ⟨a', b, o, ea, hb, ho', hov, had, hgp⟩ := locR_of R' d' ho rfl
          cases ea
          obtain ⟨_, C, ea, hown, _⟩ := R'.at d' ho rfl
          cases ea
          cases hown with
          | @nst _ vs _ A h1 h2 =>
          have hlen := h2.length
          cases hx : xs[i]? with
          | none =>
            exact ⟨vs, SqL.of h1, by rw [hlen]; exact List.getElem?_eq_none_iff.mp hx⟩
          | some x =>
            obtain ⟨u, hu⟩ := h2.get hx
            have hgo : (Itl X.K a).go i H' := ⟨vs, u, SqL.of h1, hu⟩
            obtain ⟨A1, B1, A2, rfl, hox, _⟩ := h2.split hu hx
            have kid : Kid H' (.ref a) (.nst xs) (.ix i) u x (fun y => .nst (xs.set i y)) := .nst h1 hu hx
            have view : ∀ q : ∀ y, x ≠ .d y, ∃ c, u = .ref c := fun q => by
              cases hox <;> first | exact ⟨_, rfl⟩ | exact absurd rfl (q _)
            cases x with
            | d y =>
              refine ⟨hgo, fun v H2 ⟨eh, hv⟩ => ?_⟩
              subst eh
              have := hv vs (SqL.of h1)
              rw [hu] at this
              cases this
              cases hox with
              | d hd => exact ⟨Hs', ρ', Ext.refl, R', hd⟩
            | vw _ _ => cases hox
            | _ =>
              refine ⟨hgo, fun v H2 ⟨eh, hv⟩ => ?_⟩
              subst eh
              have := hv vs (SqL.of h1)
              rw [hu] at this
              cases this
              obtain ⟨c, rfl⟩ := view fun y => fun z => nomatch z
              have hl : adr H2 (.ref b) o ((locR rt' n).2 ++ [.ix i]) = some (.ref c) := by
                rw [adr_app had hgp, kid.adr, adr_nil]
              exact ⟨Hs', ρ' ++ [c], Ext.push, R'.pushV hb ho' hov hl, ⟨c, by rw [← R'.len, List.getElem?_append_right (Nat.le_refl _), Nat.sub_self]; rfl, rfl⟩⟩
    cases ho : rd rt1 n with
    | none => simp only [ho] at p1; exact p1.elim
    | some o =>
      cases o <;> simp only [ho] at p1 <;> first | exact p1.elim | skip
      · obtain ⟨a', vs, ea, h1, h2, _⟩ := live_lst R1 ⟨a, ha, rfl⟩ ho
        cases ea
        exact ⟨a, rfl, ⟨vs, SqL.of h1⟩, p1 _ Hs1 ρ1 H1 Ext.refl R1 hit⟩
      · obtain ⟨_, C, ea, hown, _⟩ := R1.at ⟨a, ha, rfl⟩ ho rfl
        cases ea
        cases hown with
        | nst h1 h2 => exact ⟨a, rfl, ⟨_, SqL.of h1⟩, p1 _ Hs1 ρ1 H1 Ext.refl R1 hit⟩
end VE

set_option maxRecDepth 100000
set_option maxHeartbeats 1000000
namespace VE
open PySem PySem.Spec L2
/-! ### what is never reached: nothing is told of it -/
def sNo : Sx := fun _ _ => .no
def eNo {α : Type} : Ex α := fun _ _ => .no
section
variable {X : Cx} {Wx : WX} {st : Stmt} {sts : List Stmt} {e : Expr}
theorem vs_stuck : VS X Wx st sNo := ⟨fun _ _ _ => False, ⟨fun _ _ _ _ _ _ h => h.elim⟩, fun _ _ _ _ _ _ _ _ _ _ p => p⟩
theorem vx_stuck : VX X Wx e eNo := ⟨fun _ _ _ => False, ⟨fun _ _ _ _ _ _ h => h.elim⟩, fun _ _ _ _ _ _ _ _ _ _ p => p⟩
theorem vt_stuck : VT X Wx e eNo := ⟨fun _ _ _ => False, ⟨fun _ _ _ _ _ _ h => h.elim⟩, fun _ _ _ _ _ _ _ _ _ _ p => p⟩
end
/-! ### a def that calls itself: a mirror for each depth -/
def mNo : FM := fun _ _ => .no
theorem fn_no {P : Program} {w : World} {K : PySem.W.Frag} {mg : Str → Option Value} {base : Heap} {CX : CXT} {k np : Nat} {f : Addr} {fd : FuncData} {ps : List Str} (h : ps.length = np) : FnOk P w K mg base CX k f fd ps (spV K w mNo np) :=
  ⟨fun vs H Q E q => by rw [h]; exact q.1, fun _ _ _ _ _ _ _ _ _ _ _ _ _ q => by
    obtain ⟨_, _, _, _, _, _, _, _, p⟩ := q
    exact p.elim⟩
end VE

set_option maxRecDepth 100000
set_option maxHeartbeats 1000000
namespace VE
open PySem PySem.Spec L2

/-! ### an empty dict; keys that are numbers or texts; keys that are tuples -/
def eDK0 : Ex W := fun _ rt => .ok (.r rt.length) (rt ++ [.dk []])
def eDT0 : Ex W := fun _ rt => .ok (.r rt.length) (rt ++ [.dt []])
section
variable {X : Cx} {Wx : WX} {pos : Pos}
theorem vx_dk0 : VX X Wx (.Dict [] [] pos) eDK0 := vx_pe pe_dnewK fun B Hs ρ sl rt σ H Q R S p q hq =>
  p _ Hs _ _ Ext.push (R.push hq (.dk upd_same .nil)) ⟨q, by rw [← R.len, List.getElem?_append_right (Nat.le_refl _), Nat.sub_self]; rfl, rfl⟩
theorem vx_dt0 : VX X Wx (.Dict [] [] pos) eDT0 := vx_pe pe_dnewT fun B Hs ρ sl rt σ H Q R S p q hq =>
  p _ Hs _ _ Ext.push (R.push hq (.dt upd_same .nil)) ⟨q, by rw [← R.len, List.getElem?_append_right (Nat.le_refl _), Nat.sub_self]; rfl, rfl⟩
end
/-! ### a truth value of what stands -/
def trO : Option O → Option Bool
  | some (.lst xs) => some (!xs.isEmpty)
  | some (.dk kvs) => some (!kvs.isEmpty)
  | some (.d (.lst xs)) => some (!xs.isEmpty)
  | some (.d (.tup xs)) => some (!xs.isEmpty)
  | _ => none
def trD (x : W) (rt : List O) : Option Bool := match x with
  | .d .non => some false
  | .d (.bl b) => some b
  | .d (.int i) => some (i != 0)
  | .d (.tup xs) => some (!xs.isEmpty)
  | .d (.lst xs) => some (!xs.isEmpty)
  | .r n => trO (rd rt n)
  | _ => none
def eTr (m : Ex W) : Ex Bool := fun sl rt => (m sl rt).bind fun x rt => match trD x rt with
  | some b => .ok b rt
  | none => .no
theorem emp_dens {K : PySem.W.Frag} {w : World} {H : Hp} {vs : List V} {xs : List D} (h : Dens K w H vs xs) : vs.isEmpty = xs.isEmpty := by cases h <;> rfl
theorem emp_denA {K : PySem.W.Frag} {w : World} {H : Hp} {vs : List (Key × V)} {xs : List (Key × D)} (h : DenA K w H vs xs) : vs.isEmpty = xs.isEmpty := by
  have := h.length
  cases vs <;> cases xs <;> simp at this ⊢
theorem trD_ok {K : PySem.W.Frag} {w : World} {B : Bnd} {Hs H : Hp} {ρ : List Addr} {rt : List O} {v : V} {x : W} {b : Bool} (R : Rel K w B Hs ρ rt H) (d : WD K w Hs ρ v x) (e : trD x rt = some b) : TruV K v H b := by
  cases x with
  | d x =>
    cases x <;> simp only [trD] at e <;> first | (cases e; done) | skip
    · cases d; cases e; exact rfl
    · cases d; cases e; exact rfl
    · cases d; cases e; exact rfl
    · cases d with
      | tup h1 h2 => cases e; exact .inr (.inl ⟨_, SqT.of (R.same _ _ h1), by rw [emp_dens h2]⟩)
    · cases d with
      | lst h1 h2 => cases e; exact .inl ⟨_, SqL.of (R.same _ _ h1), by rw [emp_dens h2]⟩
  | r n =>
    simp only [trD] at e
    cases ho : rd rt n with
    | none => rw [ho] at e; cases e
    | some o =>
      rw [ho] at e
      cases o <;> simp only [trO] at e <;> first | (cases e; done) | skip
      · rename_i x
        obtain ⟨a, C, rfl, h1, _⟩ := R.at d ho rfl
        cases x <;> simp only at e <;> first | (cases e; done) | skip
        · cases e
          cases h1 with
          | d h2 => cases h2 with
            | tup h1 h2 => exact .inr (.inl ⟨_, SqT.of (R.same _ _ h1), by rw [emp_dens h2]⟩)
        · cases e
          cases h1 with
          | d h2 => cases h2 with
            | lst h1 h2 => exact .inl ⟨_, SqL.of (R.same _ _ h1), by rw [emp_dens h2]⟩
      · cases e
        obtain ⟨a, C, rfl, h1, _⟩ := R.at d ho rfl
        cases h1 with
        | lst h1 h2 => exact .inl ⟨_, SqL.of h1, by rw [emp_dens h2]⟩
      · cases e
        obtain ⟨a, C, rfl, h1, _⟩ := R.at d ho rfl
        cases h1 with
        | dk h1 h2 => exact .inr (.inr ⟨_, h1, by rw [emp_denA h2]⟩)
theorem vt_tr {X : Cx} {Wx : WX} {a : Expr} {ma : Ex W} (ha : VX X Wx a ma) (he : ∀ whole, isTrue a X.env whole = (do let v ← whole; standAt a.pos; holding [v] (truthy v)) := by intro _; rfl) : VT X Wx a (eTr ma) := by
  obtain ⟨ta, a1, a2⟩ := ha.ex
  refine ⟨_, pt_truth a1 he, fun B Hs ρ sl rt σ H Q R S p => ?_⟩
  refine a2 B Hs ρ sl rt σ H _ R S (PEx.bind p fun x rt1 v Hs1 ρ1 H1 e1 R1 d1 p1 => ?_)
  split at p1
  · rename_i b e
    exact ⟨b, trD_ok R1 d1 e, p1 b Hs1 ρ1 H1 Ext.refl R1 rfl⟩
  · exact p1.elim
/-! ### list(d), the keys of a dict -/
def kD : Key → D
  | .inl i => .int i
  | .inr x => .str x
def keyL : W → List O → Option (List D)
  | .r n, rt => match rd rt n with
    | some (.dk kvs) => some (kvs.map fun kv => kD kv.1)
    | _ => none
  | _, _ => none
def bListK (xs : List W) (rt : List O) : Ou W := match xs with
  | [x] => match keyL x rt with
    | some ys => .ok (.r rt.length) (rt ++ [.lst ys])
    | none => .no
  | _ => .no
theorem keys_dens {K : PySem.W.Frag} {w : World} {H H' : Hp} {kvs : List (Key × V)} {xs : List (Key × D)} (h : DenA K w H kvs xs) : Dens K w H' (kvs.map fun kv => kV kv.1) (xs.map fun kv => kD kv.1) := by
  have : ∀ {κ : Type} {vs : List (κ × V)} {xs : List (κ × D)}, DenA K w H vs xs → vs.map (·.1) = xs.map (·.1) := by
    intro κ vs xs h
    induction vs generalizing xs with
    | nil => cases h; rfl
    | cons v vs ih => cases h with
      | cons d t => rw [List.map_cons, List.map_cons, ih t]
  have e := this h
  have go : ∀ ks : List Key, Dens K w H' (ks.map kV) (ks.map kD) := fun ks => by
    induction ks with
    | nil => exact .nil
    | cons k ks ih => exact .cons (by cases k; exact .int _; exact .str _) ih
  have g := go (kvs.map (·.1))
  have e1 : kvs.map (fun kv => kV kv.1) = (kvs.map (·.1)).map kV := by rw [List.map_map]; rfl
  have e2 : xs.map (fun kv => kD kv.1) = (kvs.map (·.1)).map kD := by rw [e, List.map_map]; rfl
  rw [e1, e2]
  exact g

/-- a turn of a dict comprehension -/
theorem dc_it {J : It} {n : Nat} {G : Hp → Prop} {Y : Nat → Hp → V → Hp → Prop} (w : Walk J n G Y) {g : TG} {tt : TT} {tk tv : TE} {vs : List Nat} {σ : L2.St} {H1 : Hp} {D : Addr} {Qd : Hp → Prop} (Pv : Nat → Hp → Prop) (h0 : Pv 0 (upd H1 D (.dK []))) (hG : ∀ i H, i ≤ n → Pv i H → G H)
    (hs : ∀ i x H H', i < n → Pv i H → Y i H x H' → g x (wipe σ vs) H' fun σ2 H2 => wipe σ2 vs = wipe σ vs ∧ tt σ2 H2 fun b H3 =>
      if b = true then tk σ2 H3 fun y H4 => tv σ2 H4 fun z H5 => ∃ kvs k, y = kV k ∧ H5 D = some (.dK kvs) ∧ kvs.length < sizeLine ∧ Pv (i + 1) (upd H5 D (.dK (putK kvs k z))) else Pv (i + 1) H3) (hd : ∀ H, Pv n H → Qd H) :
    ∃ W : Nat → Nat → Hp → Prop, (∃ m, W 0 m (upd H1 D (.dK []))) ∧ ∀ i m H, W i m H →
      (J.stop i H ∧ Qd H) ∨ (J.go i H ∧ ∃ Nx : Hp → Prop, (∀ H', Nx H' → ∃ m', m' < m ∧ W (i + 1) m' H') ∧ ∀ x H', J.yld i H x H' → g x (wipe σ vs) H' fun σ2 H2 => wipe σ2 vs = wipe σ vs ∧ tt σ2 H2 fun b H3 =>
        if b = true then tk σ2 H3 fun y H4 => tv σ2 H4 fun z H5 => ∃ kvs k, y = kV k ∧ H5 D = some (.dK kvs) ∧ kvs.length < sizeLine ∧ Nx (upd H5 D (.dK (putK kvs k z))) else Nx H3) := by
  refine ⟨fun i m H => m = n - i ∧ i ≤ n ∧ Pv i H, ⟨n, by simp, Nat.zero_le _, h0⟩, ?_⟩
  rintro i m H ⟨rfl, hi, p⟩
  by_cases hlt : i < n
  · exact .inr ⟨w.goes i H hlt (hG i H hi p), Pv (i + 1), fun H' p' => ⟨n - (i + 1), by omega, rfl, hlt, p'⟩, fun x H' y => hs i x H H' hlt p (w.yields i H x H' hlt (hG i H hi p) y)⟩
  · obtain rfl : i = n := by omega
    exact .inl ⟨w.stops H (hG i H hi p), hd H p⟩
def dcompL (vs : List Nat) (d : Nat) (g : Gx) (tt : Ex Bool) (ek el : Ex W) (sl : Sl) : List D → List O → Ou Unit
  | [], rt => .ok () rt
  | x :: xs, rt => (g (.d x) (kill vs sl) rt).noex.bind fun sl1 rt => (tt sl1 rt).noex.bind fun b rt => if b = true then (ek sl1 rt).noex.bind fun yk rt => (el sl1 rt).noex.bind fun y rt => match yk with
      | .d zk => match keyOf zk with
        | some k => (vOf y rt).bind fun z rt => match rt[d]? with
          | some (.dk acc) => if acc.length < 16000000 ∧ tkOk (d + 1) ((rt.set d (.dk (dput acc k z))).take (d + 1)) = true then dcompL vs d g tt ek el sl xs ((rt.set d (.dk (dput acc k z))).take (d + 1)) else .no
          | _ => .no
        | none => .no
      | .r _ => .no
    else if tkOk (d + 1) (rt.take (d + 1)) = true then dcompL vs d g tt ek el sl xs (rt.take (d + 1)) else .no
def eDComp (vs : List Nat) (it : Ex (List D)) (g : Gx) (tt : Ex Bool) (ek el : Ex W) : Ex W := fun sl rt => (it sl rt).bind fun xs rt => (dcompL vs rt.length g tt ek el sl xs (rt ++ [.dk []])).bind fun _ rt' => .ok (.r rt.length) rt'
section
variable {X : Cx} {Wx : WX} {eltk elt tg iter : Expr} {ifs : List Expr} {scope : Scope} {own : List (Str × Nat)} {pos : Pos} {it : Ex (List D)} {g : Gx} {mt : Ex Bool} {mk me : Ex W}
theorem dcomp_ok {wi : TI} (i2 : ∀ (B : Bnd) (Hs : Hp) (ρ : List Addr) (sl : Sl) (rt : List O) (σ : L2.St) (H : Hp) (Q : It → Hp → Prop), Rel X.K X.w B Hs ρ rt H → SlD X.K X.w Hs ρ σ sl → PEx X.K X.w B Wx Hs ρ σ (fun h _ J xs => ItOk X.K X.w h J xs) (it sl rt) Q → wi σ H Q)
    (vs : List Nat) (B : Bnd) (Hs : Hp) (ρ : List Addr) (sl : Sl) (rt : List O) (σ : L2.St) (H : Hp) (Q : VK) (R : Rel X.K X.w B Hs ρ rt H) (S : SlD X.K X.w Hs ρ σ sl) (p : PE1 X.K X.w B Wx Hs ρ σ (eDComp vs it g mt mk me sl rt) Q) :
    tDc wi (gM X.K X.w vs g) (tMT X.K X.w WF mt) (tM X.K X.w WF mk) (tM X.K X.w WF me) vs σ H Q := by
  refine i2 B Hs ρ sl rt σ H _ R S (PEx.bind p fun xs rt1 J Hs1 ρ1 H1 e1 R1 d1 p1 => ?_)
  obtain ⟨G, Y, hw, hG, hY⟩ := d1.ex
  intro D hD
  have R2 := R1.push (o := .dk []) (u := .dK []) hD (.dk upd_same .nil)
  have S1 := S.mono e1
  -- the state between turns: the list's root is the last one
  refine dc_it hw (fun i H' => ∃ Hs' rt' acc, Same Hs1 Hs' ∧ Rel X.K X.w B Hs' (ρ1 ++ [D]) (rt' ++ [acc]) H' ∧ rt'.length = rt1.length ∧
      PE1 X.K X.w B Wx Hs1 ρ1 σ ((dcompL vs rt1.length g mt mk me sl (xs.drop i) (rt' ++ [acc])).bind fun _ rt'' => .ok (.r rt1.length) rt'') Q)
    ⟨Hs1, rt1, .dk [], Same.rfl', R2, rfl, by rw [List.drop_zero]; exact p1⟩ (fun i H' _ ⟨Hs', rt', acc, s2, R3, _⟩ => hG H' (Same.trans' s2 R3.same)) ?_ ?_
  · rintro i v H' H2 hi ⟨Hs', rt', acc, s2, R3, hlen, p2⟩ y
    obtain ⟨x, hx, hd⟩ := hY i H' v H2 hi y Hs' s2 R3.same
    have hdrop : xs.drop i = x :: xs.drop (i + 1) := by
      obtain ⟨q1, q2⟩ := List.getElem?_eq_some_iff.mp hx
      rw [List.drop_eq_getElem_cons q1, q2]
    obtain ⟨Hs3, e3, R4, d3⟩ : ∃ Hs3, Same Hs' Hs3 ∧ Rel X.K X.w B Hs3 (ρ1 ++ [D]) (rt' ++ [acc]) H2 ∧ Den X.K X.w Hs3 v x := by
      rcases hd with ⟨rfl, hd⟩ | ⟨T, o, hT, rfl, hd⟩
      · exact ⟨Hs', Same.rfl', R3, hd⟩
      · exact ⟨upd Hs' T o, same_upd (R3.fresh hT).1, R3.alloc hT, hd⟩
    rw [hdrop] at p2
    unfold dcompL at p2
    have S3 : SlD X.K X.w Hs3 (ρ1 ++ [D]) (wipe σ vs) (kill vs sl) := (S1.wipe vs).mono ⟨Same.trans' s2 e3, [D], rfl⟩
    have s13 := Same.trans' s2 e3
    cases hg : g (.d x) (kill vs sl) (rt' ++ [acc]) with
    | no => rw [hg] at p2; exact p2.elim
    | ex c fs rt4 => rw [hg] at p2; exact p2.elim
    | ok sl4 rt4 =>
      rw [hg] at p2
      simp only [Ou.noex, Ou.bind] at p2
      refine ⟨B, Hs3, _, .d x, _, _, sl4, rt4, R4, S3, d3, hg, fun σ4 S4 w4 er => ?_⟩
      subst er
      have ww : wipe (wipe σ vs) vs = wipe σ vs := by
        refine List.ext_getElem? fun j => ?_
        rw [wipe_get, wipe_get, wipe_length]
        by_cases hj : j ∈ vs ∧ j < σ.length
        · rw [if_pos hj, if_pos hj]
        · rw [if_neg hj, if_neg hj]
      refine ⟨w4.trans ww, ?_⟩
      refine ⟨B, Hs3, _, sl4, _, R4, S4, ?_⟩
      -- the tests
      cases ht : mt sl4 (rt' ++ [acc]) with
      | no => rw [ht] at p2; exact p2.elim
      | ex c fs rt5 => rw [ht] at p2; exact p2.elim
      | ok b rt5 =>
        rw [ht] at p2
        simp only [Ou.bind] at p2
        intro b' Hs5 ρ5 H5 e5 R5 eb
        subst eb
        have hext : ∃ t5, ρ5 = ρ1 ++ (D :: t5) := by
          obtain ⟨_, t, rfl⟩ := e5
          exact ⟨t, by simp⟩
        obtain ⟨t5, rfl⟩ := hext
        have hl5 : rt1.length + 1 ≤ rt5.length := by
          have := R5.len
          rw [List.length_append, List.length_cons, R1.len] at this
          omega
        have takeρ : ∀ t : List Addr, (ρ1 ++ (D :: t)).take (rt1.length + 1) = ρ1 ++ [D] := fun t => by
          rw [← R1.len, List.take_append, List.take_of_length_le (Nat.le_succ _)]
          simp
        have dAt : ∀ t : List Addr, (ρ1 ++ (D :: t))[rt1.length]? = some D := fun t => by
          rw [← R1.len, List.getElem?_append_right (Nat.le_refl _), Nat.sub_self]
          rfl
        cases b' with
        | false =>
          rw [if_neg Bool.false_ne_true]
          simp only [Bool.false_eq_true, if_false] at p2
          by_cases htk : tkOk (rt1.length + 1) (rt5.take (rt1.length + 1)) = true
          · rw [if_pos htk] at p2
            have R6 := R5.take (k := rt1.length + 1) hl5 (tk_lt htk)
            rw [takeρ] at R6
            obtain ⟨rt6, o6, h6⟩ : ∃ rt6 o6, rt5.take (rt1.length + 1) = rt6 ++ [o6] ∧ rt6.length = rt1.length := by
              refine ⟨rt5.take rt1.length, rt5[rt1.length]'(by omega), ?_, by rw [List.length_take]; omega⟩
              rw [List.take_succ_eq_append_getElem]
            rw [h6.1] at R6 p2
            exact ⟨Hs5, rt6, o6, Same.trans' s13 e5.same, R6, h6.2, p2⟩
          · rw [if_neg htk] at p2
            exact p2.elim
        | true =>
          rw [if_pos rfl]
          simp only [if_true] at p2
          refine ⟨B, Hs5, _, sl4, rt5, R5, S4.mono e5, ?_⟩
          cases hk : mk sl4 rt5 with
          | no => rw [hk] at p2; exact p2.elim
          | ex c fs rt6 => rw [hk] at p2; exact p2.elim
          | ok yk rt6 =>
          rw [hk] at p2
          simp only [Ou.bind] at p2
          intro uk Hs6 ρ6 H6 e6 R6 d6
          obtain ⟨t6, rfl⟩ : ∃ t6, ρ6 = ρ1 ++ (D :: t6) := by
            obtain ⟨_, t, rfl⟩ := e6
            exact ⟨t5 ++ t, by simp⟩
          refine ⟨B, Hs6, _, sl4, rt6, R6, (S4.mono e5).mono e6, ?_⟩
          cases he : me sl4 rt6 with
          | no => rw [he] at p2; exact p2.elim
          | ex c fs rt7 => rw [he] at p2; exact p2.elim
          | ok y rt7 =>
            rw [he] at p2
            simp only [Ou.bind] at p2
            intro u Hs7 ρ7 H7 e7 R7 d7
            obtain ⟨t7, rfl⟩ : ∃ t7, ρ7 = ρ1 ++ (D :: t7) := by
              obtain ⟨_, t, rfl⟩ := e7
              exact ⟨t6 ++ t, by simp⟩
            cases yk with
            | r nk => simp only [] at p2; exact p2.elim
            | d zk =>
            simp only [] at p2
            cases hkk : keyOf zk with
            | none => rw [hkk] at p2; exact p2.elim
            | some kk =>
            rw [hkk] at p2
            simp only [] at p2
            have huk : uk = kV kk := key_ok d6 hkk
            cases hv : vOf y rt7 with
            | no => rw [hv] at p2; exact p2.elim
            | ex c fs rt8 => exact (vOf_noex hv).elim
            | ok z rt8 =>
              rw [hv] at p2
              simp only [Ou.bind] at p2
              obtain ⟨Hs8, e8, R8, d8⟩ := vOf_ok R7 d7 z rt8 hv
              cases hr : rt8[rt1.length]? with
              | none => simp only [hr] at p2; exact p2.elim
              | some o =>
                cases o <;> simp only [hr] at p2 <;> first | exact p2.elim | skip
                rename_i acc8
                obtain ⟨a8, us8, ea, h8, dd8, w8⟩ := live_dk (v := .ref D) R8 ⟨D, dAt t7, rfl⟩ (show rd rt8 rt1.length = some (.dk acc8) by unfold rd; rw [hr])
                cases ea
                by_cases hlt : acc8.length < 16000000 ∧ tkOk (rt1.length + 1) ((rt8.set rt1.length (.dk (dput acc8 kk z))).take (rt1.length + 1)) = true
                · rw [if_pos hlt] at p2
                  refine ⟨us8, kk, huk, h8, lim_lt (by rw [dd8.length]; exact hlt.1), ?_⟩
                  have R9 := w8 (putK us8 kk u) (dput acc8 kk z) (dd8.put kk d8)
                  rw [show wr rt8 rt1.length (.dk (dput acc8 kk z)) = rt8.set rt1.length (.dk (dput acc8 kk z)) by unfold wr; rw [hr]] at R9
                  have hl8 : rt1.length + 1 ≤ rt8.length := (List.getElem?_eq_some_iff.mp hr).1
                  have R10 := R9.take (k := rt1.length + 1) (by simpa using hl8) (tk_lt hlt.2)
                  rw [takeρ] at R10
                  have hcut : (rt8.set rt1.length (.dk (dput acc8 kk z))).take (rt1.length + 1) = rt8.take rt1.length ++ [.dk (dput acc8 kk z)] := by
                    rw [List.take_succ, List.getElem?_set_self (by omega), List.take_set_of_le (Nat.le_refl _)]
                    rfl
                  rw [hcut] at R10 p2
                  exact ⟨Hs8, rt8.take rt1.length, .dk (dput acc8 kk z), Same.trans' s13 (Same.trans' e5.same (Same.trans' e6.same (Same.trans' e7.same e8.same))), R10, by rw [List.length_take]; omega, p2⟩
                · rw [if_neg hlt] at p2
                  exact p2.elim
  · rintro H' ⟨Hs', rt', acc, s2, R3, hlen, p2⟩
    rw [List.drop_eq_nil_of_le (Nat.le_refl _)] at p2
    exact p2 (.ref D) Hs' _ H' ⟨s2, [D], rfl⟩ R3 ⟨D, by rw [← R1.len, List.getElem?_append_right (Nat.le_refl _), Nat.sub_self]; rfl, rfl⟩
theorem vx_dcomp (vs : List Nat) (hc : X.calm = true) (hN : X.N.Nodup) (hi : VI X Wx tg iter it) (ok : BlkOk X.N X.env.scope scope own) (hv : own.map (·.2) = vs := by rfl)
    (hg : ∀ (s : Shared) (H : Hp) (C : Addr) (cl : List (Str × Addr)) (fp : List Addr), VGc (X.blk s H scope (compEnvC scope cl C X.env) fp) vs tg g) (ht : ∀ (s : Shared) (H : Hp) (C : Addr) (cl : List (Str × Addr)) (fp : List Addr), VTs (X.blk s H scope (compEnvC scope cl C X.env) fp) WF ifs mt)
    (hk : ∀ (s : Shared) (H : Hp) (C : Addr) (cl : List (Str × Addr)) (fp : List Addr), VX (X.blk s H scope (compEnvC scope cl C X.env) fp) WF eltk mk)
    (he : ∀ (s : Shared) (H : Hp) (C : Addr) (cl : List (Str × Addr)) (fp : List Addr), VX (X.blk s H scope (compEnvC scope cl C X.env) fp) WF elt me) (hs : ∀ x, foldedSetIterable iter X.env x = pure x := by intro _; rfl) :
    VX X Wx (.DictComp eltk elt [⟨tg, iter, ifs, 0⟩] scope pos) (eDComp vs it g mt mk me) := by
  subst hv
  obtain ⟨wi, i1, i2⟩ := hi.ex
  exact vx_pe (pe_dc hc hN i1 ok (fun s H C cl fp => (hg s H C cl fp).pg) (fun s H C cl fp => (ht s H C cl fp).pts) (fun s H C cl fp => (hk s H C cl fp).pe) (fun s H C cl fp => (he s H C cl fp).pe) hs) (dcomp_ok i2 _)
end
theorem sw_trueD {kx vx : Expr} {gs : List Comprehension} {scope : Scope} {pos py : Pos} {y : Str} {l : Nat} {env : Env} (hk : env.scope.kind = .function) (hy : env.scope.names.lookup y = some .local) (hl : (py.line == pos.line) = true)
    (ha : (scope.names.any fun (n, k) => n == y && (k == .local || k == .cell)) = false) : swapsWith (.DictComp kx vx gs scope pos) (some (.Name y py)) l env = pure true := by
  have hb : env.blockKind = .function := by unfold Env.blockKind; rw [hk]; rfl
  unfold swapsWith
  simp only [hb, show env.kindOf y = some .local from hy, ha, Expr.pos, hl]
  rfl
/-- name = {..} on one line, the name a local -/
theorem ps_setDc {X : Cx} {i : Nat} {y : Str} {py : Pos} {kx vx tg iter : Expr} {ifs : List Expr} {scope : Scope} {own : List (Str × Nat)} {pos spos : Pos} {wi : TI} {g : TG} {tt : TT} {tk tv : TE} (hc : X.calm = true) (hN : X.N.Nodup) (hy : X.N[i]? = some y) (hyl : X.env.scope.names.lookup y = some .local)
    (hsw : swapsWith (.DictComp kx vx [⟨tg, iter, ifs, 0⟩] scope pos) (some (.Name y py)) spos.line X.env = pure true) (hi : PI X tg iter wi) (ok : BlkOk X.N X.env.scope scope own)
    (hg : ∀ (s : Shared) (H : Hp) (C : Addr) (cl : List (Str × Addr)) (fp : List Addr), PG (X.blk s H scope (compEnvC scope cl C X.env) fp) tg g) (ht : ∀ (s : Shared) (H : Hp) (C : Addr) (cl : List (Str × Addr)) (fp : List Addr), PTs (X.blk s H scope (compEnvC scope cl C X.env) fp) ifs tt)
    (hk : ∀ (s : Shared) (H : Hp) (C : Addr) (cl : List (Str × Addr)) (fp : List Addr), PE (X.blk s H scope (compEnvC scope cl C X.env) fp) kx tk)
    (he : ∀ (s : Shared) (H : Hp) (C : Addr) (cl : List (Str × Addr)) (fp : List Addr), PE (X.blk s H scope (compEnvC scope cl C X.env) fp) vx tv) (hs : ∀ x, foldedSetIterable iter X.env x = pure x) :
    PS X (.Assign [.Name y py] (.DictComp kx vx [⟨tg, iter, ifs, 0⟩] scope pos) spos) (tAsg (tDc wi g tt tk tv (own.map (·.2))) (gName i)) := by
  refine ⟨fun pins s σ H D I q1 => ?_⟩
  have q0 : tDc wi g tt tk tv (own.map (·.2)) σ H fun x H1 => gName i x σ H1 D.nx := q1
  rw [PySem.exec_Assign_Name_used _ _ _ _ hsw]
  refine wpAny_bind (wpAny_standAt (wpAny_bind ?_))
  show wpAny _ X.A (do let _ ← comprehension (.DictComp kx vx [⟨tg, iter, ifs, 0⟩] scope pos) scope X.env (firstIterPos [⟨tg, iter, ifs, 0⟩] pos) newDict false (eval iter X.env) (some (assign (.Name y py) X.env))) _ _ s
  refine wpAny_bind (thn (dc_core (Qf := fun _ s' => SP X pins D .next s') hc hN I hi ok hg ht hk he hs q0 fun L C s' m H' I' q hn f => ?_) fun _ s' hq => wpAny_pure (wpAny_pure hq))
  obtain ⟨f0, f1, f2, f3, f4, f5⟩ := f
  refine wpAny_assign_Name (store_ok2 (v := V.ref L) I' hN hy (.inl hyl) rfl (fun s2 I2 ⟨a, sb, ha⟩ => ⟨m, hn.sameBut sb ?_, fun h3 sb3 => ⟨_, H', I2.turned (t' := s2.toks) (fun b o hb e => (sb3.2 b hb).trans e) f0 f1 f3 f4 f5, q⟩⟩) (.inr hyl))
  exact ha.elim (fun z => by rw [z]; exact f1) fun z e => f4 y a z e.symm
theorem vs_setDcomp {X : Cx} {Wx : WX} {eltk elt tg iter : Expr} {ifs : List Expr} {scope : Scope} {own : List (Str × Nat)} {pos spos py : Pos} {it : Ex (List D)} {g : Gx} {mt : Ex Bool} {mk me : Ex W} (vs : List Nat) {i : Nat} {y : Str} (hc : X.calm = true) (hN : X.N.Nodup) (hy : X.N[i]? = some y) (hyl : X.env.scope.names.lookup y = some .local)
    (hsw : swapsWith (.DictComp eltk elt [⟨tg, iter, ifs, 0⟩] scope pos) (some (.Name y py)) spos.line X.env = pure true) (hi : VI X Wx tg iter it) (ok : BlkOk X.N X.env.scope scope own) (hv : own.map (·.2) = vs := by rfl)
    (hg : ∀ (s : Shared) (H : Hp) (C : Addr) (cl : List (Str × Addr)) (fp : List Addr), VGc (X.blk s H scope (compEnvC scope cl C X.env) fp) vs tg g) (ht : ∀ (s : Shared) (H : Hp) (C : Addr) (cl : List (Str × Addr)) (fp : List Addr), VTs (X.blk s H scope (compEnvC scope cl C X.env) fp) WF ifs mt)
    (hk : ∀ (s : Shared) (H : Hp) (C : Addr) (cl : List (Str × Addr)) (fp : List Addr), VX (X.blk s H scope (compEnvC scope cl C X.env) fp) WF eltk mk)
    (he : ∀ (s : Shared) (H : Hp) (C : Addr) (cl : List (Str × Addr)) (fp : List Addr), VX (X.blk s H scope (compEnvC scope cl C X.env) fp) WF elt me) (hs : ∀ x, foldedSetIterable iter X.env x = pure x := by intro _; rfl) :
    VS X Wx (.Assign [.Name y py] (.DictComp eltk elt [⟨tg, iter, ifs, 0⟩] scope pos) spos) (sSet i (eDComp vs it g mt mk me)) := by
  subst hv
  obtain ⟨wi, i1, i2⟩ := hi.ex
  refine ⟨_, ps_setDc (g := gM X.K X.w _ g) (tt := tMT X.K X.w WF mt) (tk := tM X.K X.w WF mk) (tv := tM X.K X.w WF me) hc hN hy hyl hsw i1 ok (fun s H C cl fp => (hg s H C cl fp).pg) (fun s H C cl fp => (ht s H C cl fp).pts) (fun s H C cl fp => (hk s H C cl fp).pe) (fun s H C cl fp => (he s H C cl fp).pe) hs, fun B Hs ρ sl rt σ H D R S p => ?_⟩
  refine dcomp_ok i2 _ B Hs ρ sl rt σ H _ R S (PEx.seq S p fun x rt1 v Hs1 ρ1 H1 e1 R1 d1 p1 => ?_)
  exact p1 Hs1 ρ1 _ H1 Ext.refl R1 ((S.mono e1).set i d1) (by simp)
theorem cv_listK {X : Cx} (hc : X.calm = true) : CallV X (.type "list") bListK := by
  refine ⟨_, call_listD hc, fun Wx B Hs ρ rt σ H Q xs us R d p => ?_⟩
  unfold bListK at p
  split at p
  · rename_i x
    obtain ⟨v, rfl, d1⟩ := wds1 d
    split at p
    · rename_i ys ey
      cases x with
      | d x => cases ey
      | r n =>
        simp only [keyL] at ey
        cases ho : rd rt n with
        | none => simp only [ho] at ey; cases ey
        | some o =>
          cases o <;> simp only [ho] at ey <;> first | (cases ey; done) | skip
          cases ey
          obtain ⟨a, vs, rfl, h1, h2, _⟩ := live_dk R d1 ho
          exact ⟨_, _, rfl, .inl h1, new_list R (keys_dens h2) p⟩
    · exact p.elim
  · exact p.elim
end VE

set_option maxRecDepth 100000
set_option maxHeartbeats 1000000
/-! enumerate over a tuple -/
namespace PySem
open Sem (wp)
open AutoSeq1 (wpAny_loadPart')
theorem ve_meets_enumT (l : Addr) (items : Array Value) (n : Nat) (dct : Option Addr) (sl : Array (Option Value)) :
    Meets (Builtin.«enumerate.__new__» ⟨[.type "enumerate", .ref l], []⟩) (fun _ R s => s.heap.get? l = some { cls := .type "tuple", dict := dct, data := .seq items n, slots := sl } ∧
      R (.ok (.ret (.ref (s.heap.push { cls := .type "tuple_iterator", data := .fields #[.ref l, .int 0 0] }).objs.size)))
        { s with heap := (s.heap.push { cls := .type "tuple_iterator", data := .fields #[.ref l, .int 0 0] }).push { cls := .type "enumerate", data := .fields #[.none, .bool false, .ref s.heap.objs.size, rawInt 0, .none, .none] } }) :=
  .of_wp fun prog w A R s h => by
    obtain ⟨hp, g, d, tk, os⟩ := s; obtain ⟨hl, h⟩ := h
    have hsub := sub_enumerate
    have hL : Heap.IsTuple (Shared.heap ⟨hp, g, d, tk, os⟩) l items := ⟨_, hl, rfl, n, rfl⟩
    wp_walk using wpAny_loadPart' hl
    refine wpAny_stack_any fun st => wpAny_pure ?_
    split
    · rename_i c _ _ _ _ _
      cases (c == Value.type "enumerate")
      · wp_walk using wpAny_loadPart' hl, wpAny_pyIter_tuple hL
        exact ⟨_, rfl, h⟩
      · wp_walk using wpAny_loadPart' hl, wpAny_pyIter_tuple hL
        exact ⟨_, rfl, h⟩
    · wp_walk using wpAny_loadPart' hl, wpAny_pyIter_tuple hL
      exact ⟨_, rfl, h⟩
section
variable {prog : Program} {w : World} {A : Around} {E : Value → Shared → Prop} {s : Shared}
theorem ve_call_enumT {l : Addr} {items : Array Value} {Q : Value → Shared → Prop} (hL : s.heap.IsTuple l items)
    (h : ∀ h', IsEnum h' (s.heap.objs.size + 1) s.heap.objs.size 0 .none → h'.IsTupleIter s.heap.objs.size l 0 → h'.objs.size = s.heap.objs.size + 2 →
      (∀ b o, s.heap.get? b = some o → h'.get? b = some o) → Q (.ref (s.heap.objs.size + 1)) { s with heap := h' }) :
    wpAny (model prog w) A (call (.type "enumerate") [.ref l]) Q E s := by
  obtain ⟨⟨c, dct, dt, sl⟩, hl, hc, n, hd⟩ := hL
  replace hc : c = .type "tuple" := hc
  replace hd : dt = .seq items n := hd
  subst hc hd
  refine callType_new F.called_enumerate (by decide) (F.typeCall_enumerate_1 _) (F.newCall_enumerate_1 _) (fun obj => F.args_object_init_2 obj _) F.entry_enumerate_new
    (ve_meets_enumT l items n dct sl) ⟨hl, ?_⟩
  have hz : (s.heap.push { cls := .type "tuple_iterator", data := .fields #[.ref l, .int 0 0] }).objs.size = s.heap.objs.size + 1 := Heap.size_push ..
  show _ ∧ _
  rw [hz]
  have he : IsEnum ((s.heap.push { cls := .type "tuple_iterator", data := .fields #[.ref l, .int 0 0] }).push
      { cls := .type "enumerate", data := .fields #[.none, .bool false, .ref s.heap.objs.size, rawInt 0, .none, .none] }) (s.heap.objs.size + 1) s.heap.objs.size 0 .none := by
    have := Heap.get?_push_size (s.heap.push { cls := .type "tuple_iterator", data := .fields #[.ref l, .int 0 0] })
      (o := { cls := .type "enumerate", data := .fields #[.none, .bool false, .ref s.heap.objs.size, rawInt 0, .none, .none] }) rfl
    rw [hz] at this; exact this
  refine ⟨⟨_, he, rfl⟩, h _ he ⟨_, Heap.get?_push_of_some _ (Heap.get?_push_size _ rfl), rfl, rfl⟩ (by rw [Heap.size_push, hz]) fun b o x => Heap.get?_push_of_some _ (Heap.get?_push_of_some _ x)⟩
end
end PySem
namespace L2
open PySem PySem.Spec PyProof.Rows
def IteT (K : PySem.W.Frag) (a : Addr) : It :=
  ⟨fun i H => ∃ (xs : List V) (x : V), SqT K H a xs ∧ xs[i]? = some x, fun i H v H' => ∃ T x, v = .ref T ∧ H T = none ∧ H' = upd H T (.tup [.int (i : Nat), x]) ∧ ∀ xs, SqT K H a xs → xs[i]? = some x, fun i H => ∃ xs : List V, SqT K H a xs ∧ xs.length = i⟩
theorem turn_enumT {P : Program} {w : World} {K : PySem.W.Frag} {elts : List Expr} {kk : Nat} {tpos : Pos} (a e it : Addr) :
    Turn P w K (.Tuple elts kk tpos) (IteT K a) [e, it] e (fun i h => (∃ old, IsEnum h e it ((i : Nat) : Int) old) ∧ h.IsTupleIter it a i ∧ e ≠ it ∧ a ≠ it ∧ a ≠ e) where
  mem := by simp
  obj := fun i h st b hb => by
    obtain ⟨⟨old, he⟩, ⟨o, ho, hc, hd⟩, _⟩ := st
    have e' : b = e ∨ b = it := by simpa using hb
    rcases e' with z | z
    · rw [z]; exact ⟨_, he, fun v q => nomatch q⟩
    · rw [z]; exact ⟨o, ho, fun v q => by rw [hd] at q; cases q⟩
  keep := fun i h h' st k => let ⟨⟨old, he⟩, hi, hne⟩ := st; ⟨⟨old, k e (by simp) _ he⟩, hi.at fun o q => k it (by simp) o q, hne⟩
  item := by
    intro X hP hw hK hc i pins s σ H E I hf st hg
    subst hP hw hK
    obtain ⟨⟨old, he⟩, hit, hne, hai, hae⟩ := st
    obtain ⟨xs, x, hq, hx⟩ := hg
    obtain ⟨its, rv, p, hz⟩ := I.tuple hq
    obtain ⟨u, hu, ru⟩ := rv.get hx
    have hel : e < s.heap.objs.size := Heap.lt_size he
    have hil : it < s.heap.objs.size := by obtain ⟨_, q, _⟩ := hit; exact Heap.lt_size q
    have hlt : i < its.toArray.size := by
      have := (List.getElem?_eq_some_iff.mp hu).1
      simpa using this
    refine wpAny_pyNext_enum_itemD (Draws.tuple (A := X.A.in1) (I.ok.hd hc) it a hai its.toArray) he ⟨hit, p⟩ hlt hne (by simp [hne, Ne.symm hae]) fun x' h' tk hxx ho hst hT hsz hk => ?_
    have hxu : x' = u := by
      have h1 : its.toArray[i]? = some x' := hxx
      have h2 : its.toArray[i]? = some u := by simpa using hu
      rw [h1] at h2
      exact Option.some.inj h2
    subst hxu
    obtain ⟨hit', _⟩ := hst
    refine ⟨_, rfl, wpAny_letOwnedTupleGo_enum (s := { s with heap := h', toks := tk + 1 }) ho fun h'' he' sb => ?_⟩
    have hT2 : h''.get? s.heap.objs.size = some { cls := .type "tuple", data := .seq #[.int i tk, x'] } := (sb.2 _ (Nat.ne_of_gt hel)).trans hT
    have new : ObjOk X.prog X.w (upd H s.heap.objs.size (.tup [.int (i : Nat), x])) h'' s.heap.objs.size (.tup [.int (i : Nat), x]) :=
      ⟨by show 2 ≤ sizeLine; decide, [.int i tk, x'], .cons ⟨_, rfl⟩ (.cons ru .nil), ⟨_, hT2, rfl, _, rfl⟩⟩
    have I1 : Inv X pins σ (upd H s.heap.objs.size (.tup [.int (i : Nat), x])) { s with heap := h'', toks := tk + 1 } :=
      I.turnedNew (ch := [e, it]) (fun b ob hb q => (sb.2 b (fun z => hb (by simp [z]))).trans (hk b ob (fun z => hb (by simp [z])) (fun z => hb (by simp [z])) q)) hf (Nat.le_refl _) new
    refine ⟨.ref s.heap.objs.size, _, I1, rfl, ⟨_, x, rfl, I.hok.fresh (Nat.le_refl _), rfl, fun ys hy => by rw [I.tuple_inj hy hq]; exact hx⟩, ⟨⟨x', ?_⟩, hit'.at fun o q => (sb.2 it (Ne.symm hne)).trans q, hne, hai, hae⟩, fun b hb => ?_⟩
    · have e1 : ((i + 1 : Nat) : Int) = (i : Int) + 1 := by omega
      rw [e1]; exact he'
    · have hb' : b < s.heap.objs.size := by
        have e' : b = e ∨ b = it := by simpa using hb
        rcases e' with z | z
        · rw [z]; exact hel
        · rw [z]; exact hil
      rw [upd_ne (Nat.ne_of_lt hb')]
      exact (hf b hb).1
  done := by
    intro X hP hw hK hc i pins s σ H E I hf st hg
    subst hP hw hK
    obtain ⟨⟨old, he⟩, hit, hne, hai, hae⟩ := st
    obtain ⟨xs, hq, hx⟩ := hg
    obtain ⟨its, rv, p, hz⟩ := I.tuple hq
    obtain ⟨f0, f1, f2, f3, f4, f5⟩ := hf it (by simp)
    have hl := rv.length
    have hi : its.toArray.size = i := by simp; omega
    subst hi
    exact wpAny_pyNext_enum_endD (Draws.tuple (A := X.A.in1) (I.ok.hd hc) it a hai its.toArray) he ⟨hit, p⟩ fun h' eb => ⟨rfl, I.turned (t' := s.toks) (fun b o hb q => eb b o hb q) f0 f1 f3 f4 f5⟩
  self := fun A i s Q E st h => let ⟨⟨_, he⟩, _⟩ := st; wpAny_pyIter_enum he h
def iEnumT (K : PySem.W.Frag) (ta : TA) : TI := fun σ H R => ta σ H fun vs H1 => ∃ a xs, vs = [.ref a] ∧ SqT K H1 a xs ∧ R (IteT K a) H1
theorem pi_enumT {X : Cx} {e : Expr} {ta : TA} {p pos tpos : Pos} {elts : List Expr} {kk : Nat} (hg : Gl X "enumerate") (hm : X.mg "enumerate" = none) (ha : PA X [e] ta) (hs : starEach [e] X.env = [(false, eval e X.env)] := by rfl) :
    PI X (.Tuple elts kk tpos) (.Call (.Name "enumerate" p) [e] [] pos) (iEnumT X.K ta) := by
  refine ⟨fun pins s σ H R I h => ?_⟩
  refine Call_ (ld_blt I hg hm boot_enumerate (PyProof.Rows.callWith_type1 (thn (ha.run pos pins s σ H _ I h) fun us s1 ⟨vs, H1, I1, r1, q1⟩ => ?_) hs rfl))
  obtain ⟨a, xs, ex, hq, q⟩ := q1
  subst ex
  cases r1 with
  | cons r rr =>
    cases rr
    cases r
    obtain ⟨its, rv, p', hz⟩ := I1.tuple hq
    have hal : a < s1.heap.objs.size := by obtain ⟨_, q, _⟩ := p'; exact Heap.lt_size q
    refine ve_call_enumT (show Heap.IsTuple s1.heap a its.toArray from p') fun h' he hit hsz hk => wpAny_pyIter_enum he ?_
    have I2 : Inv X pins σ H1 { s1 with heap := h' } := I1.kept (t' := s1.toks) hk
    refine ⟨s1.heap.objs.size + 1, [s1.heap.objs.size + 1, s1.heap.objs.size], _, _, H1, rfl, I2, turn_enumT a (s1.heap.objs.size + 1) s1.heap.objs.size, ⟨⟨.none, he⟩, hit, Nat.succ_ne_self _, Nat.ne_of_lt hal, Nat.ne_of_lt (Nat.lt_succ_of_lt hal)⟩, fun b hb => ?_, q⟩
    have e' : b = s1.heap.objs.size + 1 ∨ b = s1.heap.objs.size := by simpa using hb
    have hle : s1.heap.objs.size ≤ b := by
      rcases e' with z | z
      · rw [z]; exact Nat.le_add_right _ _
      · rw [z]; exact Nat.le_refl _
    exact I1.fpOk hle (I1.hok.fresh hle)
theorem walk_enumT {K : PySem.W.Frag} {a : Addr} {xs : List V} : Walk (IteT K a) xs.length (fun H => SqT K H a xs) (YPair (fun i => some (.int (i : Nat))) (fun i => xs[i]?)) := by
  refine ⟨fun i _ hi q => ⟨xs, xs[i], q, by simp [hi]⟩, fun _ q => ⟨xs, q, rfl⟩, fun i H v H' _ q y => ?_⟩
  obtain ⟨T, x, h1, h2, h3, h4⟩ := y
  exact ⟨T, .int (i : Nat), x, h1, h2, h3, rfl, h4 xs q⟩
end L2
namespace VE
open PySem PySem.Spec L2
/-- enumerate(list or tuple) -/
def itEnumA (ms : Ex (List W)) : Ex (List D) := fun sl rt => (ms sl rt).bind fun ws rt => (valsOf ws rt).bind fun ys rt => match ys with
  | [.lst xs] => .ok (enumD 0 xs) rt
  | [.tup xs] => .ok (enumD 0 xs) rt
  | [.ktup xs] => .ok (enumD 0 xs) rt
  | _ => .no
section
variable {X : Cx} {Wx : WX} {e : Expr} {ms : Ex (List W)} {p pos tpos : Pos}
theorem vi_enumA {elts : List Expr} {kk : Nat} (h : VA X Wx [e] ms) (hg : Gl X "enumerate") (hm : X.mg "enumerate" = none) (hs : starEach [e] X.env = [(false, eval e X.env)] := by rfl) : VI X Wx (.Tuple elts kk tpos) (.Call (.Name "enumerate" p) [e] [] pos) (itEnumA ms) := by
  obtain ⟨t, a1, a2⟩ := h.ex
  refine ⟨_, PI.or (pi_enumT hg hm a1 hs) (pi_enum hg hm a1 hs), fun B Hs ρ sl rt σ H Q R S q => ?_⟩
  cases hm0 : ms sl rt with
  | no => unfold itEnumA at q; rw [hm0] at q; exact q.elim
  | ex c fs rt1 => refine .inl (a2 B Hs ρ sl rt σ H _ R S ?_); unfold itEnumA at q; rw [hm0] at q ⊢; exact q
  | ok ws rt1 =>
    unfold itEnumA at q
    rw [hm0] at q
    simp only [Ou.bind] at q
    have go : ∀ (Q' : List V → Hp → Prop), (∀ vs Hs1 ρ1 H1, Ext Hs ρ Hs1 ρ1 → Rel X.K X.w B Hs1 ρ1 rt1 H1 → WDs X.K X.w Hs1 ρ1 vs ws → Q' vs H1) → t σ H Q' := fun Q' hQ => by
      refine a2 B Hs ρ sl rt σ H _ R S ?_
      rw [hm0]
      exact hQ
    cases hv : valsOf ws rt1 with
    | no => rw [hv] at q; exact q.elim
    | ex c fs rt2 => exact (valsOf_noex hv).elim
    | ok ys rt2 =>
      rw [hv] at q
      simp only [Ou.bind] at q
      have rd1 : ∀ (Q' : List V → Hp → Prop), (∀ vs Hs2 ρ1 H1, Ext Hs ρ Hs2 ρ1 → Rel X.K X.w B Hs2 ρ1 rt2 H1 → Dens X.K X.w Hs2 vs ys → Q' vs H1) → t σ H Q' := fun Q' hQ => by
        refine go _ fun vs Hs1 ρ1 H1 e1 R1 d1 => ?_
        obtain ⟨Hs2, e2, R2, d2⟩ := valsOf_ok R1 d1 ys rt2 hv
        exact hQ vs Hs2 ρ1 H1 (e1.trans e2) R2 d2
      have tupC : ∀ (xs : List D), ys = [.tup xs] ∨ ys = [.ktup xs] → PEx X.K X.w B Wx Hs ρ σ (fun h x J xs => ItOk X.K X.w h J xs) (Ou.ok (enumD 0 xs) rt2) Q → iEnumT X.K t σ H Q := fun xs hy q => by
        refine rd1 _ fun vs Hs2 ρ1 H1 e2 R2 d2 => ?_
        have key : ∀ (a : Addr) (us : List V), vs = [.ref a] → SqT X.K Hs2 a us → Dens X.K X.w Hs2 us xs → ∃ a xs, vs = [.ref a] ∧ SqT X.K H1 a xs ∧ Q (IteT X.K a) H1 := fun a us e0 h1 h2 => by
          refine ⟨a, us, e0, SqT.mono R2.same h1, q _ Hs2 ρ1 H1 e2 R2 (itOk_pair walk_enumT (by rw [enumD_length, h2.length]) (fun H s => SqT.mono s h1) fun i v u hi e1 e2 => ?_)⟩
          cases e1
          obtain ⟨x, hx⟩ : ∃ x, xs[i]? = some x := ⟨xs[i]'(by rw [← h2.length]; exact hi), by simp [show i < xs.length by rw [← h2.length]; exact hi]⟩
          obtain ⟨u', e3, d3⟩ := h2.get hx
          rw [e2] at e3
          cases e3
          refine ⟨.int i, x, ?_, .int _, d3⟩
          rw [enumD_get, hx]
          simp
        rcases hy with rfl | rfl
        · cases d2 with
          | cons d2 d3 =>
            cases d3
            cases d2 with
            | @tup a us _ h1 h2 => exact key a us rfl (SqT.of h1) h2
        · cases d2 with
          | cons d2 d3 =>
            cases d3
            cases d2 with
            | @ktup a us _ h1 h2 => exact key a us rfl h1.sqt h2
      split at q
      · rename_i xs
        refine .inr (rd1 _ fun vs Hs2 ρ1 H1 e2 R2 d2 => ?_)
        cases d2 with
        | cons d2 d3 =>
          cases d3
          cases d2 with
          | @lst a us _ h1 h2 =>
            refine ⟨a, us, rfl, SqL.of (R2.same _ _ h1), q _ Hs2 ρ1 H1 e2 R2 (itOk_pair walk_enum (by rw [enumD_length, h2.length]) (fun H s => SqL.of (s _ _ h1)) fun i v u hi e1 e2 => ?_)⟩
            cases e1
            obtain ⟨x, hx⟩ : ∃ x, xs[i]? = some x := ⟨xs[i]'(by rw [← h2.length]; exact hi), by simp [show i < xs.length by rw [← h2.length]; exact hi]⟩
            obtain ⟨u', e3, d3⟩ := h2.get hx
            rw [e2] at e3
            cases e3
            refine ⟨.int i, x, ?_, .int _, d3⟩
            rw [enumD_get, hx]
            simp
      · exact .inl (tupC _ (.inl rfl) q)
      · exact .inl (tupC _ (.inr rfl) q)
      · exact q.elim
end
end VE

set_option maxRecDepth 100000
set_option maxHeartbeats 1000000
/-! a live thing moves into another live thing -/
namespace VE
open PySem PySem.Spec L2
theorem getP_setP : ∀ {p : List Sel} {o x y : O}, getP o p = some x → getP (setP o p y) p = some y
  | [], o, x, y, _ => by rw [setP_nil, getP_nil]
  | c :: p, o, x, y, h => by
    cases o <;> cases c <;> first | (exfalso; cases h; done) | skip
    · rename_i xs i
      simp only [getP] at h
      cases e : aget xs i with
      | none => rw [e] at h; cases h
      | some z =>
        rw [e] at h
        simp only [setP, e, getP]
        rw [aget_aset, if_pos rfl, e]
        exact getP_setP (x := x) h
    · rename_i xs i
      simp only [getP] at h
      cases e : xs[i]? with
      | none => rw [e] at h; cases h
      | some z =>
        rw [e] at h
        have hl := (List.getElem?_eq_some_iff.mp e).1
        simp only [setP, e, getP]
        rw [List.getElem?_set_self hl]
        exact getP_setP (x := x) h
    · rename_i xs i
      simp only [getP] at h
      cases e : aget xs i with
      | none => rw [e] at h; cases h
      | some z =>
        rw [e] at h
        simp only [setP, e, getP]
        rw [aget_aset, if_pos rfl, e]
        exact getP_setP (x := x) h
    · rename_i xs i
      simp only [getP] at h
      cases e : aget xs i with
      | none => rw [e] at h; cases h
      | some z =>
        rw [e] at h
        simp only [setP, e, getP]
        rw [aget_aset, if_pos rfl, e]
        exact getP_setP (x := x) h
section
variable {K : PySem.W.Frag} {w : World} {B : Bnd} {Hs Hs' H H' : Hp} {ρ : List Addr} {rt : List O}
/-- nothing leads into root m -/
def noVw (m : Nat) (rt : List O) : Bool := rt.all fun
  | .vw n _ => decide (n ≠ m)
  | _ => true
theorem noVw_at {m k n : Nat} {q : List Sel} (h : noVw m rt = true) (e : rt[k]? = some (.vw n q)) : n ≠ m := by
  have := List.all_eq_true.mp h _ (List.mem_of_getElem? e)
  simpa using this
theorem Rel.absorb (R : Rel K w B Hs ρ rt H) {k m : Nat} {v : V} {x z : O} (d : WD K w Hs ρ v (.r k)) (e : rd rt k = some x) (hx : x.isVw = false) (hm : rt[m]? = some z) (hz : z.isVw = false)
    (hkm : (locR rt k).1 ≠ m) (hnv : noVw m rt = true) :
    ∃ a c C D, v = .ref a ∧ ρ[m]? = some c ∧ Own K w Hs H (.ref a) x C ∧ Own K w Hs H (.ref c) z D ∧ C.Nodup ∧ D.Nodup ∧ (∀ b ∈ C, b ∉ D) ∧ (∀ b ∈ C, Hs b = none ∧ (b ∈ B.M ∨ B.H0 b = none)) ∧
      ∀ y u C' s, a ∈ C → C'.Perm (C ++ D) → Own K w Hs (upd H a u) (.ref a) y C' → (∀ q z, adr H (.ref a) x q = some z → adr (upd H a u) (.ref a) y q = some z) → adr (upd H a u) (.ref a) y [s] = some (.ref c) →
        Rel K w B Hs ρ ((wr rt k y).set m (.vw (locR rt k).1 ((locR rt k).2 ++ [s]))) (upd H a u) := by
  obtain ⟨a, n, p, b, o, rfl, hb, ho, hv, h1, h2, h3, hloc⟩ := R.loc d e hx
  rw [hloc] at hkm ⊢
  have hkm : n ≠ m := hkm
  obtain ⟨F, hF⟩ := R.own
  obtain ⟨b', eb, g1, g2, g3, g4⟩ := hF n o ho
  rw [hb] at eb; cases eb
  obtain ⟨c, ec, m1, m2, m3, m4⟩ := hF m z hm
  have g1 := g1.own hv
  have m1 := m1.own hz
  obtain ⟨x', L, C, Q, q1, q2, q3, q4⟩ := own_at g1 h1
  rw [h2] at q1; cases q1
  have hn : n < rt.length := (List.getElem?_eq_some_iff.mp ho).1
  have hml : m < rt.length := (List.getElem?_eq_some_iff.mp hm).1
  have sub : ∀ c ∈ C, c ∈ F n := fun c hc => by rw [q2]; simp [hc]
  have nd : (L ++ (C ++ Q)).Nodup := by rw [← q2]; exact g2
  have dis : ∀ b ∈ F n, b ∉ F m := fun b hb => g4 m hml (fun z => hkm z.symm) b hb
  refine ⟨a, c, C, F m, rfl, ec, q3, m1, (List.nodup_append.mp (List.nodup_append.mp nd).2.1).1, m2, fun b hb => dis b (sub b hb), fun c hc => g3 c (sub c hc), fun y u C' s haC hperm hy hl hs => ?_⟩
  rw [h3]
  have haF := sub a haC
  obtain ⟨p1, p2⟩ := g3 a haF
  have hHa : H a ≠ none := g1.there a haF
  have new : Own K w Hs (upd H a u) (.ref b) (setP o p y) (L ++ (C' ++ Q)) := by
    refine q4 _ y C' (fun c hc => upd_ne fun z => ?_) hy
    rw [z] at hc
    rcases List.mem_append.mp hc with hc | hc
    · exact (List.nodup_append.mp nd).2.2 a hc a (by simp [haC]) rfl
    · exact (List.nodup_append.mp (List.nodup_append.mp nd).2.1).2.2 a haC a hc rfl
  have perm : (L ++ (C' ++ Q)).Perm (F n ++ F m) := by
    have e1 : (L ++ (C' ++ Q)).Perm (L ++ ((C ++ F m) ++ Q)) := (hperm.append_right Q).append_left L
    refine e1.trans ?_
    rw [q2, List.append_assoc, List.append_assoc, List.append_assoc]
    exact ((List.perm_append_comm (l₁ := F m) (l₂ := Q)).append_left C).append_left L
  have memN : ∀ b, b ∈ L ++ (C' ++ Q) ↔ b ∈ F n ∨ b ∈ F m := fun b => by rw [perm.mem_iff, List.mem_append]
  have ndN : (L ++ (C' ++ Q)).Nodup := by
    rw [perm.nodup_iff, List.nodup_append]
    exact ⟨g2, m2, fun b hb1 b' hb2 z => dis b hb1 (z ▸ hb2)⟩
  have lenE : ((rt.set n (setP o p y)).set m (.vw n (p ++ [s]))).length = rt.length := by simp
  refine ⟨fun c v e => ?_, by rw [lenE]; exact R.len, ⟨ov (ov F n (L ++ (C' ++ Q))) m [], fun i z' e => ?_⟩, fun c v e => ?_, fun c e => ?_, R.pers, fun k' m' q e => ?_⟩
  · rw [upd_ne (fun z => by rw [z, p1] at e; cases e)]
    exact R.same _ _ e
  · by_cases him : i = m
    · subst him
      rw [List.getElem?_set_self (by simpa using hml)] at e
      cases e
      rw [ov_same]
      exact ⟨c, ec, rfl, by simp, (fun d hd => absurd hd (by simp)), (fun j hj hij d hd => absurd hd (by simp))⟩
    · rw [List.getElem?_set_ne (fun z => him z.symm)] at e
      rw [ov_ne him]
      by_cases hi : i = n
      · subst hi
        rw [List.getElem?_set_self hn] at e
        cases e
        rw [ov_same]
        refine ⟨b, hb, .of new, ndN, fun b' hb' => ?_, fun j hj hij b' hb' => ?_⟩
        · rcases (memN b').mp hb' with h | h
          · exact g3 b' h
          · exact m3 b' h
        · rw [lenE] at hj
          by_cases hjm : j = m
          · rw [hjm, ov_same]; exact fun z => nomatch z
          · rw [ov_ne hjm, ov_ne hij]
            rcases (memN b').mp hb' with h | h
            · exact g4 j hj hij b' h
            · exact m4 j hj hjm b' h
      · rw [List.getElem?_set_ne (fun z => hi z.symm)] at e
        rw [ov_ne hi]
        obtain ⟨c', e1, r1, r2, r3, r4⟩ := hF i z' e
        have hne : ∀ c ∈ F i, c ≠ a := fun c hc z => r4 n hn (fun z => hi z.symm) c hc (by rw [z]; exact haF)
        refine ⟨c', e1, r1.mono Same.rfl' fun c hc => upd_ne (hne c hc), r2, r3, fun j hj hij b' hb' => ?_⟩
        rw [lenE] at hj
        by_cases hjm : j = m
        · rw [hjm, ov_same]; exact fun z => nomatch z
        · rw [ov_ne hjm]
          by_cases hjn : j = n
          · rw [hjn, ov_same, memN]
            rintro (h | h)
            · exact r4 n hn (fun z => hi z.symm) b' hb' h
            · exact r4 m hml (fun z => him z.symm) b' hb' h
          · rw [ov_ne hjn]
            exact r4 j hj hij b' hb'
  · by_cases hc : c = a
    · subst hc
      rcases p2 with z | z
      · exact .inl z
      · rw [z] at e; cases e
    · rw [upd_ne hc]
      exact R.frame c v e
  · by_cases hc : c = a
    · subst hc
      rw [upd_same]
      exact fun z => nomatch z
    · rw [upd_ne hc]
      exact R.there c e
  · have hset : ((rt.set n (setP o p y)).set m (.vw n (p ++ [s])))[n]? = some (setP o p y) := by
      rw [List.getElem?_set_ne (fun z => hkm z.symm), List.getElem?_set_self hn]
    have hla : ∀ q z, adr H (.ref b) o q = some z → adr (upd H a u) (.ref b) (setP o p y) q = some z := fun q z h => adr_set g1 g2 h1 h2 q3 (fun c hc hc2 => upd_ne fun z => hc2 (by rw [z]; exact haC)) hl q z h
    by_cases hkm' : k' = m
    · subst hkm'
      rw [List.getElem?_set_self (by simpa using hml)] at e
      cases e
      refine ⟨c, b, _, ec, hb, hset, new.nv, ?_⟩
      rw [adr_app (hla p _ h1) (getP_setP h2)]
      exact hs
    · rw [List.getElem?_set_ne (fun z => hkm' z.symm)] at e
      have hkn : n ≠ k' := fun z => by
        subst z
        rw [List.getElem?_set_self hn] at e
        have e := Option.some.inj e
        rw [e] at new
        cases new
      rw [List.getElem?_set_ne hkn] at e
      obtain ⟨a', b', o', r1, r2, r3, r5, r4⟩ := R.lk k' m' q e
      have hmm : m' ≠ m := noVw_at hnv e
      by_cases hmn : n = m'
      · subst hmn
        rw [ho] at r3; cases r3
        rw [hb] at r2; cases r2
        exact ⟨a', b, _, r1, hb, hset, new.nv, hla q _ r4⟩
      · obtain ⟨_, eb, s1, s2, s3, s4⟩ := hF m' o' r3
        rw [r2] at eb; cases eb
        exact ⟨a', b', o', r1, r2, by rw [List.getElem?_set_ne (fun z => hmm z.symm), List.getElem?_set_ne hmn]; exact r3, r5, s1.link (fun c hc => upd_ne fun z => s4 n hn hmn c hc (by rw [z]; exact haF)) r4⟩
theorem Owns.ofDens {Hs H : Hp} : ∀ {vs : List V} {xs : List D}, Dens K w Hs vs xs → Owns K w Hs H vs (xs.map O.d) []
  | _, _, .nil => .nil
  | _, _, .cons d r => by
    have := Owns.cons (Own.d (H := H) d) (Owns.ofDens (H := H) r)
    simpa using this
theorem Owns.snoc {v : V} {o : O} {D : List Addr} (h : Own K w Hs H v o D) : ∀ {vs : List V} {os : List O} {A : List Addr}, Owns K w Hs H vs os A → Owns K w Hs H (vs ++ [v]) (os ++ [o]) (A ++ D)
  | _, _, _, .nil => by
    have := Owns.cons h Owns.nil
    simpa using this
  | _, _, _, .cons d r => by
    have := Owns.cons d (Owns.snoc h r)
    simpa using this
def osOf : O → Option (List O)
  | .lst xs => some (xs.map O.d)
  | .nst os => some os
  | _ => none
theorem osOf_own {x : O} {os : List O} {a : Addr} {C : List Addr} (h : Own K w Hs H (.ref a) x C) (e : osOf x = some os) : ∃ vs A, C = a :: A ∧ H a = some (.lst vs) ∧ Owns K w Hs H vs os A := by
  cases h <;> first | (cases e; done) | skip
  · cases e
    exact ⟨_, [], rfl, by assumption, .ofDens (by assumption)⟩
  · cases e
    exact ⟨_, _, rfl, by assumption, by assumption⟩
/-- a path into a list stays when something is added at its end -/
theorem adr_snoc {x z : O} {os : List O} {a : Addr} {C : List Addr} {vs : List V} {u : V} (h : Own K w Hs H (.ref a) x C) (hn : C.Nodup) (e : osOf x = some os) (ha : H a = some (.lst vs)) :
    ∀ q t, adr H (.ref a) x q = some t → adr (upd H a (.lst (vs ++ [u]))) (.ref a) (.nst (os ++ [z])) q = some t := by
  intro q t hq
  cases q with
  | nil => rw [adr_nil] at hq ⊢; exact hq
  | cons s p =>
    obtain ⟨v', x', f, k, e1, _, _⟩ := adr_kid hq
    obtain ⟨A1, B', A2, hC, h1, _⟩ := k.own h
    cases k with
    | nst e0 e2 e3 =>
      obtain ⟨vs2, A, eC, ha2, r⟩ := osOf_own h e
      cases e
      rw [ha] at e0
      cases e0
      have hlv := (List.getElem?_eq_some_iff.mp e2).1
      have hlo := (List.getElem?_eq_some_iff.mp e3).1
      simp only [adr, upd_same]
      rw [List.getElem?_append_left hlv, List.getElem?_append_left hlo, e2, e3]
      refine adr_mono h1 (fun b hb => upd_ne fun zz => ?_) e1
      subst zz
      rw [ha] at ha2
      cases ha2
      obtain ⟨P1, B2, P2, eA, hB2, _⟩ := r.split e2 e3
      have hu := h1.uniq hB2
      subst hu
      rw [eC] at hn
      exact (List.nodup_cons.mp hn).1 (by rw [eA]; simp [hb])
    | ins e0 e2 e3 => rw [ha] at e0; cases e0
    | ndk e0 e2 e3 => rw [ha] at e0; cases e0
    | ndt e0 e2 e3 => rw [ha] at e0; cases e0
theorem osOf_nv {x : O} {os : List O} (e : osOf x = some os) : x.isVw = false := by cases x <;> first | rfl | cases e
theorem live_absorb {v u : V} {x z : O} {os : List O} {n m : Nat} (R : Rel K w B Hs ρ rt H) (d : WD K w Hs ρ v (.r n)) (e : rd rt n = some x) (eo : osOf x = some os) (hm : rt[m]? = some z) (hz : z.isVw = false)
    (hkm : (locR rt n).1 ≠ m) (hnv : noVw m rt = true) (du : WD K w Hs ρ u (.r m)) :
    ∃ a c vs, v = .ref a ∧ u = .ref c ∧ H a = some (.lst vs) ∧ vs.length = os.length ∧ Rel K w B Hs ρ ((wr rt n (.nst (os ++ [z]))).set m (.vw (locR rt n).1 ((locR rt n).2 ++ [.ix os.length]))) (upd H a (.lst (vs ++ [.ref c]))) := by
  obtain ⟨a, c, C, D, rfl, hc, hC, hD, nC, nD, dis, fr, main⟩ := R.absorb d e (osOf_nv eo) hm hz hkm hnv
  obtain ⟨c', hc', rfl⟩ := du
  rw [hc] at hc'
  cases hc'
  obtain ⟨vs, A, eC, ha, hvs⟩ := osOf_own hC eo
  have nC0 := nC
  rw [eC] at nC dis
  have haA : a ∉ A := (List.nodup_cons.mp nC).1
  have haD : a ∉ D := dis a (List.mem_cons_self ..)
  have hl := hvs.length
  refine ⟨a, c, vs, rfl, rfl, ha, hl, main (.nst (os ++ [z])) (.lst (vs ++ [.ref c])) (a :: (A ++ D)) (.ix os.length) (by rw [eC]; exact List.mem_cons_self ..) (by rw [eC]; exact List.Perm.refl _) ?_ ?_ ?_⟩
  · have e1 : Own K w Hs (upd H a (.lst (vs ++ [.ref c]))) (.ref c) z D := hD.mono Same.rfl' fun b hb => upd_ne fun zz => haD (by rw [← zz]; exact hb)
    have e2 : Owns K w Hs (upd H a (.lst (vs ++ [.ref c]))) vs os A := hvs.mono Same.rfl' fun b hb => upd_ne fun zz => haA (by rw [← zz]; exact hb)
    exact .nst upd_same (Owns.snoc e1 e2)
  · exact adr_snoc hC nC0 eo ha
  · simp only [adr, upd_same]
    rw [List.getElem?_append_right (by omega), List.getElem?_append_right (Nat.le_refl _), hl, Nat.sub_self]
    simp [adr_nil]
theorem live_nstd {v u : V} {os : List O} {n : Nat} {y : D} (R : Rel K w B Hs ρ rt H) (d : WD K w Hs ρ v (.r n)) (e : rd rt n = some (.nst os)) (du : Den K w Hs u y) :
    ∃ a vs, v = .ref a ∧ H a = some (.lst vs) ∧ vs.length = os.length ∧ Rel K w B Hs ρ (wr rt n (.nst (os ++ [.d y]))) (upd H a (.lst (vs ++ [u]))) := by
  obtain ⟨a, C, rfl, h1, h2, h3, h4⟩ := R.at d e rfl
  obtain ⟨vs, A, rfl, ha, hvs⟩ := osOf_own h1 (os := os) rfl
  have haA : a ∉ A := (List.nodup_cons.mp h2).1
  refine ⟨a, vs, rfl, ha, hvs.length, h4 _ _ (List.mem_cons_self ..) ?_ (adr_snoc h1 h2 rfl ha)⟩
  have := Owns.snoc (Own.d (H := upd H a (.lst (vs ++ [u]))) du) (hvs.mono (H' := upd H a (.lst (vs ++ [u]))) Same.rfl' fun b hb => upd_ne fun zz => haA (zz ▸ hb))
  rw [List.append_nil] at this
  exact .nst upd_same this
end
/-! ### xs.append(y), y live or plain -/
def appD (n : Nat) (y : D) (rt : List O) : Option O → Ou W
  | some (.lst zs) => if zs.length < 16000000 then .ok (.d .non) (wr rt n (.lst (zs ++ [y]))) else .no
  | some (.nst os) => if os.length < 16000000 then .ok (.d .non) (wr rt n (.nst (os ++ [.d y]))) else .no
  | _ => .no
def appL (n m : Nat) (z : O) (rt : List O) : Option (List O) → Ou W
  | some os => if (locR rt n).1 ≠ m ∧ noVw m rt = true ∧ os.length < 16000000 then .ok (.d .non) ((wr rt n (.nst (os ++ [z]))).set m (.vw (locR rt n).1 ((locR rt n).2 ++ [.ix os.length]))) else .no
  | none => .no
def appO (n m : Nat) (rt : List O) : Option O → Ou W
  | some (.d y) => appD n y rt (rd rt n)
  | some (.vw _ _) => .no
  | some z => appL n m z rt ((rd rt n).bind osOf)
  | none => .no
def mAppN (x : W) (xs : List W) (rt : List O) : Ou W := match x, xs with
  | .r n, [.d y] => appD n y rt (rd rt n)
  | .r n, [.r m] => appO n m rt rt[m]?
  | _, _ => .no
def isLsN (x : W) (rt : List O) : Bool := match x with
  | .r n => match rd rt n with
    | some (.lst _) => true
    | some (.nst _) => true
    | _ => false
  | _ => false
theorem isLsN_ok {K : PySem.W.Frag} {w : World} {B : Bnd} {Hs H : Hp} {ρ : List Addr} {rt : List O} {v : V} {x : W} (R : Rel K w B Hs ρ rt H) (d : WD K w Hs ρ v x) (h : isLsN x rt = true) : tyV K "list" v H := by
  cases x with
  | d _ => cases h
  | r n =>
    simp only [isLsN] at h
    split at h
    · rename_i xs e
      obtain ⟨a, C, rfl, h1, _⟩ := R.at d e rfl
      obtain ⟨vs, A, _, ha, _⟩ := osOf_own h1 (os := xs.map O.d) rfl
      exact .inl ⟨rfl, vs, SqL.of ha⟩
    · rename_i xs e
      obtain ⟨a, C, rfl, h1, _⟩ := R.at d e rfl
      obtain ⟨vs, A, _, ha, _⟩ := osOf_own h1 (os := xs) rfl
      exact .inl ⟨rfl, vs, SqL.of ha⟩
    · cases h
section
variable {X : Cx}
theorem appD_ok {Wx : WX} {B : Bnd} {Hs H : Hp} {ρ : List Addr} {rt : List O} {σ : L2.St} {Q : VK} {v u : V} {n : Nat} {y : D} (R : Rel X.K X.w B Hs ρ rt H) (d : WD X.K X.w Hs ρ v (.r n)) (du : Den X.K X.w Hs u y)
    (p : PE1 X.K X.w B Wx Hs ρ σ (appD n y rt (rd rt n)) Q) : rAppend v [u] H Q := by
  cases e : rd rt n with
  | none => rw [e] at p; exact p.elim
  | some o =>
    rw [e] at p
    cases o with
    | lst zs =>
      simp only [appD] at p
      split at p
      · rename_i hl
        obtain ⟨a, vs, rfl, h1, h2, h3⟩ := live_lst R d e
        exact ⟨a, vs, _, rfl, rfl, h1, lim_lt (by rw [h2.length]; exact hl), p _ Hs ρ _ Ext.refl (h3 _ _ (h2.append (.cons du .nil))) .non⟩
      · exact p.elim
    | nst zs =>
      simp only [appD] at p
      split at p
      · rename_i hl
        obtain ⟨a, vs, rfl, h1, h2, h3⟩ := live_nstd R d e du
        exact ⟨a, vs, _, rfl, rfl, h1, lim_lt (by rw [h2]; exact hl), p _ Hs ρ _ Ext.refl h3 .non⟩
      · exact p.elim
    | _ => exact p.elim
theorem appN_ok {Wx : WX} {B : Bnd} {Hs : Hp} {ρ : List Addr} {rt : List O} {σ : L2.St} {H : Hp} {Q : VK} {x : W} {xs : List W} {v : V} {us : List V} (R : Rel X.K X.w B Hs ρ rt H) (d1 : WD X.K X.w Hs ρ v x) (d2 : WDs X.K X.w Hs ρ us xs)
    (p : PE1 X.K X.w B Wx Hs ρ σ (mAppN x xs rt) Q) : rAppend v us H Q := by
  unfold mAppN at p
  split at p
  · cases d2 with
    | cons d2 d3 =>
      cases d3
      exact appD_ok R d1 d2 p
  · rename_i n m
    cases d2 with
    | cons d2 d3 =>
      cases d3
      rename_i u
      have live : ∀ z, rt[m]? = some z → z.isVw = false → PE1 X.K X.w B Wx Hs ρ σ (appL n m z rt ((rd rt n).bind osOf)) Q → rAppend v [u] H Q := fun z hm hz p => by
        cases e : rd rt n with
        | none => rw [e] at p; exact p.elim
        | some x =>
          rw [e] at p
          simp only [Option.bind_some] at p
          cases eo : osOf x with
          | none => rw [eo] at p; exact p.elim
          | some os =>
            rw [eo] at p
            simp only [appL] at p
            split at p
            · rename_i hc
              obtain ⟨a, c, vs, rfl, rfl, h1, h2, h3⟩ := live_absorb R d1 e eo hm hz hc.1 hc.2.1 d2
              exact ⟨a, vs, _, rfl, rfl, h1, lim_lt (by rw [h2]; exact hc.2.2), p _ Hs ρ _ Ext.refl h3 .non⟩
            · exact p.elim
      cases hm : rt[m]? with
      | none => rw [hm] at p; exact p.elim
      | some z =>
        rw [hm] at p
        cases z <;> first | exact live _ hm rfl p | skip
        · obtain ⟨F, hF⟩ := R.own
          obtain ⟨c, ec, h1, _⟩ := hF m _ hm
          obtain ⟨c', ec', rfl⟩ := d2
          rw [ec] at ec'
          cases ec'
          have h2 := h1.own rfl
          generalize F m = A at h2
          cases h2 with
          | d h => exact appD_ok R d1 h p
        · exact p.elim
  · exact p.elim
theorem mtv_appN : MtV X "list" "list.append" isLsN mAppN :=
  ⟨fun B Hs ρ rt H v x R d h => isLsN_ok R d h, rAppend, mt_append, fun Wx B Hs ρ rt σ H Q x xs v us R d1 d2 p => appN_ok R d1 d2 p⟩
end
end VE

set_option maxRecDepth 100000
set_option maxHeartbeats 1000000
/-! a comprehension whose members stay live -/
namespace VE
open PySem PySem.Spec L2
def compNL (vs : List Nat) (d : Nat) (g : Gx) (tt : Ex Bool) (el : Ex W) (sl : Sl) : List D → List O → Ou Unit
  | [], rt => .ok () rt
  | x :: xs, rt => (g (.d x) (kill vs sl) rt).noex.bind fun sl1 rt => (tt sl1 rt).noex.bind fun b rt => if b = true then (el sl1 rt).noex.bind fun y rt => (mAppN (.r d) [y] rt).noex.bind fun _ rt =>
      if tkOk (d + 1) (rt.take (d + 1)) = true then compNL vs d g tt el sl xs (rt.take (d + 1)) else .no
    else if tkOk (d + 1) (rt.take (d + 1)) = true then compNL vs d g tt el sl xs (rt.take (d + 1)) else .no
def eCompN (vs : List Nat) (it : Ex (List D)) (g : Gx) (tt : Ex Bool) (el : Ex W) : Ex W := fun sl rt => (it sl rt).bind fun xs rt => (compNL vs rt.length g tt el sl xs (rt ++ [.nst []])).bind fun _ rt' => .ok (.r rt.length) rt'
section
variable {X : Cx} {Wx : WX} {elt tg iter : Expr} {ifs : List Expr} {scope : Scope} {own : List (Str × Nat)} {pos : Pos} {it : Ex (List D)} {g : Gx} {mt : Ex Bool} {me : Ex W}
theorem compN_ok {wi : TI} (i2 : ∀ (B : Bnd) (Hs : Hp) (ρ : List Addr) (sl : Sl) (rt : List O) (σ : L2.St) (H : Hp) (Q : It → Hp → Prop), Rel X.K X.w B Hs ρ rt H → SlD X.K X.w Hs ρ σ sl → PEx X.K X.w B Wx Hs ρ σ (fun h _ J xs => ItOk X.K X.w h J xs) (it sl rt) Q → wi σ H Q)
    (vs : List Nat) (B : Bnd) (Hs : Hp) (ρ : List Addr) (sl : Sl) (rt : List O) (σ : L2.St) (H : Hp) (Q : VK) (R : Rel X.K X.w B Hs ρ rt H) (S : SlD X.K X.w Hs ρ σ sl) (p : PE1 X.K X.w B Wx Hs ρ σ (eCompN vs it g mt me sl rt) Q) :
    tLc wi (gM X.K X.w vs g) (tMT X.K X.w WF mt) (tM X.K X.w WF me) vs σ H Q := by
  refine i2 B Hs ρ sl rt σ H _ R S (PEx.bind p fun xs rt1 J Hs1 ρ1 H1 e1 R1 d1 p1 => ?_)
  obtain ⟨G, Y, hw, hG, hY⟩ := d1.ex
  intro D hD
  have R2 := R1.push (o := .nst []) (u := .lst []) hD (.nst upd_same .nil)
  have S1 := S.mono e1
  -- the state between turns: the list's root is the last one
  refine lc_it hw (fun i H' => ∃ Hs' rt' acc, Same Hs1 Hs' ∧ Rel X.K X.w B Hs' (ρ1 ++ [D]) (rt' ++ [acc]) H' ∧ rt'.length = rt1.length ∧
      PE1 X.K X.w B Wx Hs1 ρ1 σ ((compNL vs rt1.length g mt me sl (xs.drop i) (rt' ++ [acc])).bind fun _ rt'' => .ok (.r rt1.length) rt'') Q)
    ⟨Hs1, rt1, .nst [], Same.rfl', R2, rfl, by rw [List.drop_zero]; exact p1⟩ (fun i H' _ ⟨Hs', rt', acc, s2, R3, _⟩ => hG H' (Same.trans' s2 R3.same)) ?_ ?_
  · rintro i v H' H2 hi ⟨Hs', rt', acc, s2, R3, hlen, p2⟩ y
    obtain ⟨x, hx, hd⟩ := hY i H' v H2 hi y Hs' s2 R3.same
    have hdrop : xs.drop i = x :: xs.drop (i + 1) := by
      obtain ⟨q1, q2⟩ := List.getElem?_eq_some_iff.mp hx
      rw [List.drop_eq_getElem_cons q1, q2]
    obtain ⟨Hs3, e3, R4, d3⟩ : ∃ Hs3, Same Hs' Hs3 ∧ Rel X.K X.w B Hs3 (ρ1 ++ [D]) (rt' ++ [acc]) H2 ∧ Den X.K X.w Hs3 v x := by
      rcases hd with ⟨rfl, hd⟩ | ⟨T, o, hT, rfl, hd⟩
      · exact ⟨Hs', Same.rfl', R3, hd⟩
      · exact ⟨upd Hs' T o, same_upd (R3.fresh hT).1, R3.alloc hT, hd⟩
    rw [hdrop] at p2
    unfold compNL at p2
    have S3 : SlD X.K X.w Hs3 (ρ1 ++ [D]) (wipe σ vs) (kill vs sl) := (S1.wipe vs).mono ⟨Same.trans' s2 e3, [D], rfl⟩
    have s13 := Same.trans' s2 e3
    cases hg : g (.d x) (kill vs sl) (rt' ++ [acc]) with
    | no => rw [hg] at p2; exact p2.elim
    | ex c fs rt4 => rw [hg] at p2; exact p2.elim
    | ok sl4 rt4 =>
      rw [hg] at p2
      simp only [Ou.noex, Ou.bind] at p2
      refine ⟨B, Hs3, _, .d x, _, _, sl4, rt4, R4, S3, d3, hg, fun σ4 S4 w4 er => ?_⟩
      subst er
      have ww : wipe (wipe σ vs) vs = wipe σ vs := by
        refine List.ext_getElem? fun j => ?_
        rw [wipe_get, wipe_get, wipe_length]
        by_cases hj : j ∈ vs ∧ j < σ.length
        · rw [if_pos hj, if_pos hj]
        · rw [if_neg hj, if_neg hj]
      refine ⟨w4.trans ww, ?_⟩
      refine ⟨B, Hs3, _, sl4, _, R4, S4, ?_⟩
      -- the tests
      cases ht : mt sl4 (rt' ++ [acc]) with
      | no => rw [ht] at p2; exact p2.elim
      | ex c fs rt5 => rw [ht] at p2; exact p2.elim
      | ok b rt5 =>
        rw [ht] at p2
        simp only [Ou.bind] at p2
        intro b' Hs5 ρ5 H5 e5 R5 eb
        subst eb
        have hext : ∃ t5, ρ5 = ρ1 ++ (D :: t5) := by
          obtain ⟨_, t, rfl⟩ := e5
          exact ⟨t, by simp⟩
        obtain ⟨t5, rfl⟩ := hext
        have hl5 : rt1.length + 1 ≤ rt5.length := by
          have := R5.len
          rw [List.length_append, List.length_cons, R1.len] at this
          omega
        have takeρ : ∀ t : List Addr, (ρ1 ++ (D :: t)).take (rt1.length + 1) = ρ1 ++ [D] := fun t => by
          rw [← R1.len, List.take_append, List.take_of_length_le (Nat.le_succ _)]
          simp
        have dAt : ∀ t : List Addr, (ρ1 ++ (D :: t))[rt1.length]? = some D := fun t => by
          rw [← R1.len, List.getElem?_append_right (Nat.le_refl _), Nat.sub_self]
          rfl
        cases b' with
        | false =>
          rw [if_neg Bool.false_ne_true]
          simp only [Bool.false_eq_true, if_false] at p2
          by_cases htk : tkOk (rt1.length + 1) (rt5.take (rt1.length + 1)) = true
          · rw [if_pos htk] at p2
            have R6 := R5.take (k := rt1.length + 1) hl5 (tk_lt htk)
            rw [takeρ] at R6
            obtain ⟨rt6, o6, h6⟩ : ∃ rt6 o6, rt5.take (rt1.length + 1) = rt6 ++ [o6] ∧ rt6.length = rt1.length := by
              refine ⟨rt5.take rt1.length, rt5[rt1.length]'(by omega), ?_, by rw [List.length_take]; omega⟩
              rw [List.take_succ_eq_append_getElem]
            rw [h6.1] at R6 p2
            exact ⟨Hs5, rt6, o6, Same.trans' s13 e5.same, R6, h6.2, p2⟩
          · rw [if_neg htk] at p2
            exact p2.elim
        | true =>
          rw [if_pos rfl]
          simp only [if_true] at p2
          refine ⟨B, Hs5, _, sl4, rt5, R5, S4.mono e5, ?_⟩
          cases he : me sl4 rt5 with
          | no => rw [he] at p2; exact p2.elim
          | ex c fs rt7 => rw [he] at p2; exact p2.elim
          | ok y rt7 =>
            rw [he] at p2
            simp only [Ou.bind] at p2
            intro u Hs7 ρ7 H7 e7 R7 d7
            obtain ⟨t7, rfl⟩ : ∃ t7, ρ7 = ρ1 ++ (D :: t7) := by
              obtain ⟨_, t, rfl⟩ := e7
              exact ⟨t5 ++ t, by simp⟩
            cases ha : mAppN (.r rt1.length) [y] rt7 with
            | no => rw [ha] at p2; exact p2.elim
            | ex c fs rt8 => rw [ha] at p2; exact p2.elim
            | ok y8 rt8 =>
              rw [ha] at p2
              simp only [Ou.noex, Ou.bind] at p2
              have q := appN_ok (Wx := Wx) (σ := σ) (Q := fun _ H' => ∃ Hs' rt' acc, Same Hs1 Hs' ∧ Rel X.K X.w B Hs' (ρ1 ++ [D]) (rt' ++ [acc]) H' ∧ rt'.length = rt1.length ∧
                  PE1 X.K X.w B Wx Hs1 ρ1 σ ((compNL vs rt1.length g mt me sl (xs.drop (i + 1)) (rt' ++ [acc])).bind fun _ rt'' => .ok (.r rt1.length) rt'') Q)
                R7 (show WD X.K X.w Hs7 (ρ1 ++ (D :: t7)) (.ref D) (.r rt1.length) from ⟨D, dAt t7, rfl⟩) (.cons d7 .nil) (by
                  rw [ha]
                  intro v8 Hs8 ρ8 H8 e8 R8 _
                  obtain ⟨t8, rfl⟩ : ∃ t8, ρ8 = ρ1 ++ (D :: t8) := by
                    obtain ⟨_, t, rfl⟩ := e8
                    exact ⟨t7 ++ t, by simp⟩
                  have hl8 : rt1.length + 1 ≤ rt8.length := by
                    have := R8.len
                    rw [List.length_append, List.length_cons, R1.len] at this
                    omega
                  by_cases htk : tkOk (rt1.length + 1) (rt8.take (rt1.length + 1)) = true
                  · rw [if_pos htk] at p2
                    have R9 := R8.take (k := rt1.length + 1) hl8 (tk_lt htk)
                    rw [takeρ] at R9
                    obtain ⟨rt9, o9, h9⟩ : ∃ rt9 o9, rt8.take (rt1.length + 1) = rt9 ++ [o9] ∧ rt9.length = rt1.length := by
                      refine ⟨rt8.take rt1.length, rt8[rt1.length]'(by omega), ?_, by rw [List.length_take]; omega⟩
                      rw [List.take_succ_eq_append_getElem]
                    rw [h9.1] at R9 p2
                    exact ⟨Hs8, rt9, o9, Same.trans' s13 (Same.trans' e5.same (Same.trans' e7.same e8.same)), R9, h9.2, p2⟩
                  · rw [if_neg htk] at p2
                    exact p2.elim)
              obtain ⟨l, us8, y', e1', e2', h8, hlim, q⟩ := q
              cases e1'
              cases e2'
              exact ⟨us8, h8, hlim, q⟩
  · rintro H' ⟨Hs', rt', acc, s2, R3, hlen, p2⟩
    rw [List.drop_eq_nil_of_le (Nat.le_refl _)] at p2
    exact p2 (.ref D) Hs' _ H' ⟨s2, [D], rfl⟩ R3 ⟨D, by rw [← R1.len, List.getElem?_append_right (Nat.le_refl _), Nat.sub_self]; rfl, rfl⟩
theorem vx_compN (vs : List Nat) (hc : X.calm = true) (hN : X.N.Nodup) (hi : VI X Wx tg iter it) (ok : BlkOk X.N X.env.scope scope own) (hv : own.map (·.2) = vs := by rfl)
    (hg : ∀ (s : Shared) (H : Hp) (C : Addr) (cl : List (Str × Addr)) (fp : List Addr), VGc (X.blk s H scope (compEnvC scope cl C X.env) fp) vs tg g) (ht : ∀ (s : Shared) (H : Hp) (C : Addr) (cl : List (Str × Addr)) (fp : List Addr), VTs (X.blk s H scope (compEnvC scope cl C X.env) fp) WF ifs mt)
    (he : ∀ (s : Shared) (H : Hp) (C : Addr) (cl : List (Str × Addr)) (fp : List Addr), VX (X.blk s H scope (compEnvC scope cl C X.env) fp) WF elt me) (hs : ∀ x, foldedSetIterable iter X.env x = pure x := by intro _; rfl) :
    VX X Wx (.ListComp elt [⟨tg, iter, ifs, 0⟩] scope pos) (eCompN vs it g mt me) := by
  subst hv
  obtain ⟨wi, i1, i2⟩ := hi.ex
  exact vx_pe (pe_lc hc hN i1 ok (fun s H C cl fp => (hg s H C cl fp).pg) (fun s H C cl fp => (ht s H C cl fp).pts) (fun s H C cl fp => (he s H C cl fp).pe) hs) (compN_ok i2 _)
theorem vs_setCompN (vs : List Nat) {i : Nat} {y : Str} {py spos : Pos} (hc : X.calm = true) (hN : X.N.Nodup) (hy : X.N[i]? = some y) (hyl : X.env.scope.names.lookup y = some .local)
    (hsw : swapsWith (.ListComp elt [⟨tg, iter, ifs, 0⟩] scope pos) (some (.Name y py)) spos.line X.env = pure true) (hi : VI X Wx tg iter it) (ok : BlkOk X.N X.env.scope scope own) (hv : own.map (·.2) = vs := by rfl)
    (hg : ∀ (s : Shared) (H : Hp) (C : Addr) (cl : List (Str × Addr)) (fp : List Addr), VGc (X.blk s H scope (compEnvC scope cl C X.env) fp) vs tg g) (ht : ∀ (s : Shared) (H : Hp) (C : Addr) (cl : List (Str × Addr)) (fp : List Addr), VTs (X.blk s H scope (compEnvC scope cl C X.env) fp) WF ifs mt)
    (he : ∀ (s : Shared) (H : Hp) (C : Addr) (cl : List (Str × Addr)) (fp : List Addr), VX (X.blk s H scope (compEnvC scope cl C X.env) fp) WF elt me) (hs : ∀ x, foldedSetIterable iter X.env x = pure x := by intro _; rfl) :
    VS X Wx (.Assign [.Name y py] (.ListComp elt [⟨tg, iter, ifs, 0⟩] scope pos) spos) (sSet i (eCompN vs it g mt me)) := by
  subst hv
  obtain ⟨wi, i1, i2⟩ := hi.ex
  refine ⟨_, ps_setLc (g := gM X.K X.w _ g) (tt := tMT X.K X.w WF mt) (te := tM X.K X.w WF me) hc hN hy hyl hsw i1 ok (fun s H C cl fp => (hg s H C cl fp).pg) (fun s H C cl fp => (ht s H C cl fp).pts) (fun s H C cl fp => (he s H C cl fp).pe) hs, fun B Hs ρ sl rt σ H D R S p => ?_⟩
  refine compN_ok i2 _ B Hs ρ sl rt σ H _ R S (PEx.seq S p fun x rt1 v Hs1 ρ1 H1 e1 R1 d1 p1 => ?_)
  exact p1 Hs1 ρ1 _ H1 Ext.refl R1 ((S.mono e1).set i d1) (by simp)
end
end VE

set_option maxRecDepth 100000
set_option maxHeartbeats 1000000
/-! sorted rows of ints; t.index; t.count; t < u -/
namespace L2
open PySem PySem.Spec PyProof.Rows PySem.W
/-- the value stands for a tuple of these ints -/
def RowV (K : PySem.W.Frag) (H : Hp) (P : Addr → List Int → Prop) (x : V) (r : List Int) : Prop := ∃ t, x = V.ref t ∧ SqT K H t (r.map V.int) ∧ P t r
def rSortR (K : PySem.W.Frag) : List V → Hp → VK → Prop := fun vs H Q => ∃ (P : Addr → List Int → Prop) (a : Addr) (xs : List V) (rows : List (List Int)), vs = [V.ref a] ∧ SqL K H a xs ∧ EachIs (RowV K H P) xs rows ∧ (∀ r ∈ rows, r ≠ []) ∧
  ∀ ys p, EachIs (RowV K H P) ys (rows.mergeSort fun p q => decide (p ≤ q)) → H p = none → Q (.ref p) (upd H p (.lst ys))
theorem dpAll_ints {K : PySem.W.Frag} {H : Hp} : ∀ (r : List Int), DpAll K H (r.map V.int) (r.map PyData.int)
  | [] => .nil
  | x :: xs => .cons (.int x) (dpAll_ints xs)
theorem dataLe_tups : dataLe false (fun b : List Int => PyData.tuple (b.map .int)) = fun p q => decide (p ≤ q) := by
  funext p q
  show (!dataLt (.tuple (q.map .int)) (.tuple (p.map .int))) = _
  rw [dataLt_tuple]
  show (!rowLt (q.map .int) (p.map .int)) = _
  rw [dataLt_ints]
  by_cases h : q < p
  · have h' : ¬ p ≤ q := fun r => List.not_lt.mpr r h
    simp [h, h']
  · have h' : p ≤ q := List.not_lt.mp h
    simp [h, h']
section
variable {X : Cx}
theorem rows_vals {K : PySem.W.Frag} {H : Hp} {P : Addr → List Int → Prop} : ∀ {xs : List V} {its : List Value} {rows : List (List Int)}, Vals xs its → EachIs (RowV K H P) xs rows → EachIs (fun v r => ∃ t, v = Value.ref t ∧ SqT K H t (r.map V.int) ∧ P t r) its rows
  | _, _, _, .nil, .nil => .nil
  | _, _, _, .cons r rr, .cons ⟨t, e, h⟩ ee => by
    subst e
    cases r
    exact .cons ⟨t, rfl, h⟩ (rows_vals rr ee)
theorem vals_rows {K : PySem.W.Frag} {H : Hp} {P : Addr → List Int → Prop} : ∀ {its : List Value} {rows : List (List Int)}, EachIs (fun v r => ∃ t, v = Value.ref t ∧ SqT K H t (r.map V.int) ∧ P t r) its rows → ∃ xs, Vals xs its ∧ EachIs (RowV K H P) xs rows
  | _, _, .nil => ⟨[], .nil, .nil⟩
  | _, _, .cons ⟨t, e, h⟩ ee => by
    subst e
    obtain ⟨xs, h1, h2⟩ := vals_rows ee
    exact ⟨.ref t :: xs, .cons rfl h1, .cons ⟨t, rfl, h⟩ h2⟩
theorem cr_sortR (hu : X.A.units + 64 < cLine) : CallR X (.builtin "sorted") (rSortR X.K) := by
  intro pins s σ H vs us Q I r h
  obtain ⟨P, a, xs, rows, rfl, hs, hx, hne, q⟩ := h
  obtain ⟨its, rv, hl, hz⟩ := I.list hs
  obtain ⟨u, rfl, ru⟩ := vals1 r
  obtain rfl : u = Value.ref a := ru
  have e := rows_vals rv hx
  have hlen : rows.length ≤ sizeLine := by rw [← hx.length]; exact hz
  refine sorted_data (β := List Int) (vs := its) (bs := rows) (enc := fun r => .tuple (r.map .int)) (R := fun v r => ∃ t, v = Value.ref t ∧ SqT X.K H t (r.map V.int) ∧ P t r) hl.isList e ?_ ?_ ?_ hlen ?_ fun out ho he => ?_
  · exact e.mono fun v r ⟨t, ev, ht, _⟩ => by
      subst ev
      exact Dp.reads I (.tuple (r.map .int)) (.ref t) (.ref t) (.tup ht (dpAll_ints r)) rfl
  · exact AllAlike.of fun b b' => by
      show alike (.tuple _) (.tuple _) = true
      rw [alike]
      exact alike_ints b b'
  · refine .inl fun d hd => ?_
    obtain ⟨r, hr, rfl⟩ := List.mem_map.mp hd
    cases r with
    | nil => exact absurd rfl (hne _ hr)
    | cons x r => exact ⟨_, _, rfl⟩
  · intro b hb
    show X.A.units + 2 + (PyData.tuple (b.map .int)).depth < cLine
    rw [PyData.depth, depth_ints]
    omega
  · rw [dataLe_tups] at he
    obtain ⟨ys, h1, h2⟩ := vals_rows he
    obtain ⟨ep, he'⟩ := PyProof.Rows.sortedAll_at s.heap its out.toArray
    have hlen2 : ys.length ≤ sizeLine := by
      rw [h1.length, ho]; exact hlen
    exact ⟨.ref _, upd H (s.heap.objs.size + 1) (.lst ys), I.laid (t' := s.toks) (fun _ _ => PyProof.Rows.sortedAll_old) (Nat.le_succ _) ⟨hlen2, out, ep, h1, by simpa using he'⟩, rfl, q ys _ h2 (I.hok.fresh (Nat.le_succ _))⟩
end
end L2
namespace L2
open PySem PySem.Spec PyProof.Rows PySem.W
section
variable {X : Cx}
def rCntL (K : PySem.W.Frag) : V → List V → Hp → VK → Prop := fun x xs H Q => ∃ p ys v ds d, x = .ref p ∧ xs = [v] ∧ SqL K H p ys ∧ DpAll K H ys ds ∧ Dp K H v d ∧ PyData.plainAll ds = true ∧ d.plain = true ∧ d.depth ≤ 60 ∧ Q (.int ((ds.countP fun y => PyData.eqv y d : Nat) : Int)) H
def rCntT (K : PySem.W.Frag) : V → List V → Hp → VK → Prop := fun x xs H Q => ∃ p ys v ds d, x = .ref p ∧ xs = [v] ∧ SqT K H p ys ∧ DpAll K H ys ds ∧ Dp K H v d ∧ PyData.plainAll ds = true ∧ d.plain = true ∧ d.depth ≤ 60 ∧ Q (.int ((ds.countP fun y => PyData.eqv y d : Nat) : Int)) H
def rIdxT (K : PySem.W.Frag) : V → List V → Hp → VK → Prop := fun x xs H Q => ∃ (p : Addr) (ns : List Int) (k : Int), x = .ref p ∧ xs = [.int k] ∧ SqT K H p (ns.map V.int) ∧ k ∈ ns ∧ Q (.int (ns.idxOf k : Nat)) H
theorem mt_countL (hu : X.A.units + 64 < cLine) : MtR X "list.count" (rCntL X.K) := by
  intro pins s σ H x xs v us Q I rx rs h
  obtain ⟨p, ys, z, ds, d, rfl, rfl, hq, hds, hd, h1, h2, h3, q⟩ := h
  cases rx
  obtain ⟨u, rfl, ru⟩ := vals1 rs
  obtain ⟨its, r, pl, hz⟩ := I.list hq
  obtain ⟨as, rr⟩ := Dp.readsAll I ds ys its hds r
  obtain ⟨bs, rx⟩ := Dp.reads I d z u hd ru
  exact PySem.SeqAt.count_list_data (vs := its.toArray) pl.isList (by simpa using rr) rx h1 h2 (by have := Nat.min_le_right (PyData.depthAll ds) d.depth; omega) ⟨.int _, H, I.tok _, ⟨_, rfl⟩, q⟩
theorem mt_countT (hu : X.A.units + 64 < cLine) : MtR X "tuple.count" (rCntT X.K) := by
  intro pins s σ H x xs v us Q I rx rs h
  obtain ⟨p, ys, z, ds, d, rfl, rfl, hq, hds, hd, h1, h2, h3, q⟩ := h
  cases rx
  obtain ⟨u, rfl, ru⟩ := vals1 rs
  obtain ⟨its, r, pl, hz⟩ := I.tuple hq
  obtain ⟨as, rr⟩ := Dp.readsAll I ds ys its hds r
  obtain ⟨bs, rx⟩ := Dp.reads I d z u hd ru
  exact PySem.SeqAt.count_tuple_data (vs := its.toArray) (show Heap.IsTuple s.heap p its.toArray from pl) (by simpa using rr) rx h1 h2 (by have := Nat.min_le_right (PyData.depthAll ds) d.depth; omega) ⟨.int _, H, I.tok _, ⟨_, rfl⟩, q⟩
theorem mt_indexT : MtR X "tuple.index" (rIdxT X.K) := by
  intro pins s σ H x xs v us Q I rx rs h
  obtain ⟨p, ns, k, rfl, rfl, hq, hk, q⟩ := h
  cases rx
  obtain ⟨u, rfl, t, rfl⟩ := vals1 rs
  obtain ⟨its, r, pl, hz⟩ := I.tuple hq
  exact PySem.SeqAt.tuple_index_ints (vs := its) (show Heap.IsTuple s.heap p its.toArray from pl) (intsAre_of r) hk ⟨.int _, H, I.tok _, ⟨_, rfl⟩, q⟩
end
end L2
namespace VE
open PySem PySem.Spec L2 PySem.W
/-! ### xs.count(y) -/
def cntD (ds : List D) (z : D) : Option Nat := match pyAll ds, pyOf z with
  | some ps, some p => if PyData.plainAll ps = true ∧ p.plain = true ∧ p.depth ≤ 60 then some (ps.countP fun y => PyData.eqv y p) else none
  | _, _ => none
def cntO (rt : List O) : Option Nat → Ou W
  | some n => .ok (.d (.int (n : Int))) rt
  | none => .no
def mCount (x : W) (xs : List W) (rt : List O) : Ou W := match xs with
  | [y] => cntO rt ((lsOf x rt).bind fun ds => cntD ds (lkD y rt))
  | _ => .no
theorem cntD_ok {K : PySem.W.Frag} {H : Hp} {w : World} {ds : List D} {z : D} {n : Nat} {ys : List V} {v : V} (h : cntD ds z = some n) (h1 : Dens K w H ys ds) (h2 : Den K w H v z) :
    ∃ ps p, DpAll K H ys ps ∧ Dp K H v p ∧ PyData.plainAll ps = true ∧ p.plain = true ∧ p.depth ≤ 60 ∧ n = ps.countP fun y => PyData.eqv y p := by
  unfold cntD at h
  cases e1 : pyAll ds with
  | none => simp only [e1] at h; cases h
  | some ps =>
    cases e2 : pyOf z with
    | none => simp only [e1, e2] at h; cases h
    | some p =>
      simp only [e1, e2] at h
      split at h
      · rename_i hc
        cases h
        exact ⟨ps, p, dps_of h1 e1, dp_of h2 e2, hc.1, hc.2.1, hc.2.2, rfl⟩
      · cases h
section
variable {X : Cx}
theorem mtv_count (hu : X.A.units + 64 < cLine) : MtV X "list" "list.count" isLs mCount := by
  refine ⟨fun B Hs ρ rt H v x R d h => isLs_ok R d h, rCntL X.K, mt_countL hu, fun Wx B Hs ρ rt σ H Q x xs v us R d1 d2 p => ?_⟩
  unfold mCount at p
  split at p
  · rename_i y
    cases d2 with
    | cons d2 d3 =>
      cases d3
      cases e1 : lsOf x rt with
      | none => rw [e1] at p; exact p.elim
      | some ds =>
        rw [e1] at p
        simp only [Option.bind_some] at p
        cases e2 : cntD ds (lkD y rt) with
        | none => rw [e2] at p; exact p.elim
        | some n =>
          rw [e2] at p
          obtain ⟨a, vs, rfl, h1, h2⟩ := lsOf_ok R d1 e1
          obtain ⟨ps, q, g1, g2, g3, g4, g5, rfl⟩ := cntD_ok e2 (h2.mono R.same) (lk_ok R d2)
          exact ⟨a, vs, _, ps, q, rfl, rfl, SqL.of h1, g1, g2, g3, g4, g5, p _ Hs ρ H Ext.refl R (.int _)⟩
  · exact p.elim
/-! ### sorted(rows of ints) -/
def rowOf : D → Option (List Int)
  | .tup xs => intsOf xs
  | _ => none
def rowsOf : List D → Option (List (List Int))
  | [] => some []
  | x :: xs => match rowOf x, rowsOf xs with
    | some r, some rs => some (r :: rs)
    | _, _ => none
def rowD (r : List Int) : D := .tup (r.map D.int)
def srtR (rows : List (List Int)) : List (List Int) := rows.mergeSort fun p q => decide (p ≤ q)
def srtO (rt : List O) : Option (List (List Int)) → Ou W
  | some rows => if (rows.all fun r => !r.isEmpty) = true then .ok (.r rt.length) (rt ++ [.lst ((srtR rows).map rowD)]) else .no
  | none => .no
def bSortR (xs : List W) (rt : List O) : Ou W := match xs with
  | [x] => srtO rt ((lsOf x rt).bind rowsOf)
  | _ => .no
theorem rows_of {K : PySem.W.Frag} {w : World} {Hs H : Hp} (sm : Same Hs H) : ∀ {vs : List V} {xs : List D} {rows : List (List Int)}, Dens K w Hs vs xs → rowsOf xs = some rows → EachIs (RowV K H fun t r => Hs t = some (.tup (r.map V.int))) vs rows
  | _, _, _, .nil, e => by cases e; exact .nil
  | _, _, _, .cons (x := x) (xs := xs) d t, e => by
    rw [rowsOf] at e
    cases e1 : rowOf x with
    | none => simp only [e1] at e; cases e
    | some r =>
      cases e2 : rowsOf xs with
      | none => simp only [e1, e2] at e; cases e
      | some rs =>
        simp only [e1, e2] at e
        cases e
        refine .cons ?_ (rows_of sm t e2)
        cases d with
        | tup h1 h2 =>
          have := ints_ok h2 e1
          rw [this] at h1
          exact ⟨_, rfl, SqT.of (sm _ _ h1), h1⟩
        | _ => cases e1
theorem dens_rows {K : PySem.W.Frag} {w : World} {Hs H : Hp} : ∀ {vs : List V} {rows : List (List Int)}, EachIs (RowV K H fun t r => Hs t = some (.tup (r.map V.int))) vs rows → Dens K w Hs vs (rows.map rowD)
  | _, _, .nil => .nil
  | _, _, .cons ⟨t, e, _, h⟩ r => by
    subst e
    exact .cons (.tup h (dens_ints _)) (dens_rows r)
theorem cv_sortedR (hu : X.A.units + 64 < cLine) : CallV X (.builtin "sorted") bSortR := by
  refine ⟨_, cr_sortR hu, fun Wx B Hs ρ rt σ H Q xs us R d p => ?_⟩
  unfold bSortR at p
  split at p
  · rename_i x
    obtain ⟨v, rfl, d1⟩ := wds1 d
    cases e1 : lsOf x rt with
    | none => rw [e1] at p; exact p.elim
    | some ds =>
      rw [e1] at p
      simp only [Option.bind_some] at p
      cases e2 : rowsOf ds with
      | none => rw [e2] at p; exact p.elim
      | some rows =>
        rw [e2] at p
        simp only [srtO] at p
        split at p
        · rename_i hne
          obtain ⟨l, vs, rfl, h1, h2⟩ := lsOf_ok R d1 e1
          refine ⟨_, l, vs, rows, rfl, SqL.of h1, rows_of R.same h2 e2, fun r hr => ?_, fun ys q hy hq => new_list R (dens_rows hy) p q hq⟩
          have := List.all_eq_true.mp hne r hr
          intro z
          rw [z] at this
          cases this
        · exact p.elim
  · exact p.elim
end
end VE

set_option maxRecDepth 100000
set_option maxHeartbeats 1000000
/-! d[k] = y, y live: it moves into the dict -/
namespace VE
open PySem PySem.Spec L2
theorem aget_app {κ α : Type} [DecidableEq κ] {k : κ} {v : α} : ∀ {xs ys : List (κ × α)}, aget xs k = some v → aget (xs ++ ys) k = some v
  | [], _, h => by cases h
  | (k', x) :: xs, ys, h => by
    rw [List.cons_append]
    unfold aget at h ⊢
    by_cases e : k' = k
    · rw [if_pos e] at h ⊢; exact h
    · rw [if_neg e] at h ⊢; exact aget_app h
theorem aget_snoc {κ α : Type} [DecidableEq κ] {k : κ} {v : α} : ∀ {xs : List (κ × α)}, aget xs k = none → aget (xs ++ [(k, v)]) k = some v
  | [], _ => by simp [aget]
  | (k', x) :: xs, h => by
    rw [List.cons_append]
    unfold aget at h ⊢
    by_cases e : k' = k
    · rw [if_pos e] at h; cases h
    · rw [if_neg e] at h ⊢; exact aget_snoc h
theorem aget_no {κ α : Type} [DecidableEq κ] {k : κ} : ∀ {xs : List (κ × α)}, aget xs k = none → k ∉ xs.map (·.1)
  | [], _, h => by cases h
  | (k', x) :: xs, e, h => by
    unfold aget at e
    by_cases hk : k' = k
    · rw [if_pos hk] at e; cases e
    · rw [if_neg hk] at e
      rw [List.map_cons] at h
      rcases List.mem_cons.mp h with h | h
      · exact hk h.symm
      · exact aget_no e h
theorem aget_none {κ α : Type} [DecidableEq κ] {k : κ} : ∀ {xs : List (κ × α)}, k ∉ xs.map (·.1) → aget xs k = none
  | [], _ => rfl
  | (k', x) :: xs, h => by
    unfold aget
    rw [List.map_cons] at h
    rw [if_neg (fun e => h (by rw [e]; exact List.mem_cons_self ..))]
    exact aget_none fun z => h (List.mem_cons_of_mem _ z)
theorem putK_new {κ : Type} [DecidableEq κ] {k : κ} {v : V} {vs : List (κ × V)} (h : k ∉ vs.map (·.1)) : putK vs k v = vs ++ [(k, v)] := by
  unfold putK
  rw [if_neg]
  intro z
  obtain ⟨p, hp, e⟩ := List.any_eq_true.mp z
  exact h (List.mem_map.mpr ⟨p, hp, by simpa using e⟩)
section
variable {K : PySem.W.Frag} {w : World} {B : Bnd} {Hs Hs' H H' : Hp} {ρ : List Addr} {rt : List O}
theorem OwnA.keys : ∀ {κ : Type} {vs : List (κ × V)} {os : List (κ × O)} {A : List Addr}, OwnA K w Hs H vs os A → vs.map (·.1) = os.map (·.1)
  | _, _, _, _, .nil => rfl
  | _, _, _, _, .cons _ r => by rw [List.map_cons, List.map_cons, OwnA.keys r]
theorem OwnA.ofDenA {Hs H : Hp} : ∀ {κ : Type} {vs : List (κ × V)} {xs : List (κ × D)}, DenA K w Hs vs xs → OwnA K w Hs H vs (xs.map fun p => (p.1, O.d p.2)) []
  | _, _, _, .nil => .nil
  | _, _, _, .cons (k := kk) d r => by
    have := OwnA.cons (k := kk) (Own.d (H := H) d) (OwnA.ofDenA (H := H) r)
    simpa using this
theorem OwnA.snoc {κ : Type} {k : κ} {v : V} {o : O} {D : List Addr} (h : Own K w Hs H v o D) : ∀ {vs : List (κ × V)} {os : List (κ × O)} {A : List Addr}, OwnA K w Hs H vs os A → OwnA K w Hs H (vs ++ [(k, v)]) (os ++ [(k, o)]) (A ++ D)
  | _, _, _, .nil => by
    have := OwnA.cons (k := k) h OwnA.nil
    simpa using this
  | _, _, _, .cons (k := kk) d r => by
    have := OwnA.cons (k := kk) d (OwnA.snoc (k := k) h r)
    simpa using this

def ofD_k : O → Option (List (Key × O))
  | .dk xs => some (xs.map fun p => (p.1, O.d p.2))
  | .ndk os => some os
  | _ => none
theorem ofD_k_nv {x : O} {os : List (Key × O)} (e : ofD_k x = some os) : x.isVw = false := by cases x <;> first | rfl | cases e
theorem ofD_k_own {x : O} {os : List (Key × O)} {a : Addr} {C : List Addr} (h : Own K w Hs H (.ref a) x C) (e : ofD_k x = some os) : ∃ vs A, C = a :: A ∧ H a = some (.dK vs) ∧ OwnA K w Hs H vs os A := by
  cases h <;> first | (cases e; done) | skip
  · cases e
    exact ⟨_, [], rfl, by assumption, .ofDenA (by assumption)⟩
  · cases e
    exact ⟨_, _, rfl, by assumption, by assumption⟩
theorem adr_snoc_k {x z : O} {os : List (Key × O)} {a : Addr} {C : List Addr} {vs : List (Key × V)} {k : Key} {u : V} (h : Own K w Hs H (.ref a) x C) (hn : C.Nodup) (e : ofD_k x = some os) (ha : H a = some (.dK vs)) :
    ∀ q t, adr H (.ref a) x q = some t → adr (upd H a (.dK (vs ++ [(k, u)]))) (.ref a) (.ndk (os ++ [(k, z)])) q = some t := by
  intro q t hq
  cases q with
  | nil => rw [adr_nil] at hq ⊢; exact hq
  | cons s p =>
    obtain ⟨v', x', f, kk, e1, _, _⟩ := adr_kid hq
    obtain ⟨A1, B', A2, hC, h1, _⟩ := kk.own h
    cases kk with
    | ndk e0 e2 e3 =>
      obtain ⟨vs2, A, eC, ha2, r⟩ := ofD_k_own h e
      cases e
      rw [ha] at e0
      cases e0
      simp only [adr, upd_same]
      rw [aget_app e2, aget_app e3]
      refine adr_mono h1 (fun b hb => upd_ne fun zz => ?_) e1
      subst zz
      rw [ha] at ha2
      cases ha2
      obtain ⟨P1, B2, P2, eA, hB2, _⟩ := r.split e2 e3
      have hu := h1.uniq hB2
      subst hu
      rw [eC] at hn
      exact (List.nodup_cons.mp hn).1 (by rw [eA]; simp [hb])
    | _ e0 e2 e3 => rw [ha] at e0; cases e0
theorem live_put_k {v u : V} {x z : O} {os : List (Key × O)} {n m : Nat} {k : Key} (R : Rel K w B Hs ρ rt H) (d : WD K w Hs ρ v (.r n)) (e : rd rt n = some x) (eo : ofD_k x = some os) (hm : rt[m]? = some z) (hz : z.isVw = false)
    (hkm : (locR rt n).1 ≠ m) (hnv : noVw m rt = true) (hk : aget os k = none) (du : WD K w Hs ρ u (.r m)) :
    ∃ a c vs, v = .ref a ∧ u = .ref c ∧ H a = some (.dK vs) ∧ vs.length = os.length ∧ putK vs k (.ref c) = vs ++ [(k, .ref c)] ∧ Rel K w B Hs ρ ((wr rt n (.ndk (os ++ [(k, z)]))).set m (.vw (locR rt n).1 ((locR rt n).2 ++ [.key k]))) (upd H a (.dK (vs ++ [(k, .ref c)]))) := by
  obtain ⟨a, c, C, D, rfl, hc, hC, hD, nC, nD, dis, fr, main⟩ := R.absorb d e (ofD_k_nv eo) hm hz hkm hnv
  obtain ⟨c', hc', rfl⟩ := du
  rw [hc] at hc'
  cases hc'
  obtain ⟨vs, A, eC, ha, hvs⟩ := ofD_k_own hC eo
  have nC0 := nC
  rw [eC] at nC dis
  have haA : a ∉ A := (List.nodup_cons.mp nC).1
  have haD : a ∉ D := dis a (List.mem_cons_self ..)
  have hkv : k ∉ vs.map (·.1) := by rw [hvs.keys]; exact aget_no hk
  refine ⟨a, c, vs, rfl, rfl, ha, hvs.length, putK_new hkv, main (.ndk (os ++ [(k, z)])) (.dK (vs ++ [(k, .ref c)])) (a :: (A ++ D)) (.key k) (by rw [eC]; exact List.mem_cons_self ..) (by rw [eC]; exact List.Perm.refl _) ?_ ?_ ?_⟩
  · have e1 : Own K w Hs (upd H a (.dK (vs ++ [(k, .ref c)]))) (.ref c) z D := hD.mono Same.rfl' fun b hb => upd_ne fun zz => haD (by rw [← zz]; exact hb)
    have e2 : OwnA K w Hs (upd H a (.dK (vs ++ [(k, .ref c)]))) vs os A := hvs.mono Same.rfl' fun b hb => upd_ne fun zz => haA (by rw [← zz]; exact hb)
    exact .ndk upd_same (OwnA.snoc e1 e2)
  · exact adr_snoc_k hC nC0 eo ha
  · simp only [adr, upd_same]
    rw [aget_snoc (aget_none hkv), aget_snoc hk]

def ofD_t : O → Option (List (List Key × O))
  | .dt xs => some (xs.map fun p => (p.1, O.d p.2))
  | .ndt os => some os
  | _ => none
theorem ofD_t_nv {x : O} {os : List (List Key × O)} (e : ofD_t x = some os) : x.isVw = false := by cases x <;> first | rfl | cases e
theorem ofD_t_own {x : O} {os : List (List Key × O)} {a : Addr} {C : List Addr} (h : Own K w Hs H (.ref a) x C) (e : ofD_t x = some os) : ∃ vs A, C = a :: A ∧ H a = some (.dT vs) ∧ OwnA K w Hs H vs os A := by
  cases h <;> first | (cases e; done) | skip
  · cases e
    exact ⟨_, [], rfl, by assumption, .ofDenA (by assumption)⟩
  · cases e
    exact ⟨_, _, rfl, by assumption, by assumption⟩
theorem adr_snoc_t {x z : O} {os : List (List Key × O)} {a : Addr} {C : List Addr} {vs : List (List Key × V)} {k : List Key} {u : V} (h : Own K w Hs H (.ref a) x C) (hn : C.Nodup) (e : ofD_t x = some os) (ha : H a = some (.dT vs)) :
    ∀ q t, adr H (.ref a) x q = some t → adr (upd H a (.dT (vs ++ [(k, u)]))) (.ref a) (.ndt (os ++ [(k, z)])) q = some t := by
  intro q t hq
  cases q with
  | nil => rw [adr_nil] at hq ⊢; exact hq
  | cons s p =>
    obtain ⟨v', x', f, kk, e1, _, _⟩ := adr_kid hq
    obtain ⟨A1, B', A2, hC, h1, _⟩ := kk.own h
    cases kk with
    | ndt e0 e2 e3 =>
      obtain ⟨vs2, A, eC, ha2, r⟩ := ofD_t_own h e
      cases e
      rw [ha] at e0
      cases e0
      simp only [adr, upd_same]
      rw [aget_app e2, aget_app e3]
      refine adr_mono h1 (fun b hb => upd_ne fun zz => ?_) e1
      subst zz
      rw [ha] at ha2
      cases ha2
      obtain ⟨P1, B2, P2, eA, hB2, _⟩ := r.split e2 e3
      have hu := h1.uniq hB2
      subst hu
      rw [eC] at hn
      exact (List.nodup_cons.mp hn).1 (by rw [eA]; simp [hb])
    | _ e0 e2 e3 => rw [ha] at e0; cases e0
theorem live_put_t {v u : V} {x z : O} {os : List (List Key × O)} {n m : Nat} {k : List Key} (R : Rel K w B Hs ρ rt H) (d : WD K w Hs ρ v (.r n)) (e : rd rt n = some x) (eo : ofD_t x = some os) (hm : rt[m]? = some z) (hz : z.isVw = false)
    (hkm : (locR rt n).1 ≠ m) (hnv : noVw m rt = true) (hk : aget os k = none) (du : WD K w Hs ρ u (.r m)) :
    ∃ a c vs, v = .ref a ∧ u = .ref c ∧ H a = some (.dT vs) ∧ vs.length = os.length ∧ putK vs k (.ref c) = vs ++ [(k, .ref c)] ∧ Rel K w B Hs ρ ((wr rt n (.ndt (os ++ [(k, z)]))).set m (.vw (locR rt n).1 ((locR rt n).2 ++ [.keys k]))) (upd H a (.dT (vs ++ [(k, .ref c)]))) := by
  obtain ⟨a, c, C, D, rfl, hc, hC, hD, nC, nD, dis, fr, main⟩ := R.absorb d e (ofD_t_nv eo) hm hz hkm hnv
  obtain ⟨c', hc', rfl⟩ := du
  rw [hc] at hc'
  cases hc'
  obtain ⟨vs, A, eC, ha, hvs⟩ := ofD_t_own hC eo
  have nC0 := nC
  rw [eC] at nC dis
  have haA : a ∉ A := (List.nodup_cons.mp nC).1
  have haD : a ∉ D := dis a (List.mem_cons_self ..)
  have hkv : k ∉ vs.map (·.1) := by rw [hvs.keys]; exact aget_no hk
  refine ⟨a, c, vs, rfl, rfl, ha, hvs.length, putK_new hkv, main (.ndt (os ++ [(k, z)])) (.dT (vs ++ [(k, .ref c)])) (a :: (A ++ D)) (.keys k) (by rw [eC]; exact List.mem_cons_self ..) (by rw [eC]; exact List.Perm.refl _) ?_ ?_ ?_⟩
  · have e1 : Own K w Hs (upd H a (.dT (vs ++ [(k, .ref c)]))) (.ref c) z D := hD.mono Same.rfl' fun b hb => upd_ne fun zz => haD (by rw [← zz]; exact hb)
    have e2 : OwnA K w Hs (upd H a (.dT (vs ++ [(k, .ref c)]))) vs os A := hvs.mono Same.rfl' fun b hb => upd_ne fun zz => haA (by rw [← zz]; exact hb)
    exact .ndt upd_same (OwnA.snoc e1 e2)
  · exact adr_snoc_t hC nC0 eo ha
  · simp only [adr, upd_same]
    rw [aget_snoc (aget_none hkv), aget_snoc hk]
end
def setLk (n m : Nat) (z : O) (i : W) (rt : List O) : Option (List (Key × O)) → Ou Unit
  | some os => match i with
    | .d y => match keyOf y with
      | some k => if (aget os k).isNone = true ∧ (locR rt n).1 ≠ m ∧ noVw m rt = true ∧ os.length < 16000000 then .ok () ((wr rt n (.ndk (os ++ [(k, z)]))).set m (.vw (locR rt n).1 ((locR rt n).2 ++ [.key k]))) else .no
      | none => .no
    | _ => .no
  | none => .no
def setLt (n m : Nat) (z : O) (i : W) (rt : List O) : Option (List (List Key × O)) → Ou Unit
  | some os => match i with
    | .d (.tup zs) => match keysOf zs with
      | some k => if (aget os k).isNone = true ∧ (locR rt n).1 ≠ m ∧ noVw m rt = true ∧ os.length < 16000000 then .ok () ((wr rt n (.ndt (os ++ [(k, z)]))).set m (.vw (locR rt n).1 ((locR rt n).2 ++ [.keys k]))) else .no
      | none => .no
    | _ => .no
  | none => .no
def setL (n m : Nat) (z : O) (i : W) (rt : List O) : Option O → Ou Unit
  | some (.dk kvs) => setLk n m z i rt (some (kvs.map fun p => (p.1, O.d p.2)))
  | some (.ndk os) => setLk n m z i rt (some os)
  | some (.dt kvs) => setLt n m z i rt (some (kvs.map fun p => (p.1, O.d p.2)))
  | some (.ndt os) => setLt n m z i rt (some os)
  | _ => .no
def setLO (n m : Nat) (i : W) (rt : List O) : Option O → Ou Unit
  | some (.d y) => setIx (.r n) i y rt
  | some (.vw _ _) => .no
  | some z => setL n m z i rt (rd rt n)
  | none => .no
/-- o[i] = x, x stays live -/
def setIxN (o i x : W) (rt : List O) : Ou Unit := match x with
  | .d y => setIx o i y rt
  | .r m => match o with
    | .r n => setLO n m i rt rt[m]?
    | _ => .no
def gSbN (mo mi : Ex W) : Gx := fun x sl rt => (mo sl rt).bind fun o rt => (mi sl rt).bind fun i rt => (setIxN o i x rt).bind fun _ rt => .ok sl rt
theorem setLk_ok {K : PySem.W.Frag} {w : World} {B : Bnd} {Wx : WX} {Hs H : Hp} {ρ : List Addr} {rt : List O} {σ : L2.St} {i : W} {n m : Nat} {z x : O} {os : List (Key × O)} {vo vi vy : V} {Q : Hp → Prop} (R : Rel K w B Hs ρ rt H) (d1 : WD K w Hs ρ vo (.r n)) (d2 : WD K w Hs ρ vi i) (d3 : WD K w Hs ρ vy (.r m))
    (e : rd rt n = some x) (eo : ofD_k x = some os) (hm : rt[m]? = some z) (hz : z.isVw = false)
    (p : PEx K w B Wx Hs ρ σ (fun _ _ (_ : Unit) (_ : Unit) => True) (setLk n m z i rt (some os)) (fun _ => Q)) : rSet vo vi vy H Q := by
  simp only [setLk] at p
  split at p
  · split at p
    · rename_i k ek
      split at p
      · rename_i hc
        have := key_ok d2 ek
        subst this
        obtain ⟨a, c, vs, rfl, rfl, h1, h2, h3, h4⟩ := live_put_k (k := k) R d1 e eo hm hz hc.2.1 hc.2.2.1 (by simpa using hc.1) d3
        exact .inr ⟨a, _, rfl, DPut.k h1 (lim_lt (by rw [h2]; exact hc.2.2.2)), by rw [h3]; exact p () Hs ρ _ Ext.refl h4 trivial⟩
      · exact p.elim
    · exact p.elim
  · exact p.elim
theorem setLt_ok {K : PySem.W.Frag} {w : World} {B : Bnd} {Wx : WX} {Hs H : Hp} {ρ : List Addr} {rt : List O} {σ : L2.St} {i : W} {n m : Nat} {z x : O} {os : List (List Key × O)} {vo vi vy : V} {Q : Hp → Prop} (R : Rel K w B Hs ρ rt H) (d1 : WD K w Hs ρ vo (.r n)) (d2 : WD K w Hs ρ vi i) (d3 : WD K w Hs ρ vy (.r m))
    (e : rd rt n = some x) (eo : ofD_t x = some os) (hm : rt[m]? = some z) (hz : z.isVw = false)
    (p : PEx K w B Wx Hs ρ σ (fun _ _ (_ : Unit) (_ : Unit) => True) (setLt n m z i rt (some os)) (fun _ => Q)) : rSet vo vi vy H Q := by
  simp only [setLt] at p
  split at p
  · split at p
    · rename_i k ek
      split at p
      · rename_i hc
        cases d2 with
        | @tup b us _ g1 g2 =>
          have := keys_ok g2 ek
          subst this
          obtain ⟨a, c, vs, rfl, rfl, h1, h2, h3, h4⟩ := live_put_t (k := k) R d1 e eo hm hz hc.2.1 hc.2.2.1 (by simpa using hc.1) d3
          exact .inr ⟨a, _, rfl, DPut.t h1 (R.same _ _ g1) (lim_lt (by rw [h2]; exact hc.2.2.2)), by rw [h3]; exact p () Hs ρ _ Ext.refl h4 trivial⟩
      · exact p.elim
    · exact p.elim
  · exact p.elim
theorem setIxN_ok {K : PySem.W.Frag} {w : World} {B : Bnd} {Wx : WX} {Hs H : Hp} {ρ : List Addr} {rt : List O} {σ : L2.St} {o i x : W} {vo vi vy : V} {Q : Hp → Prop} (R : Rel K w B Hs ρ rt H) (d1 : WD K w Hs ρ vo o) (d2 : WD K w Hs ρ vi i) (d3 : WD K w Hs ρ vy x)
    (p : PEx K w B Wx Hs ρ σ (fun _ _ (_ : Unit) (_ : Unit) => True) (setIxN o i x rt) (fun _ => Q)) : rSet vo vi vy H Q := by
  unfold setIxN at p
  cases x with
  | d y => exact setIx_ok R d1 d2 d3 p
  | r m =>
    cases o with
    | d y => exact p.elim
    | r n =>
      simp only at p
      have live : ∀ z, rt[m]? = some z → z.isVw = false → PEx K w B Wx Hs ρ σ (fun _ _ (_ : Unit) (_ : Unit) => True) (setL n m z i rt (rd rt n)) (fun _ => Q) → rSet vo vi vy H Q := fun z hm hz p => by
        cases e : rd rt n with
        | none => rw [e] at p; exact p.elim
        | some x =>
          rw [e] at p
          cases x <;> first | exact p.elim | skip
          · exact setLk_ok R d1 d2 d3 e rfl hm hz p
          · exact setLt_ok R d1 d2 d3 e rfl hm hz p
          · exact setLk_ok R d1 d2 d3 e rfl hm hz p
          · exact setLt_ok R d1 d2 d3 e rfl hm hz p
      cases hm : rt[m]? with
      | none => rw [hm] at p; exact p.elim
      | some z =>
        rw [hm] at p
        cases z <;> first | exact live _ hm rfl p | skip
        · obtain ⟨F, hF⟩ := R.own
          obtain ⟨c, ec, h1, _⟩ := hF m _ hm
          obtain ⟨c', ec', rfl⟩ := d3
          rw [ec] at ec'
          cases ec'
          have h2 := h1.own rfl
          generalize F m = A at h2
          cases h2 with
          | d h => exact setIx_ok R d1 d2 h p
        · exact p.elim
section
variable {X : Cx} {Wx : WX} {o i : Expr} {mo mi : Ex W} {pos : Pos}
theorem vg_subN (hu : X.A.units + 1 < cLine) (ho : VX X Wx o mo) (hi : VX X Wx i mi)
    (ha : ∀ v, assign (.Subscript o i pos) X.env v = (do
      let ov ← holding [v] (eval o X.env)
      let iv ← holding [v, ov] (eval i X.env)
      standAt pos
      holding [v, ov, iv] (setItem ov iv v)
      release [v, ov, iv] []) := by intros; rfl) : VG X Wx (.Subscript o i pos) (gSbN mo mi) := by
  obtain ⟨t, a1, a2⟩ := ho.ex
  obtain ⟨u, b1, b2⟩ := hi.ex
  refine ⟨_, pg_sub a1 b1 (set_any hu) ha, fun B Hs ρ x v sl rt σ H Q R S d p => ?_⟩
  refine a2 B Hs ρ sl rt σ H _ R S (PEx.bind p fun y rt1 vo Hs1 ρ1 H1 e1 R1 d1 p1 => ?_)
  refine b2 B Hs1 ρ1 sl rt1 σ H1 _ R1 (S.mono e1) (PEx.bind p1 fun z rt2 vi Hs2 ρ2 H2 e2 R2 d2 p2 => ?_)
  refine setIxN_ok R2 (d1.mono e2) d2 (d.mono (e1.trans e2)) (PEx.bind p2 fun _ rt4 v4 Hs4 ρ4 H4 e4 R4 d4 p4 => ?_)
  exact p4 σ Hs4 ρ4 H4 Ext.refl R4 ⟨S.mono ((e1.trans e2).trans e4), rfl⟩
end
end VE

set_option maxRecDepth 100000
set_option maxHeartbeats 1000000
/-! d.get(k, x) -/
namespace VE
open PySem PySem.Spec L2
def dcOf (x : W) (rt : List O) : Option (List (Key × D) ⊕ List (List Key × D)) := match x with
  | .r n => match rd rt n with
    | some (.dk kvs) => some (.inl kvs)
    | some (.dt kvs) => some (.inr kvs)
    | some (.d (.dt kvs)) => some (.inr kvs)
    | _ => none
  | .d (.dt kvs) => some (.inr kvs)
  | .d (.dk kvs) => if (kvs.any fun kv => kv.1.isLeft) = true then some (.inl kvs) else none
  | _ => none
def gtO (z : W) (rt : List O) : Option D → Ou W
  | some y => .ok (.d y) rt
  | none => .ok z rt
def gtD (k : W) (z : W) (rt : List O) : Option (List (Key × D) ⊕ List (List Key × D)) → Ou W
  | some (.inl kvs) => match k with
    | .d k => match keyOf k with
      | some q => gtO z rt (dget kvs q)
      | none => .no
    | _ => .no
  | some (.inr kvs) => match k with
    | .d (.tup zs) => match keysOf zs with
      | some q => gtO z rt (dget kvs q)
      | none => .no
    | _ => .no
  | none => .no
def eGet (mo mk mf : Ex W) : Ex W := fun sl rt => (mo sl rt).bind fun x rt => if (dcOf x rt).isSome = true then (mk sl rt).bind fun k rt => (mf sl rt).bind fun z rt => gtD k z rt (dcOf x rt) else .no
theorem dcOf_ok {K : PySem.W.Frag} {w : World} {B : Bnd} {Hs H : Hp} {ρ : List Addr} {rt : List O} {v : V} {x : W} {c : List (Key × D) ⊕ List (List Key × D)} (R : Rel K w B Hs ρ rt H) (d : WD K w Hs ρ v x) (e : dcOf x rt = some c) :
    ∃ a, v = .ref a ∧ match c with
      | .inl kvs => ∃ us, Rd H a (.dK us) ∧ DenA K w Hs us kvs
      | .inr kvs => ∃ us, Rd H a (.dT us) ∧ DenA K w Hs us kvs := by
  cases x with
  | d y =>
    cases y <;> first | (cases e; done) | skip
    · rename_i kvs
      simp only [dcOf] at e
      split at e
      · rename_i hl
        cases e
        cases d with
        | dk h1 h2 => exact ⟨_, rfl, _, Rd.mono R.same h1, h2⟩
        | wd h1 h2 =>
          obtain ⟨_, _, _, _, _, h5, _⟩ := h1
          rw [left_key h2 h5] at hl
          cases hl
      · cases e
    · cases e
      cases d with
      | dt h1 h2 => exact ⟨_, rfl, _, Rd.mono R.same h1, h2⟩
  | r n =>
    simp only [dcOf] at e
    cases er : rd rt n with
    | none => rw [er] at e; cases e
    | some y =>
      rw [er] at e
      cases y <;> first | (cases e; done) | skip
      · rename_i y
        cases y <;> first | (cases e; done) | skip
        cases e
        obtain ⟨a, C, rfl, h1, _⟩ := R.at d er rfl
        refine ⟨a, rfl, ?_⟩
        cases h1 with
        | d h =>
          cases h with
          | dt h1 h2 => exact ⟨_, Rd.mono R.same h1, h2⟩
      · cases e
        obtain ⟨a, vs, rfl, h1, h2, _⟩ := live_dk R d er
        exact ⟨a, rfl, vs, .inl h1, h2⟩
      · cases e
        obtain ⟨a, vs, rfl, h1, h2, _⟩ := live_dt R d er
        exact ⟨a, rfl, vs, .inl h1, h2⟩
section
variable {X : Cx} {Wx : WX} {o e f : Expr} {mo mk mf : Ex W} {apos cpos : Pos}
theorem gtO_ok {B : Bnd} {Hs H : Hp} {ρ : List Addr} {rt : List O} {σ : L2.St} {Q : VK} {κ : Type} [DecidableEq κ] {us : List (κ × V)} {kvs : List (κ × D)} {k : κ} {z : W} {vz : V} (R : Rel X.K X.w B Hs ρ rt H) (h : DenA X.K X.w Hs us kvs) (dz : WD X.K X.w Hs ρ vz z)
    (p : PE1 X.K X.w B Wx Hs ρ σ (gtO z rt (dget kvs k)) Q) : Q ((valV us k).getD vz) H := by
  rcases h.val k with ⟨h1, h2⟩ | ⟨v, x, h1, h2, h3⟩
  · rw [h2] at p
    rw [h1]
    exact p _ Hs ρ H Ext.refl R dz
  · rw [h2] at p
    rw [h1]
    exact p _ Hs ρ H Ext.refl R h3
theorem vx_get (hu : X.A.units + 1 < cLine) (ho : VX X Wx o mo) (he : VX X Wx e mk) (hf : VX X Wx f mf)
    (m : M2 X o "get" apos e f cpos := by exact ⟨rfl, rfl, rfl, rfl⟩) : VX X Wx (.Call (.Attribute o "get" apos) [e, f] [] cpos) (eGet mo mk mf) := by
  obtain ⟨t, a1, a2⟩ := ho.ex
  obtain ⟨u, b1, b2⟩ := he.ex
  obtain ⟨q, c1, c2⟩ := hf.ex
  refine vx_pe (pe_dget2 hu a1 b1 c1 m) fun B Hs ρ sl rt σ H Q R S p => ?_
  refine a2 B Hs ρ sl rt σ H _ R S (PEx.bind p fun x rt1 v Hs1 ρ1 H1 e1 R1 d1 p1 => ?_)
  split at p1
  · rename_i hd
    obtain ⟨c0, ec0⟩ := Option.isSome_iff_exists.mp hd
    obtain ⟨a, rfl, hc0⟩ := dcOf_ok R1 d1 ec0
    refine ⟨a, rfl, ?_, ?_⟩
    · cases c0 with
      | inl kvs => obtain ⟨us, g, _⟩ := hc0; exact .inl ⟨us, g⟩
      | inr kvs => obtain ⟨us, g, _⟩ := hc0; exact .inr ⟨us, g⟩
    refine b2 B Hs1 ρ1 sl rt1 σ H1 _ R1 (S.mono e1) (PEx.bind p1 fun k rt2 vk Hs2 ρ2 H2 e2 R2 d2 p2 => ?_)
    refine c2 B Hs2 ρ2 sl rt2 σ H2 _ R2 (S.mono (e1.trans e2)) (PEx.bind p2 fun z rt3 vz Hs3 ρ3 H3 e3 R3 d3 p3 => ?_)
    cases ec : dcOf x rt3 with
    | none => rw [ec] at p3; exact p3.elim
    | some c =>
      rw [ec] at p3
      obtain ⟨a', ea, hc⟩ := dcOf_ok R3 (d1.mono (e2.trans e3)) ec
      cases ea
      have d2' := d2.mono e3
      cases c with
      | inl kvs =>
        obtain ⟨us, g, hden⟩ := hc
        simp only [gtD] at p3
        split at p3
        · split at p3
          · rename_i kk q2 ek
            have := key_ok d2' ek
            subst this
            exact ⟨valV us q2, .inl ⟨us, q2, g, rfl, rfl⟩, gtO_ok R3 hden d3 p3⟩
          · exact p3.elim
        · exact p3.elim
      | inr kvs =>
        obtain ⟨us, g, hden⟩ := hc
        simp only [gtD] at p3
        split at p3
        · split at p3
          · rename_i zs q2 ek
            cases d2' with
            | @tup b us2 _ g1 g2 =>
              have := keys_ok g2 ek
              subst this
              exact ⟨valV us q2, .inr ⟨us, q2, b, g, rfl, R3.same _ _ g1, rfl⟩, gtO_ok R3 hden d3 p3⟩
          · exact p3.elim
        · exact p3.elim
  · exact p1.elim
end
end VE

set_option maxRecDepth 100000
set_option maxHeartbeats 1000000
/-! max(xs, default=d), ints -/
namespace L2
open PySem PySem.Spec PyProof.Rows PySem.W
theorem maxOf_int : ∀ (xs : List Int) (x : Int), maxOf x xs ∈ x :: xs ∧ ∀ y ∈ x :: xs, y ≤ maxOf x xs
  | [], x => ⟨List.mem_cons_self .., fun y hy => by rw [List.mem_singleton.mp hy]; exact Int.le_refl _⟩
  | z :: xs, x => by
    have ih := maxOf_int xs (if DatumOrd.lt x z = true then z else x)
    have e : maxOf x (z :: xs) = maxOf (if DatumOrd.lt x z = true then z else x) xs := rfl
    have hl : DatumOrd.lt x z = decide (x < z) := rfl
    rw [e]
    by_cases h : x < z
    · rw [hl, if_pos (by simpa using h)] at ih ⊢
      refine ⟨List.mem_cons_of_mem _ ih.1, fun y hy => ?_⟩
      rcases List.mem_cons.mp hy with rfl | hy
      · have := ih.2 z (List.mem_cons_self ..); omega
      · exact ih.2 y hy
    · rw [hl, if_neg (by simpa using h)] at ih ⊢
      refine ⟨?_, fun y hy => ?_⟩
      · rcases List.mem_cons.mp ih.1 with h1 | h1
        · rw [h1]; exact List.mem_cons_self ..
        · exact List.mem_cons_of_mem _ (List.mem_cons_of_mem _ h1)
      · rcases List.mem_cons.mp hy with rfl | hy
        · exact ih.2 _ (List.mem_cons_self ..)
        · rcases List.mem_cons.mp hy with rfl | hy
          · have := ih.2 x (List.mem_cons_self ..); omega
          · exact ih.2 y (List.mem_cons_of_mem _ hy)
def rMaxD (K : PySem.W.Frag) : List V → List V → Hp → VK → Prop := fun vs zs H Q => ∃ (a : Addr) (ns : List Int) (d : V), vs = [V.ref a] ∧ zs = [d] ∧ (SqL K H a (ns.map V.int) ∨ SqT K H a (ns.map V.int)) ∧ (ns = [] → Q d H) ∧ ∀ m, m ∈ ns → (∀ y ∈ ns, y ≤ m) → Q (.int m) H
section
variable {X : Cx}
theorem cr_maxD (hcl : X.calm = true) (hu : X.A.units + 64 < cLine) : CallRK X (.builtin "max") [Str.ofString "default"] (rMaxD X.K) := by
  intro pins s σ H vs zs us ws Q I r rz h
  obtain ⟨a, ns, d, rfl, rfl, hs, q0, q1⟩ := h
  obtain rfl := Vals.ref1 r
  obtain ⟨w1, rfl, e1⟩ := vals1 rz
  have fin : ∀ (its : Array Value) (y : Int) (ys : List Int) (i : Nat) v h' tk, ns = y :: ys → its[i]? = some v → Holds h' v (maxOf y ys) → (∀ b o, s.heap.get? b = some o → h'.get? b = some o) → EP X pins σ Q v { s with heap := h', toks := tk } := by
    intro its y ys i v h' tk e _ hh hk
    subst e
    obtain ⟨as, hr⟩ := hh
    have hr' : Reads h' v (.int (maxOf y ys)) as := hr
    cases hr' with
    | int _ t => exact ⟨.int _, H, I.kept hk, ⟨t, rfl⟩, q1 _ (maxOf_int ys y).1 (maxOf_int ys y).2⟩
  have room : X.A.units + 1 + Datum.depth Int < cLine := by
    have : Datum.depth Int = 0 := rfl
    omega
  rcases hs with hs | hs
  · obtain ⟨its, rv, hl, hz⟩ := I.list hs
    obtain ⟨as, rr⟩ := Dp.readsAll I (ns.map PyData.int) _ its (dpAll_ints ns) rv
    exact max_list_datum_default (α := Int) (vs := its.toArray) (xs := ns) (I.ok.hd hcl) hl.isList ⟨as, by show ReadsAll s.heap _ (ns.map PyData.int) as; simpa using rr⟩ room (fun e h' tk hk => ⟨d, H, I.kept hk, e1, q0 e⟩) (fin its.toArray)
  · obtain ⟨its, rv, hl, hz⟩ := I.tuple hs
    obtain ⟨as, rr⟩ := Dp.readsAll I (ns.map PyData.int) _ its (dpAll_ints ns) rv
    exact max_tuple_datum_default (α := Int) (vs := its.toArray) (xs := ns) (I.ok.hd hcl) (show Heap.IsTuple s.heap a its.toArray from hl) ⟨as, by show ReadsAll s.heap _ (ns.map PyData.int) as; simpa using rr⟩ room (fun e h' tk hk => ⟨d, H, I.kept hk, e1, q0 e⟩) (fin its.toArray)
end
end L2
namespace VE
open PySem PySem.Spec L2
def sqI (x : W) (rt : List O) : Option (List Int) := match x with
  | .d (.tup xs) => intsOf xs
  | .d (.ktup xs) => intsOf xs
  | x => (lsOf x rt).bind intsOf
def mxDO (z : W) (rt : List O) : Option (List Int) → Ou W
  | some [] => .ok z rt
  | some (n :: ns) => .ok (.d (.int (maxL (n :: ns)))) rt
  | none => .no
def mxDL (z : W) (rt : List O) : List W → Ou W
  | [x] => mxDO z rt (sqI x rt)
  | _ => .no
def eMaxD (ma : Ex (List W)) (md : Ex W) : Ex W := fun sl rt => (ma sl rt).bind fun xs rt => (md sl rt).bind fun z rt => mxDL z rt xs
theorem sqI_ok {K : PySem.W.Frag} {w : World} {B : Bnd} {Hs H : Hp} {ρ : List Addr} {rt : List O} {v : V} {x : W} {ns : List Int} (R : Rel K w B Hs ρ rt H) (d : WD K w Hs ρ v x) (e : sqI x rt = some ns) : ∃ a, v = .ref a ∧ (SqL K H a (ns.map V.int) ∨ SqT K H a (ns.map V.int)) := by
  have ls : (lsOf x rt).bind intsOf = some ns → ∃ a, v = .ref a ∧ (SqL K H a (ns.map V.int) ∨ SqT K H a (ns.map V.int)) := fun e => by
    cases e1 : lsOf x rt with
    | none => rw [e1] at e; cases e
    | some ds =>
      rw [e1] at e
      obtain ⟨a, vs, rfl, h1, h2⟩ := lsOf_ok R d e1
      rw [ints_ok h2 e] at h1
      exact ⟨a, rfl, .inl (SqL.of h1)⟩
  have tp : ∀ ds, tpOf x = some ds → intsOf ds = some ns → ∃ a, v = .ref a ∧ (SqL K H a (ns.map V.int) ∨ SqT K H a (ns.map V.int)) := fun ds e1 e => by
    obtain ⟨a, vs, rfl, _, h1, h2⟩ := tpOf_ok R d e1
    rw [ints_ok h2 e] at h1
    exact ⟨a, rfl, .inr h1⟩
  cases x with
  | r n => exact ls e
  | d y => cases y <;> first | exact ls e | exact tp _ rfl e
section
variable {X : Cx} {Wx : WX} {a d : Expr} {ma : Ex (List W)} {md : Ex W} {p pos kpos : Pos}
theorem vx_maxD (hcl : X.calm = true) (hu : X.A.units + 64 < cLine) (hg : Gl X "max") (hm : X.mg "max" = none) (ha : VA X Wx [a] ma) (hd : VX X Wx d md)
    (he : backTo pos (starEach [a] X.env) = (false, eval a X.env) :: backTo pos (starEach [] X.env) := by rfl) (hpl : (backTo pos (starEach [a] X.env)).any (·.1) = false := by rfl)
    (hall : (backToKw pos (keywordEach [⟨some (Str.ofString "default"), d, kpos⟩] X.env)).all (·.1.isSome) = true := by rfl) (hnone : (backToKw pos (keywordEach [⟨some (Str.ofString "default"), d, kpos⟩] X.env)).any (·.1.isNone) = false := by rfl)
    (hks : (backToKw pos (keywordEach [⟨some (Str.ofString "default"), d, kpos⟩] X.env)).filterMap (·.1) = [Str.ofString "default"] := by rfl) :
    VX X Wx (.Call (.Name "max" p) [a] [⟨some (Str.ofString "default"), d, kpos⟩] pos) (eMaxD ma md) := by
  obtain ⟨t, a1, a2⟩ := ha.ex
  obtain ⟨u, b1, b2⟩ := hd.ex
  refine vx_pe (pe_callBK (cr_maxD hcl hu) hg hm (by rfl) a1 (pk_cons b1 pk_nil) (by decide) (by decide) he hpl hall hnone hks) fun B Hs ρ sl rt σ H Q R S p => ?_
  refine a2 B Hs ρ sl rt σ H _ R S (PEx.bind p fun xs rt1 vs Hs1 ρ1 H1 e1 R1 d1 p1 => ?_)
  show u σ H1 _
  refine b2 B Hs1 ρ1 sl rt1 σ H1 _ R1 (S.mono e1) (PEx.bind p1 fun z rt2 vz Hs2 ρ2 H2 e2 R2 d2 p2 => ?_)
  unfold mxDL at p2
  split at p2
  · rename_i x
    obtain ⟨v, rfl, dx⟩ := wds1 (d1.mono e2)
    cases e : sqI x rt2 with
    | none => rw [e] at p2; exact p2.elim
    | some ns =>
      rw [e] at p2
      obtain ⟨a0, rfl, hs⟩ := sqI_ok R2 dx e
      refine ⟨a0, ns, vz, rfl, rfl, hs, fun hn => ?_, fun m hm hle => ?_⟩
      · subst hn
        exact p2 _ Hs2 ρ2 H2 Ext.refl R2 d2
      · cases ns with
        | nil => cases hm
        | cons n ns =>
          have h1 := maxL_mem (ns := n :: ns) (by simp)
          have h2 := hle _ h1
          have h3 := maxL_le hm
          have h4 : m = maxL (n :: ns) := by omega
          subst h4
          exact p2 _ Hs2 ρ2 H2 Ext.refl R2 (.int _)
  · exact p2.elim
end
end VE

set_option maxRecDepth 100000
set_option maxHeartbeats 1000000
/-! max(t), t a tuple (or list) of ints -/
namespace L2
open PySem PySem.Spec PyProof.Rows PySem.W
def rMaxT (K : PySem.W.Frag) : List V → Hp → VK → Prop := fun vs H Q => ∃ (a : Addr) (ns : List Int), vs = [V.ref a] ∧ SqT K H a (ns.map V.int) ∧ ns ≠ [] ∧ ∀ m, m ∈ ns → (∀ y ∈ ns, y ≤ m) → Q (.int m) H
section
variable {X : Cx}
theorem cr_maxT (hcl : X.calm = true) (hu : X.A.units + 64 < cLine) : CallR X (.builtin "max") (rMaxT X.K) := by
  intro pins s σ H vs us Q I r h
  obtain ⟨a, ns, rfl, hs, hne, q1⟩ := h
  obtain rfl := Vals.ref1 r
  have room : X.A.units + 1 + Datum.depth Int < cLine := by
    have : Datum.depth Int = 0 := rfl
    omega
  cases ns with
  | nil => exact absurd rfl hne
  | cons y ys =>
    obtain ⟨its, rv, hl, hz⟩ := I.tuple hs
    obtain ⟨as, rr⟩ := Dp.readsAll I ((y :: ys).map PyData.int) _ its (dpAll_ints (y :: ys)) rv
    refine max_tuple_datum (α := Int) (vs := its.toArray) (x := y) (xs := ys) (I.ok.hd hcl) (show Heap.IsTuple s.heap a its.toArray from hl) ⟨as, by show ReadsAll s.heap _ ((y :: ys).map PyData.int) as; simpa using rr⟩ room fun i v h' tk _ hh hk => ?_
    obtain ⟨as, hr⟩ := hh
    have hr' : Reads h' v (.int (maxOf y ys)) as := hr
    cases hr' with
    | int _ t => exact ⟨.int _, H, I.kept hk, ⟨t, rfl⟩, q1 _ (maxOf_int ys y).1 (maxOf_int ys y).2⟩
end
end L2
namespace VE
open PySem PySem.Spec L2
def mxTO (rt : List O) : Option (List Int) → Ou W
  | some (n :: ns) => .ok (.d (.int (maxL (n :: ns)))) rt
  | _ => .no
def bMaxT (xs : List W) (rt : List O) : Ou W := match xs with
  | [x] => mxTO rt ((tpOf x).bind intsOf)
  | _ => .no
section
variable {X : Cx}
theorem cv_maxT (hcl : X.calm = true) (hu : X.A.units + 64 < cLine) : CallV X (.builtin "max") bMaxT := by
  refine ⟨_, cr_maxT hcl hu, fun Wx B Hs ρ rt σ H Q xs us R d p => ?_⟩
  unfold bMaxT at p
  split at p
  · rename_i x
    obtain ⟨v, rfl, d1⟩ := wds1 d
    cases e1 : tpOf x with
    | none => rw [e1] at p; exact p.elim
    | some ds =>
      rw [e1] at p
      simp only [Option.bind_some] at p
      cases e2 : intsOf ds with
      | none => rw [e2] at p; exact p.elim
      | some ns =>
        rw [e2] at p
        cases ns with
        | nil => exact p.elim
        | cons n ns =>
          obtain ⟨a, vs, rfl, _, h1, h2⟩ := tpOf_ok R d1 e1
          rw [ints_ok h2 e2] at h1
          refine ⟨a, n :: ns, rfl, h1, by simp, fun m hm hle => ?_⟩
          have h3 := maxL_mem (ns := n :: ns) (by simp)
          have h4 := hle _ h3
          have h5 := maxL_le hm
          have h6 : m = maxL (n :: ns) := by omega
          subst h6
          exact p _ Hs ρ H Ext.refl R (.int _)
  · exact p.elim
end
theorem bMaxT_1 {x : W} {rt : List O} : bMaxT [x] rt = mxTO rt ((tpOf x).bind intsOf) := rfl
theorem mxTO_cons {rt : List O} {n : Int} {ns : List Int} : mxTO rt (some (n :: ns)) = .ok (.d (.int (maxL (n :: ns)))) rt := rfl
end VE

set_option maxRecDepth 100000
set_option maxHeartbeats 1000000
/-! tuples that are known to bear no dict: tuple(xs), t[::-1], t.index(k), t.count(y); xs.index(k) -/
namespace HT
open PySem PySem.Spec PyProof.Rows
section
variable {prog : Program} {w : World} {A : Around} {E : Value → Shared → Prop} {s : Shared}
theorem slicePlaces_rev (n : Nat) : Builtin.Slice.slicePlaces ((n : Int) - 1) (-1) (-1) = n := by
  unfold Builtin.Slice.slicePlaces
  rw [if_neg (by decide)]
  split
  · rw [show (-(-1) : Int) = 1 by decide, Int.ediv_one]
    omega
  · simp only [Int.toNat_zero]
    omega
theorem sliceApplied_rev {sl : Addr} {vs : Value} {n : Nat} {Q : Int × Int × Nat → Shared → Prop} (hs : s.heap.IsSliceOf sl .none .none vs) (ps : IsPart vs (some (-1)))
    (h : Q ((n : Int) - 1, -1, n) s) : wpAny (model prog w) A (Builtin.Slice.sliceApplied (.ref sl) (pure (n : Int))) Q E s := by
  obtain ⟨os, hos, hcs, hds⟩ := id hs
  unfold Builtin.Slice.sliceApplied Builtin.Slice.sliceFields
  refine wpAny_bind (wpAny_bind (wpAny_field hos hds (x := .none) rfl (wpAny_bind (wpAny_field hos hds (x := .none) rfl (wpAny_bind (wpAny_field hos hds (x := vs) rfl (wpAny_pure ?_)))))))
  refine wpAny_bind (slicePart_ ps ?_)
  show wpAny _ _ (if ((-1 : Int) == 0) = true then _ else _) _ _ s
  rw [if_neg (by decide)]
  refine wpAny_bind (slicePart_none (wpAny_bind (slicePart_none (wpAny_bind (wpAny_pure ?_)))))
  show wpAny _ _ (pure ((n : Int) - 1, (-1 : Int), Builtin.Slice.slicePlaces ((n : Int) - 1) (-1) (-1))) _ _ s
  rw [slicePlaces_rev]
  exact wpAny_pure h
theorem fm_congr {α β : Type} {f g : α → Option β} : ∀ {l : List α}, (∀ x ∈ l, f x = g x) → l.filterMap f = l.filterMap g
  | [], _ => rfl
  | x :: l, h => by
    rw [List.filterMap_cons, List.filterMap_cons, h x (List.mem_cons_self ..), fm_congr fun y hy => h y (List.mem_cons_of_mem _ hy)]
theorem pick_rev (xs : Array Value) : ((List.range xs.size).filterMap fun (m : Nat) => xs[(((xs.size : Int) - 1) + (m : Int) * -1).toNat]?).toArray = xs.toList.reverse.toArray := by
  have e : (List.range xs.size).filterMap (fun (m : Nat) => xs[(((xs.size : Int) - 1) + (m : Int) * -1).toNat]?) = ((List.range xs.size).map fun k => xs.size - 1 - k).filterMap (xs[·]?) := by
    rw [List.filterMap_map]
    refine fm_congr fun m hm => ?_
    have hm := List.mem_range.mp hm
    have : (((xs.size : Int) - 1) + (m : Int) * -1).toNat = xs.size - 1 - m := by omega
    rw [this]
    rfl
  rw [e, PySem.W.krv_range, List.filterMap_reverse, PySem.W.krv_all]
theorem getItem_tuple_rev {t sl : Addr} {items : Array Value} {vs : Value} {Q : Value → Shared → Prop} (ht : IsTup s.heap t items) (hs : s.heap.IsSliceOf sl .none .none vs) (ps : IsPart vs (some (-1)))
    (h : Q (.ref s.heap.objs.size) { s with heap := s.heap.push { cls := .type "tuple", data := .seq items.toList.reverse.toArray } })
    (hsz : items.size ≤ sizeLine) : wpAny (model prog w) A (getItem (.ref t) (.ref sl)) Q E s := by
  have htake : sizeOk (.seq items.toList.reverse.toArray) := by
    show items.toList.reverse.toArray.size ≤ sizeLine
    rw [List.size_toArray, List.length_reverse, Array.length_toList]
    exact hsz
  obtain ⟨os, hos, hcs, hds⟩ := id hs
  have hTs : s.TypeIs (.ref sl) "slice" := ⟨os, hos, hcs⟩
  unfold getItem
  try with_reducible refine wpAny_holding ?_
  first | refine wpAny_bind (wpAny_pure ?_) | skip
  refine wpAny_bind (wpAny_sequenceKey ht.typeIs (by decide) ?_)
  refine wpAny_bind (wpAny_callSpecial?_slot (name := Str.ofString "__getitem__") ht.typeIs PyProof.Rows.slot_tuple_getitem
    (wpAny_call_entry PyProof.Rows.slot_tuple_getitem ht.typeIs entry_tuple_getitem ?_ (args_tuple_getitem _ _)))
  show wpAny _ _ (Builtin.Tuple.tupleItemsOf (.ref t) >>= _) _ _ s
  refine wpAny_bind (tupleItemsOf_ ht ?_)
  refine wpAny_bind (wpAny_typeOf hTs ?_)
  rw [if_pos (by decide)]
  refine wpAny_bind (sliceApplied_rev hs ps ?_)
  have hno : ¬ ((((items.size : Int) - 1) == 0 && (-1 : Int) == 1 && items.size == items.size) = true) := by
    simp
  show wpAny _ _ (if (((items.size : Int) - 1) == 0 && (-1 : Int) == 1 && items.size == items.size) = true then _ else _) _ _ s
  rw [if_neg hno, pick_rev]
  first
    | exact wpAny_bind (m := Builtin.Tuple.tupleExact _) (wpAny_newObj_type (wpAny_pure ⟨_, rfl, wpAny_pure h⟩) htake)
    | exact wpAny_bind (m := Builtin.Tuple.tupleExact _) (wpAny_newObj_type (wpAny_bind (wpAny_pure (wpAny_pure ⟨_, rfl, wpAny_pure h⟩))) htake)
    | exact wpAny_bind (wpAny_bind (m := Builtin.Tuple.tupleExact _) (wpAny_newObj_type (wpAny_pure (wpAny_pure ⟨_, rfl, wpAny_pure h⟩)) htake))
    | exact wpAny_bind (wpAny_bind (m := Builtin.Tuple.tupleExact _) (wpAny_newObj_type (wpAny_pure ⟨_, rfl, wpAny_pure h⟩) htake))
end
end HT
namespace L2
open PySem PySem.Spec PyProof.Rows
/-- a new tuple, its object known -/
def NewT (H : Hp) (ys : List V) (Q : VK) : Prop := ∀ (l : Addr) (ob : Obj), H l = none → ob.cls = .type "tuple" → ob.dict = none → Q (.ref l) (upd H l (.frz ob (.tup ys)))
section
variable {X : Cx}
theorem call_tupleK_of : CallR X (.type "tuple") (fun xs H Q => ∃ p ys, xs = [.ref p] ∧ SqL X.K H p ys ∧ NewT H ys Q) := by
  intro pins s σ H xs us Q I r h
  obtain ⟨p, ys, rfl, hq, q⟩ := h
  obtain ⟨u, rfl, rx⟩ := vals1 r
  cases rx
  obtain ⟨its, r', pl, hz⟩ := I.list hq
  have hlen := r'.length
  refine call_tuple_list pl.isList (fun h' kp => ?_) (by simp only [List.size_toArray] <;> omega)
  have I1 : Inv X pins σ H { s with heap := h' } := I.kept (t' := s.toks) kp
  have I2 : Inv X pins σ (upd H h'.objs.size (.frz { cls := .type "tuple", data := .seq its.toArray } (.tup ys))) { s with heap := h'.push { cls := .type "tuple", data := .seq its.toArray } } :=
    I1.laid (t' := s.toks) (fun b o e => Heap.get?_push_of_some _ e) (Nat.le_refl _) (show ObjOk X.prog X.w _ _ _ (.frz _ (.tup ys)) from ⟨Heap.get?_push_size _ rfl, hz, its, r', IsTup.new _ _⟩)
  exact ⟨.ref h'.objs.size, _, I2, rfl, q _ _ (I1.hok.fresh (Nat.le_refl _)) rfl rfl⟩
def tRevK (K : PySem.W.Frag) (te : TE) : TE := fun σ H Q => te σ H fun x H1 => ∃ a xs, x = .ref a ∧ SqT K H1 a xs ∧ NewT H1 xs.reverse Q
theorem pe_revK {e : Expr} {te : TE} {k : Nat} {p1 p2 p3 pos : Pos} (he : PE X e te) : PE X (.Subscript e (.Slice none none (some (.UnaryOp .USub (.Constant (.int 1) k p1) p2)) p3) pos) (tRevK X.K te) := by
  refine ⟨fun pins s σ H Q I h => ?_⟩
  refine Subscript_ (thn (he.run pins s σ H _ I h) fun v s1 ⟨x, H1, I1, r1, q1⟩ => ?_)
  obtain ⟨a, xs, ex, hx, q⟩ := q1
  subst ex
  cases r1
  have hst : PO X (some (.UnaryOp .USub (.Constant (.int 1) k p1) p2)) (tPart (tUn (rU fun i => .int (-i)) (tC (.int 1)))) := po_some (pe_un un_neg pe_int)
  refine wpAny_Slice (thn (po_none.run pins s1 σ H1 (fun o H2 => o = none ∧ H2 = H1) I1 ⟨rfl, rfl⟩) fun vl s2 ⟨l, H2, I2, pl, el, e2⟩ => ?_)
  subst el e2
  refine thn (po_none.run pins s2 σ H2 (fun o H3 => o = none ∧ H3 = H2) I2 ⟨rfl, rfl⟩) fun vu s3 ⟨u, H3, I3, pu, eu, e3⟩ => ?_
  subst eu e3
  refine thn (hst.run pins s3 σ H3 (fun o H4 => o = some (-1) ∧ H4 = H3) I3 ⟨1, rfl, -1, rfl, rfl, rfl⟩) fun vs s4 ⟨o, H4, I4, ps, eo, e4⟩ => ?_
  subst eo e4
  cases pl
  cases pu
  have I5 : Inv X pins σ H4 { s4 with heap := s4.heap.push { cls := .type "slice", data := .fields #[.none, .none, vs] } } := I4.kept (t' := s4.toks) fun b ob q => Heap.get?_push_of_some _ q
  obtain ⟨its, r, ht, hz⟩ := I5.tuple hx
  have hlen := r.length
  show wpAny (model X.prog X.w) X.A (subscriptTail e (.Slice none none (some (.UnaryOp .USub (.Constant (.int 1) k p1) p2)) p3) (.ref a) (.ref s4.heap.objs.size)) (EP X pins σ Q) X.xe { s4 with heap := s4.heap.push { cls := .type "slice", data := .fields #[.none, .none, vs] } }
  refine tail_any (ops := [.ref a, .ref s4.heap.objs.size]) ht.typeIs (PyProof.Rows.slot_tuple_getitem.lookup) ?_ (by with_unfolding_all rfl)
  refine HT.getItem_tuple_rev ht (Heap.IsSliceOf.new _ .none .none vs) ps ?_ (by rw [List.size_toArray]; omega)
  refine ⟨.ref _, _, I5.laid (t' := s4.toks) (o := .frz { cls := .type "tuple", data := .seq its.toArray.toList.reverse.toArray } (.tup xs.reverse)) (fun b ob q => Heap.get?_push_of_some _ q) (Nat.le_refl _) ?_, rfl, q _ _ (I5.hok.fresh (Nat.le_refl _)) rfl rfl⟩
  exact ⟨Heap.get?_push_size _ rfl, by rw [List.length_reverse]; exact hz, _, r.reverse, IsTup.new _ _⟩
/-! methods of such a tuple -/
def NdV (K : PySem.W.Frag) (x : V) (H : Hp) : Prop := ∃ p, x = .ref p ∧ ((∃ ob u, H p = some (.frz ob u) ∧ ob.cls = .type "tuple" ∧ ob.dict = none) ∨ ∃ o, K.lookup p = some o ∧ o.cls = .type "tuple" ∧ o.dict = none)
theorem ndV_is {pins : List (Addr × Obj)} {σ : St} {H : Hp} {s : Shared} {x : V} {v : Value} (I : Inv X pins σ H s) (r : RelV x v) (ty : NdV X.K x H) :
    s.TypeIs v "tuple" ∧ ∀ a, v = .ref a → ∃ ob, s.heap.get? a = some ob ∧ ob.dict = none := by
  obtain ⟨p, rfl, ⟨ob, u, h, hc, hd⟩ | ⟨o, hk, hc, hd⟩⟩ := ty
  · cases r
    have z := (I.hok p _ h).1
    refine ⟨⟨ob, z, hc⟩, fun a e => ?_⟩
    cases e
    exact ⟨ob, z, hd⟩
  · cases r
    refine ⟨⟨o, I.kIn p o hk, hc⟩, fun a e => ?_⟩
    cases e
    exact ⟨o, I.kIn _ o hk, hd⟩
def tBMT (K : PySem.W.Frag) (r : V → List V → Hp → VK → Prop) (to : TE) (t : TA) : TE := fun σ H Q => to σ H fun x H1 => NdV K x H1 ∧ t σ H1 fun xs H2 => r x xs H2 Q
variable {o e : Expr} {es : List Expr} {to : TE} {t : TA} {name : Str} {apos cpos : Pos} {id : String} {r : V → List V → Hp → VK → Prop}
theorem pe_bmT (slot : Slot "tuple" name id) (hty : typeOf (.builtin id) = pure (.type "method_descriptor")) (hm : MtR X id r) (ho : PE X o to) (ha : PA X (e :: es) t)
    (hbase : attributeBase o name X.env (eval o X.env) = eval o X.env := by rfl)
    (hfew : ((backTo cpos (starEach (e :: es) X.env)).all (fun x => !x.1) && (backToKw cpos (keywordEach [] X.env)).all (fun x => x.1.isSome)
      && decide ((e :: es).length + ([] : List Keyword).length + (if ([] : List Keyword).isEmpty then 0 else 1) < 30)) = true := by rfl)
    (hline : (apos.endLine == cpos.line) = true := by rfl) (hs : starEach (e :: es) X.env = (false, eval e X.env) :: starEach es X.env := by rfl) (hplain : (backTo cpos (starEach es X.env)).any (·.1) = false := by rfl) :
    PE X (.Call (.Attribute o name apos) (e :: es) [] cpos) (tBMT X.K r to t) := by
  refine ⟨fun pins s σ H Q I h => ?_⟩
  refine wpAny_Call_method_late hbase hfew hline rfl (thn (ho.run pins s σ H _ I h) fun v s1 ⟨x, H1, I1, r1, ty, q1⟩ => ?_)
  obtain ⟨h1, h2⟩ := ndV_is I1 r1 ty
  refine ⟨"tuple", id, PySem.F.plainAttrs_tuple, slot, hty, h1, h2, ?_⟩
  have hA := ha.run cpos pins s1 σ H1 _ I1 q1
  rw [hs] at hA ⊢
  refine Calls.callWith_builtin (by show (false || (backTo cpos (starEach es X.env)).any (·.1)) = false; rw [hplain] <;> rfl) (Calls.evalArgs_plain ?_)
  exact thn hA fun us s2 ⟨vs, H2, I2, r2, q2⟩ => hm pins s2 σ H2 x vs v us Q I2 r1 r2 q2
def rTIx (K : PySem.W.Frag) : V → List V → Hp → VK → Prop := fun x xs H Q => ∃ (a : Addr) (ns : List Int) (k : Int), x = .ref a ∧ xs = [.int k] ∧ SqT K H a (ns.map V.int) ∧ k ∈ ns ∧ Q (.int (ns.idxOf k : Nat)) H
def rLIx (K : PySem.W.Frag) : V → List V → Hp → VK → Prop := fun x xs H Q => ∃ (a : Addr) (ns : List Int) (k : Int), x = .ref a ∧ xs = [.int k] ∧ SqL K H a (ns.map V.int) ∧ k ∈ ns ∧ Q (.int (ns.idxOf k : Nat)) H
theorem mt_tIx : MtR X "tuple.index" (rTIx X.K) := by
  intro pins s σ H x xs v us Q I rx rs h
  obtain ⟨a, ns, k, rfl, rfl, hq, hk, q⟩ := h
  cases rx
  obtain ⟨u, rfl, r1⟩ := Vals.one rs
  obtain ⟨t, rfl⟩ := r1
  obtain ⟨its, r', pl, hz⟩ := I.tuple hq
  exact SeqAt.tuple_index_ints pl (intsAre_of r') hk ⟨.int _, H, I.kept (t' := s.toks + 1) fun _ _ e => e, ⟨_, rfl⟩, q⟩
theorem mt_lIx : MtR X "list.index" (rLIx X.K) := by
  intro pins s σ H x xs v us Q I rx rs h
  obtain ⟨a, ns, k, rfl, rfl, hq, hk, q⟩ := h
  cases rx
  obtain ⟨u, rfl, r1⟩ := Vals.one rs
  obtain ⟨t, rfl⟩ := r1
  obtain ⟨its, r', pl, hz⟩ := I.list hq
  exact SeqAt.list_index_ints pl.isList (intsAre_of r') (by rw [List.length_map] at hz; exact hz) hk ⟨.int _, H, I.kept (t' := s.toks + 1) fun _ _ e => e, ⟨_, rfl⟩, q⟩
end
end L2
namespace VE
open PySem PySem.Spec L2
def ktOf : W → Option (List D)
  | .d (.ktup xs) => some xs
  | _ => none
def isKt (x : W) (_ : List O) : Bool := (ktOf x).isSome
def ixoO (rt : List O) (k : Int) : Option (List Int) → Ou W
  | some ns => if k ∈ ns then .ok (.d (.int (ns.idxOf k : Nat))) rt else .no
  | none => .no
def mIndexL (x : W) (xs : List W) (rt : List O) : Ou W := match xs with
  | [.d (.int k)] => ixoO rt k ((lsOf x rt).bind intsOf)
  | _ => .no
def mIndexT (x : W) (xs : List W) (rt : List O) : Ou W := match xs with
  | [.d (.int k)] => ixoO rt k ((ktOf x).bind intsOf)
  | _ => .no
def mCountT (x : W) (xs : List W) (rt : List O) : Ou W := match xs with
  | [y] => cntO rt ((ktOf x).bind fun ds => cntD ds (lkD y rt))
  | _ => .no
def okT (rt : List O) : Option (List D) → Ou W
  | some ys => .ok (.d (.ktup ys)) rt
  | none => .no
def bTupleK (xs : List W) (rt : List O) : Ou W := match xs with
  | [x] => okT rt (lsOf x rt)
  | _ => .no
def eRevK (m : Ex W) : Ex W := fun sl rt => (m sl rt).bind fun x rt => okT rt ((tpOf x).map List.reverse)
section
variable {K : PySem.W.Frag} {w : World} {B : Bnd} {Wx : WX} {Hs H : Hp} {ρ : List Addr} {rt : List O} {σ : L2.St} {v : V} {x : W} {xs : List D} {vs : List V} {Q : VK}
theorem new_ktup (R : Rel K w B Hs ρ rt H) (d : Dens K w Hs vs xs) (p : PE1 K w B Wx Hs ρ σ (.ok (.d (.ktup xs)) rt) Q) : NewT H vs Q := fun q ob hq h1 h2 =>
  p _ _ ρ _ (Ext.of_same (same_upd (R.fresh hq).1)) (R.alloc hq) (.ktup (.inl ⟨ob, upd_same, h1, h2⟩) (d.mono (same_upd (R.fresh hq).1)))
theorem ktOf_ok (R : Rel K w B Hs ρ rt H) (d : WD K w Hs ρ v x) (e : ktOf x = some xs) : ∃ a vs, v = .ref a ∧ NdV K v H ∧ SqT K H a vs ∧ Dens K w Hs vs xs := by
  cases x with
  | r n => cases e
  | d x =>
    cases x <;> first | cases e | skip
    cases d with
    | @ktup a vs _ h1 h2 =>
      refine ⟨a, vs, rfl, ⟨a, rfl, ?_⟩, SqT.mono R.same h1.sqt, h2⟩
      rcases h1 with ⟨ob, h, g⟩ | ⟨o, its, n, g1, g2, g3, _⟩
      · exact .inl ⟨ob, _, R.same _ _ h, g⟩
      · exact .inr ⟨o, g1, g2, g3⟩
end
section
variable {X : Cx} {Wx : WX} {o e a : Expr} {mo m ma : Ex W} {pos : Pos}
theorem cv_tupleK : CallV X (.type "tuple") bTupleK := by
  refine ⟨_, call_tupleK_of, fun Wx B Hs ρ rt σ H Q xs us R d p => ?_⟩
  unfold bTupleK at p
  split at p
  · obtain ⟨v, rfl, d1⟩ := wds1 d
    cases ey : lsOf _ rt with
    | none => rw [ey] at p; exact p.elim
    | some ys =>
      rw [ey] at p
      obtain ⟨a, vs, rfl, h1, h2⟩ := lsOf_ok R d1 ey
      exact ⟨a, vs, rfl, SqL.of h1, new_ktup R h2 p⟩
  · exact p.elim
theorem vx_revK {k : Nat} {p1 p2 p3 : Pos} (ha : VX X Wx a ma) : VX X Wx (.Subscript a (.Slice none none (some (.UnaryOp .USub (.Constant (.int 1) k p1) p2)) p3) pos) (eRevK ma) := by
  obtain ⟨t, a1, a2⟩ := ha.ex
  refine vx_pe (pe_revK a1) fun B Hs ρ sl rt σ H Q R S p => ?_
  refine a2 B Hs ρ sl rt σ H _ R S (PEx.bind p fun x rt1 v Hs1 ρ1 H1 e1 R1 d1 p1 => ?_)
  cases e : tpOf x with
  | none => rw [e] at p1; exact p1.elim
  | some xs =>
    rw [e] at p1
    obtain ⟨a, vs, rfl, _, h1, h2⟩ := tpOf_ok R1 d1 e
    exact ⟨a, vs, rfl, h1, new_ktup R1 h2.rev p1⟩
structure MtT (X : Cx) (id : String) (g : W → List W → List O → Ou W) : Prop where
  ex : ∃ r, MtR X id r ∧ ∀ (Wx : WX) (B : Bnd) (Hs : Hp) (ρ : List Addr) (rt : List O) (σ : L2.St) (H : Hp) (Q : VK) (x : W) (xs : List W) (v : V) (us : List V), Rel X.K X.w B Hs ρ rt H → WD X.K X.w Hs ρ v x → WDs X.K X.w Hs ρ us xs →
    PE1 X.K X.w B Wx Hs ρ σ (g x xs rt) Q → r v us H Q
variable {es : List Expr} {ms : Ex (List W)} {id : String} {gm : W → List W → List O → Ou W} {name : Str} {apos cpos : Pos}
theorem vx_mtT (slot : Slot "tuple" name id) (hty : typeOf (.builtin id) = pure (.type "method_descriptor")) (hm : MtT X id gm) (ho : VX X Wx o mo) (ha : VA X Wx (e :: es) ms)
    (hbase : attributeBase o name X.env (eval o X.env) = eval o X.env := by rfl)
    (hfew : ((backTo cpos (starEach (e :: es) X.env)).all (fun x => !x.1) && (backToKw cpos (keywordEach [] X.env)).all (fun x => x.1.isSome)
      && decide ((e :: es).length + ([] : List Keyword).length + (if ([] : List Keyword).isEmpty then 0 else 1) < 30)) = true := by rfl)
    (hline : (apos.endLine == cpos.line) = true := by rfl) (hs : starEach (e :: es) X.env = (false, eval e X.env) :: starEach es X.env := by rfl) (hplain : (backTo cpos (starEach es X.env)).any (·.1) = false := by rfl) :
    VX X Wx (.Call (.Attribute o name apos) (e :: es) [] cpos) (eMt isKt gm mo ms) := by
  obtain ⟨t, a1, a2⟩ := ho.ex
  obtain ⟨u, b1, b2⟩ := ha.ex
  obtain ⟨r, h1, h2⟩ := hm.ex
  refine vx_pe (pe_bmT slot hty h1 a1 b1 hbase hfew hline hs hplain) fun B Hs ρ sl rt σ H Q R S p => ?_
  refine a2 B Hs ρ sl rt σ H _ R S (PEx.bind p fun x rt1 v Hs1 ρ1 H1 e1 R1 d1 p1 => ?_)
  split at p1
  · rename_i hT
    obtain ⟨xs, ex⟩ := Option.isSome_iff_exists.mp hT
    obtain ⟨_, _, _, g, _, _⟩ := ktOf_ok R1 d1 ex
    refine ⟨g, ?_⟩
    refine b2 B Hs1 ρ1 sl rt1 σ H1 _ R1 (S.mono e1) (PEx.bind p1 fun xs rt2 us Hs2 ρ2 H2 e2 R2 d2 p2 => ?_)
    exact h2 Wx B Hs2 ρ2 rt2 σ H2 Q x xs v us R2 (d1.mono e2) d2 p2
  · exact p1.elim
theorem mtt_index : MtT X "tuple.index" mIndexT := by
  refine ⟨rTIx X.K, mt_tIx, fun Wx B Hs ρ rt σ H Q x xs v us R d1 d2 p => ?_⟩
  unfold mIndexT at p
  split at p
  · rename_i k
    cases d2 with
    | cons d2 d3 =>
      cases d3
      cases d2
      cases e1 : ktOf x with
      | none => rw [e1] at p; exact p.elim
      | some ds =>
        rw [e1] at p
        simp only [Option.bind_some] at p
        cases e2 : intsOf ds with
        | none => rw [e2] at p; exact p.elim
        | some ns =>
          rw [e2] at p
          simp only [ixoO] at p
          split at p
          · rename_i hk
            obtain ⟨a, vs, rfl, _, h1, h2⟩ := ktOf_ok R d1 e1
            rw [ints_ok h2 e2] at h1
            exact ⟨a, ns, k, rfl, rfl, h1, hk, p _ Hs ρ H Ext.refl R (.int _)⟩
          · exact p.elim
  · exact p.elim
theorem mtt_count (hu : X.A.units + 64 < cLine) : MtT X "tuple.count" mCountT := by
  refine ⟨rCntT X.K, mt_countT hu, fun Wx B Hs ρ rt σ H Q x xs v us R d1 d2 p => ?_⟩
  unfold mCountT at p
  split at p
  · rename_i y
    cases d2 with
    | cons d2 d3 =>
      cases d3
      cases e1 : ktOf x with
      | none => rw [e1] at p; exact p.elim
      | some ds =>
        rw [e1] at p
        simp only [Option.bind_some] at p
        cases e2 : cntD ds (lkD y rt) with
        | none => rw [e2] at p; exact p.elim
        | some n =>
          rw [e2] at p
          obtain ⟨a, vs, rfl, _, h1, h2⟩ := ktOf_ok R d1 e1
          obtain ⟨ps, q, g1, g2, g3, g4, g5, rfl⟩ := cntD_ok e2 (h2.mono R.same) (lk_ok R d2)
          exact ⟨a, vs, _, ps, q, rfl, rfl, h1, g1, g2, g3, g4, g5, p _ Hs ρ H Ext.refl R (.int _)⟩
  · exact p.elim
theorem mtv_index : MtV X "list" "list.index" isLs mIndexL := by
  refine ⟨fun B Hs ρ rt H v x R d h => isLs_ok R d h, rLIx X.K, mt_lIx, fun Wx B Hs ρ rt σ H Q x xs v us R d1 d2 p => ?_⟩
  unfold mIndexL at p
  split at p
  · rename_i k
    cases d2 with
    | cons d2 d3 =>
      cases d3
      cases d2
      cases e1 : lsOf x rt with
      | none => rw [e1] at p; exact p.elim
      | some ds =>
        rw [e1] at p
        simp only [Option.bind_some] at p
        cases e2 : intsOf ds with
        | none => rw [e2] at p; exact p.elim
        | some ns =>
          rw [e2] at p
          simp only [ixoO] at p
          split at p
          · rename_i hk
            obtain ⟨a, vs, rfl, h1, h2⟩ := lsOf_ok R d1 e1
            rw [ints_ok h2 e2] at h1
            exact ⟨a, ns, k, rfl, rfl, SqL.of h1, hk, p _ Hs ρ H Ext.refl R (.int _)⟩
          · exact p.elim
  · exact p.elim
end
theorem ktOf_k {xs : List D} : ktOf (.d (.ktup xs)) = some xs := rfl
theorem isKt_k {xs : List D} {rt : List O} : isKt (.d (.ktup xs)) rt = true := rfl
theorem mIndexT_1 {x : W} {k : Int} {rt : List O} : mIndexT x [.d (.int k)] rt = ixoO rt k ((ktOf x).bind intsOf) := rfl
theorem mIndexL_1 {x : W} {k : Int} {rt : List O} : mIndexL x [.d (.int k)] rt = ixoO rt k ((lsOf x rt).bind intsOf) := rfl
theorem mCountT_1 {x y : W} {rt : List O} : mCountT x [y] rt = cntO rt ((ktOf x).bind fun ds => cntD ds (lkD y rt)) := rfl
theorem ixoO_some {k : Int} {ns : List Int} {rt : List O} : ixoO rt k (some ns) = if k ∈ ns then .ok (.d (.int (ns.idxOf k : Nat))) rt else .no := rfl
theorem bTupleK_1 {x : W} {rt : List O} : bTupleK [x] rt = okT rt (lsOf x rt) := rfl
theorem okT_some {ys : List D} {rt : List O} : okT rt (some ys) = .ok (.d (.ktup ys)) rt := rfl
end VE

set_option maxRecDepth 100000
set_option maxHeartbeats 1000000
/-! ghosts: a name's value becomes plain; roots that no name leads to are dropped -/
namespace VE
open PySem PySem.Spec L2
def sFrz (i : Nat) : Sx := fun sl rt => match sl[i]? with
  | some (some x) => match vOf x rt with
    | .ok y rt' => .nx (sl.set i (some (.d y))) rt'
    | _ => .no
  | _ => .no
def sFz (i : Nat) (m : Sx) : Sx := fun sl rt => (m sl rt).andThen (sFrz i)
def sTidy (ks : List Nat) (m : Sx) : Sx := fun sl rt => match m sl rt with
  | .nx sl1 rt1 => turnEnd ks rt.length .nx sl1 rt1
  | o => o
section
variable {X : Cx} {Wx : WX} {st : Stmt} {m : Sx}
theorem SlD.upd {K : PySem.W.Frag} {w : World} {Hs : Hp} {ρ : List Addr} {σ : L2.St} {sl : Sl} (h : SlD K w Hs ρ σ sl) (i : Nat) {x : W} {y : D} (e : sl[i]? = some (some x)) (d : ∀ v, σ[i]? = some (some v) → WD K w Hs ρ v x → Den K w Hs v y) : SlD K w Hs ρ σ (sl.set i (some (.d y))) := by
  refine ⟨by simpa using h.len, fun j z ez => ?_⟩
  by_cases hj : i = j
  · subst hj
    have hl : i < sl.length := (List.getElem?_eq_some_iff.mp e).1
    rw [List.getElem?_set_self hl] at ez
    cases ez
    obtain ⟨v, e1, e2⟩ := h.at_ i x e
    exact ⟨v, e1, d v e1 e2⟩
  · rw [List.getElem?_set_ne hj] at ez
    exact h.at_ j z ez
theorem vs_fz (i : Nat) (h : VS X Wx st m) : VS X Wx st (sFz i m) := by
  obtain ⟨t, a1, a2⟩ := h.ex
  refine ⟨_, a1, fun B Hs ρ sl rt σ H D R S p => ?_⟩
  refine a2 B Hs ρ sl rt σ H _ R S (PSx.then (Nx := D.nx) (k := sFrz i) p fun sl1 rt1 Hs1 ρ1 σ1 H1 e1 R1 S1 l1 p1 => ?_)
  unfold sFrz at p1
  cases hx : sl1[i]? with
  | none => simp only [hx] at p1; exact p1.elim
  | some o =>
    cases o with
    | none => simp only [hx] at p1; exact p1.elim
    | some x =>
      simp only [hx] at p1
      obtain ⟨v, e3, d3⟩ := S1.at_ i x hx
      cases hv : vOf x rt1 with
      | ok y rt' =>
        simp only [hv] at p1
        obtain ⟨Hs', e4, R4, d4⟩ := vOf_ok R1 d3 y rt' hv
        refine p1 Hs' ρ1 σ1 H1 e4 R4 ((S1.mono e4).upd i hx fun v' e5 _ => ?_) rfl
        rw [e3] at e5
        cases e5
        exact d4
      | ex c fs rt' => exact (vOf_noex hv).elim
      | no => simp only [hv] at p1; exact p1.elim
theorem vs_tidy (ks : List Nat) (h : VS X Wx st m) : VS X Wx st (sTidy ks m) := by
  obtain ⟨t, a1, a2⟩ := h.ex
  refine ⟨_, a1, fun B Hs ρ sl rt σ H D R S p => ?_⟩
  refine a2 B Hs ρ sl rt σ H D R S ?_
  unfold sTidy at p
  cases hm : m sl rt with
  | nx sl1 rt1 =>
    rw [hm] at p
    simp only [← R.len] at p
    intro Hs1 ρ1 σ1 H1 e1 R1 S1 l1
    obtain ⟨Hs6, ρ6, sl6, rt6, e6, R6, S6, l6, p6⟩ := turn_ok (ks := ks) (k := Os.nx) e1 R1 S1 l1 p
    exact p6 Hs6 ρ6 σ1 H1 e6 R6 S6 l6
  | bk sl1 rt1 => rw [hm] at p; exact p
  | ct sl1 rt1 => rw [hm] at p; exact p
  | re x rt1 => rw [hm] at p; exact p
  | ex c fs sl1 rt1 => rw [hm] at p; exact p
  | no => rw [hm] at p; exact p
end
end VE

set_option maxRecDepth 100000
set_option maxHeartbeats 1000000
/-! sorted(t), t a tuple of ints; t < u, tuples of ints -/
namespace SrtO
open PySem PyProof.Rows Srt
section
variable {prog : Program} {w : World} {A : Around} {E : Value → Shared → Prop} {s : Shared}
theorem collect_tup {l : Addr} {vs : List Value} {Q : List Value → Shared → Prop} (hl : IsTup s.heap l vs.toArray)
    (h : Q vs { s with heap := (s.heap.push (seqObj "list" #[] 0)).update s.heap.objs.size (Obj.mapSeq (· ++ vs.toArray)) }) (hsz : vs.length ≤ sizeLine) :
    wpAny (model prog w) A (collect (.ref l)) Q E s := by
  obtain ⟨o, ho, hc, n, hd⟩ := id hl
  unfold collect
  refine wpAny_bind (wpAny_runValue (codeAny_builtin entry_proto_collect' ?_))
  show wpAny _ _ (do again (.builtin "list.__iadd__" ⟨[← newList [], .ref l], []⟩)) _ _ s
  refine wpAny_bind (wpAny_newList (wpAny_pure ⟨Code.quiet_builtin _ (by decide +kernel), codeAny_builtin entry_list_iadd' ?_⟩))
  show wpAny _ _ (Builtin.List.listExtendWith (.ref s.heap.objs.size) (.ref l) (.ref s.heap.objs.size)) _ _ { s with heap := s.heap.push (seqObj "list" #[] 0) }
  unfold Builtin.List.listExtendWith
  have ho' : (s.heap.push (seqObj "list" #[] 0)).get? l = some o := Heap.get?_push_of_some _ ho
  refine wpAny_bind (wpAny_typeOf (T := "tuple") ⟨o, ho', hc⟩ ?_)
  have ht : (Value.type "tuple" == Value.type "tuple") = true := by rfl
  rw [if_pos (by rw [ht]; simp)]
  refine wpAny_bind (listItems_at ho' hd ?_)
  refine wpAny_bind (listItems_at (xs := #[]) (n := 0) (Heap.get?_push_size _ rfl) rfl ?_)
  rw [if_neg (by simp)]
  refine wpAny_bind (listUpdate_at (xs := #[]) (n := 0) (Heap.get?_push_size _ rfl) rfl ?_ (Nat.zero_le _) (by show (#[] ++ vs.toArray).size ≤ sizeLine + 1; simp only [Array.size_append, List.size_toArray, List.length_nil]; omega))
  refine wpAny_pure ?_
  show wpAny (model prog w) A (do
      let o ← load s.heap.objs.size
      match o.data with
      | .seq xs _ => pure xs.toList
      | _ => unsupported "internal:collect") Q E { s with heap := (s.heap.push (seqObj "list" #[] 0)).update s.heap.objs.size (Obj.mapSeq (· ++ vs.toArray)) }
  refine wpAny_bind (wpAny_load (get?_update_seq (Heap.get?_push_size _ rfl) _) ?_)
  show wpAny _ _ (pure ((#[] : Array Value) ++ vs.toArray).toList) Q E _
  rw [show ((#[] : Array Value) ++ vs.toArray).toList = vs by simp]
  exact wpAny_pure h
theorem sorted_ordT {l : Addr} {vs : List Value} {ltv : Value → Value → Bool} {Q : Value → Shared → Prop} (O : Swo ltv) (hl : IsTup s.heap l vs.toArray) (hz : vs.length ≤ sizeLine)
    (hS : 2 ≤ vs.length → ∀ (h₁ : Heap) (a : Addr), h₁.get? a = some (seqObj "list" vs.toArray 0) → (∀ b o, s.heap.get? b = some o → b ≠ a ∧ h₁.get? b = some o) → SortableO prog w A.in1.in1 { s with heap := h₁ } a vs ltv)
    (h : ∀ out : List Value, Srtd ltv out → Stb ltv out vs → Q (.ref (s.heap.objs.size + 1)) { s with heap := sortedAll s.heap vs out.toArray }) :
    wpAny (model prog w) A (call (.builtin "sorted") [.ref l]) Q E s := by
  refine Calls.call_function_entry kind_sorted plain_sorted entry_sorted (args_sorted1 _) ?_
  unfold Builtin.«sorted»
  refine wpAny_bind (m := checkCount "sorted" 1 1 _) (wpAny_pure ?_)
  refine wpAny_bind (collect_tup hl ?_ hz)
  refine wpAny_bind (wpAny_newList ?_ hz)
  have hsz : ((s.heap.push (seqObj "list" #[] 0)).update s.heap.objs.size (Obj.mapSeq (· ++ vs.toArray))).objs.size = s.heap.objs.size + 1 := by
    rw [Heap.size_update, size_push']
  have hoL : (((s.heap.push (seqObj "list" #[] 0)).update s.heap.objs.size (Obj.mapSeq (· ++ vs.toArray))).push (seqObj "list" vs.toArray 0)).get? (s.heap.objs.size + 1) = some (seqObj "list" vs.toArray 0) := by
    rw [← hsz]; exact Heap.get?_push_size _ rfl
  have keep : ∀ b o, s.heap.get? b = some o → b ≠ s.heap.objs.size + 1 ∧ (((s.heap.push (seqObj "list" #[] 0)).update s.heap.objs.size (Obj.mapSeq (· ++ vs.toArray))).push (seqObj "list" vs.toArray 0)).get? b = some o := fun b o q => by
    have hlt : b < s.heap.objs.size := Heap.lt_size q
    refine ⟨Nat.ne_of_lt (Nat.lt_succ_of_lt hlt), Heap.get?_push_of_some _ ?_⟩
    rw [Heap.get?_update_ne _ _ _ _ (Nat.ne_of_lt hlt)]
    exact Heap.get?_push_of_some _ q
  show wpAny _ _ _ _ _ { s with heap := ((s.heap.push (seqObj "list" #[] 0)).update s.heap.objs.size (Obj.mapSeq (· ++ vs.toArray))).push (seqObj "list" vs.toArray 0) }
  rw [hsz]
  refine wpAny_bind (wpAny_holding (wpAny_call_entry slot_list_sort ⟨_, hoL, rfl⟩ entry_list_sort (list_sort_ord O hoL hz (fun h2 => hS h2 _ _ hoL keep) fun out hs hb => ⟨_, rfl, ?_⟩) (args_list_sort _)))
  exact wpAny_pure ⟨_, rfl, h out hs hb⟩
end
end SrtO
namespace L2
open PySem PySem.Spec PyProof.Rows
def rSortedIT (K : PySem.W.Frag) : List V → Hp → VK → Prop := fun vs H Q => ∃ (a : Addr) (ns : List Int), vs = [V.ref a] ∧ SqT K H a (ns.map V.int) ∧
  ∀ (ns' : List Int) (p : Addr), ns'.Perm ns → ns'.Pairwise (· ≤ ·) → H p = none → Q (.ref p) (upd H p (.lst (ns'.map V.int)))
theorem cr_sortedIT {X : Cx} : CallR X (.builtin "sorted") (rSortedIT X.K) := by
  intro pins s σ H vs us Q I r h
  obtain ⟨a, ns, rfl, hs, q⟩ := h
  obtain ⟨its, rv, hl, hz⟩ := I.tuple hs
  rw [Vals.ref1 r]
  have hi := rv.ints
  refine SrtO.sorted_ordT SrtO.swo_int hl (by rw [← rv.length]; exact hz) (fun h2 h₁ a' _ _ => SrtO.ints_sortable hi h2) fun out h1 h2 => ?_
  obtain ⟨k1, k2, k3⟩ := SrtO.ints_out hi h1 h2
  obtain ⟨ep, he'⟩ := PyProof.Rows.sortedAll_at s.heap its out.toArray
  have hlen : ((out.map SrtO.iv).map V.int).length ≤ sizeLine := by
    rw [List.length_map, k2.length_eq]
    rw [List.length_map] at hz
    exact hz
  exact ⟨.ref _, upd H (s.heap.objs.size + 1) (.lst ((out.map SrtO.iv).map V.int)), I.laid (t' := s.toks) (fun _ _ => PyProof.Rows.sortedAll_old) (Nat.le_succ _) ⟨hlen, out, ep, vals_of_ints k1, he'⟩, rfl, q _ _ k2 k3 (I.hok.fresh (Nat.le_succ _))⟩
end L2
namespace VE
open PySem PySem.Spec L2
def srtIO (rt : List O) : Option (List Int) → Ou W
  | some ns => .ok (.r rt.length) (rt ++ [.lst ((srtI ns).map D.int)])
  | none => .no
def bSortT (xs : List W) (rt : List O) : Ou W := match xs with
  | [x] => srtIO rt ((tpOf x).bind intsOf)
  | _ => .no
def ltTO (rt : List O) : Option (List Int) → Option (List Int) → Ou W
  | some ns, some ms => .ok (.d (.bl (HT.lexLt ns ms))) rt
  | _, _ => .no
def gLtT (x y : W) (rt : List O) : Ou W := ltTO rt ((tpOf x).bind intsOf) ((tpOf y).bind intsOf)
section
variable {X : Cx}
theorem cv_sortedT : CallV X (.builtin "sorted") bSortT := by
  refine ⟨_, cr_sortedIT, fun Wx B Hs ρ rt σ H Q xs us R d p => ?_⟩
  unfold bSortT at p
  split at p
  · rename_i x
    obtain ⟨v, rfl, d1⟩ := wds1 d
    cases e1 : tpOf x with
    | none => rw [e1] at p; exact p.elim
    | some ds =>
      rw [e1] at p
      simp only [Option.bind_some] at p
      cases e2 : intsOf ds with
      | none => rw [e2] at p; exact p.elim
      | some ns =>
        rw [e2] at p
        obtain ⟨a, vs, rfl, _, h1, h2⟩ := tpOf_ok R d1 e1
        rw [ints_ok h2 e2] at h1
        refine ⟨a, ns, rfl, h1, fun ns' q hp hs hq => ?_⟩
        have := sorted_uniq (hp.trans (srtI_perm ns).symm) hs (srtI_le ns)
        subst this
        exact new_list R (dens_ints _) p q hq
  · exact p.elim
theorem opv_ltT (hu : X.A.units < cLine) : OpV X (compareOp .Lt) gLtT := by
  refine ⟨_, op_ltT hu, fun Wx B Hs ρ rt σ H Q x y v u R d1 d2 p => ?_⟩
  unfold gLtT at p
  cases e1 : (tpOf x).bind intsOf with
  | none => rw [e1] at p; exact p.elim
  | some ns =>
    cases e2 : (tpOf y).bind intsOf with
    | none => rw [e1, e2] at p; exact p.elim
    | some ms =>
      rw [e1, e2] at p
      obtain ⟨ds, g1, g2⟩ := Option.bind_eq_some_iff.mp e1
      obtain ⟨es, g3, g4⟩ := Option.bind_eq_some_iff.mp e2
      obtain ⟨a, vs, rfl, _, h1, h2⟩ := tpOf_ok R d1 g1
      obtain ⟨b, us, rfl, _, h3, h4⟩ := tpOf_ok R d2 g3
      rw [ints_ok h2 g2] at h1
      rw [ints_ok h4 g4] at h3
      exact ⟨a, b, ns, ms, rfl, rfl, h1, h3, p _ Hs ρ H Ext.refl R (.bl _)⟩
end
theorem bSortT_1 {x : W} {rt : List O} : bSortT [x] rt = srtIO rt ((tpOf x).bind intsOf) := rfl
theorem srtIO_some {ns : List Int} {rt : List O} : srtIO rt (some ns) = .ok (.r rt.length) (rt ++ [.lst ((srtI ns).map D.int)]) := rfl
theorem gLtT_c {x y : W} {rt : List O} : gLtT x y rt = ltTO rt ((tpOf x).bind intsOf) ((tpOf y).bind intsOf) := rfl
theorem ltTO_some {ns ms : List Int} {rt : List O} : ltTO rt (some ns) (some ms) = .ok (.d (.bl (HT.lexLt ns ms))) rt := rfl
end VE

set_option maxRecDepth 100000
set_option maxHeartbeats 1000000
/-! x in t, t a tuple of plain data -/
namespace L2
open PySem PySem.Spec PyProof.Rows PySem.W
section
variable {X : Cx}
def rInTD (K : PySem.W.Frag) (f : Bool → Bool) : R2 := fun x y H Q => ∃ d ds, Dp K H x d ∧ Dp K H y (.tuple ds) ∧ PyData.plainAll ds = true ∧ d.plain = true ∧ d.depth ≤ 60 ∧ Q (.bl (f (ds.any fun z => PyData.eqv z d))) H
theorem op_inTD (hu : X.A.units + 64 < cLine) : OpR X (compareOp .In) (rInTD X.K id) := by
  intro pins s σ H x y v u Q I rx ry h
  obtain ⟨d, ds, hd, he, p1, p2, p3, q⟩ := h
  obtain ⟨as, r1⟩ := Dp.reads I d x v hd rx
  obtain ⟨bs, r2⟩ := Dp.reads I (.tuple ds) y u he ry
  exact SeqAt.in_tuple_data r2 r1 p1 p2 (by have := Nat.min_le_right (PyData.depthAll ds) d.depth; omega) ⟨.bl _, H, I, rfl, q⟩
theorem op_ninTD (hu : X.A.units + 64 < cLine) : OpR X (compareOp .NotIn) (rInTD X.K not) := by
  intro pins s σ H x y v u Q I rx ry h
  obtain ⟨d, ds, hd, he, p1, p2, p3, q⟩ := h
  obtain ⟨as, r1⟩ := Dp.reads I d x v hd rx
  obtain ⟨bs, r2⟩ := Dp.reads I (.tuple ds) y u he ry
  exact SeqAt.notIn_tuple_data r2 r1 p1 p2 (by have := Nat.min_le_right (PyData.depthAll ds) d.depth; omega) ⟨.bl _, H, I, rfl, q⟩
end
end L2
namespace VE
open PySem PySem.Spec L2 PySem.W
def inTD (ds : List D) (z : D) : Option Bool := match pyAll ds, pyOf z with
  | some ps, some p => if PyData.plainAll ps = true ∧ p.plain = true ∧ p.depth ≤ 60 then some (ps.any fun y => PyData.eqv y p) else none
  | _, _ => none
def inTO (rt : List O) (f : Bool → Bool) : Option Bool → Ou W
  | some b => .ok (.d (.bl (f b))) rt
  | none => .no
def gInT (x y : W) (rt : List O) : Ou W := inTO rt id ((tpOf y).bind fun ds => inTD ds (lkD x rt))
def gNinT (x y : W) (rt : List O) : Ou W := inTO rt not ((tpOf y).bind fun ds => inTD ds (lkD x rt))
section
variable {X : Cx}
theorem inT_ok {f : Bool → Bool} {K : PySem.W.Frag} {w : World} {B : Bnd} {Wx : WX} {Hs H : Hp} {ρ : List Addr} {rt : List O} {σ : L2.St} {x y : W} {v u : V} {Q : VK} (R : Rel K w B Hs ρ rt H) (d1 : WD K w Hs ρ v x) (d2 : WD K w Hs ρ u y)
    (p : PE1 K w B Wx Hs ρ σ (inTO rt f ((tpOf y).bind fun ds => inTD ds (lkD x rt))) Q) : rInTD K f v u H Q := by
  cases e1 : tpOf y with
  | none => rw [e1] at p; exact p.elim
  | some ds =>
    rw [e1] at p
    simp only [Option.bind_some] at p
    cases e2 : inTD ds (lkD x rt) with
    | none => rw [e2] at p; exact p.elim
    | some b =>
      rw [e2] at p
      obtain ⟨a, vs, rfl, _, h1, h2⟩ := tpOf_ok R d2 e1
      have lx := lk_ok R d1
      unfold inTD at e2
      cases e3 : pyAll ds with
      | none => simp only [e3] at e2; cases e2
      | some ps =>
        cases e4 : pyOf (lkD x rt) with
        | none => simp only [e3, e4] at e2; cases e2
        | some q =>
          simp only [e3, e4] at e2
          split at e2
          · rename_i hc
            cases e2
            exact ⟨q, ps, dp_of lx e4, .tup h1 (dps_of (h2.mono R.same) e3), hc.1, hc.2.1, hc.2.2, p _ Hs ρ H Ext.refl R (.bl _)⟩
          · cases e2
theorem opv_inT (hu : X.A.units + 64 < cLine) : OpV X (compareOp .In) gInT := ⟨_, op_inTD hu, fun Wx B Hs ρ rt σ H Q x y v u R d1 d2 p => inT_ok R d1 d2 p⟩
theorem opv_ninT (hu : X.A.units + 64 < cLine) : OpV X (compareOp .NotIn) gNinT := ⟨_, op_ninTD hu, fun Wx B Hs ρ rt σ H Q x y v u R d1 d2 p => inT_ok R d1 d2 p⟩
end
theorem gInT_c {x y : W} {rt : List O} : gInT x y rt = inTO rt id ((tpOf y).bind fun ds => inTD ds (lkD x rt)) := rfl
theorem gNinT_c {x y : W} {rt : List O} : gNinT x y rt = inTO rt not ((tpOf y).bind fun ds => inTD ds (lkD x rt)) := rfl
theorem inTO_some {f : Bool → Bool} {b : Bool} {rt : List O} : inTO rt f (some b) = .ok (.d (.bl (f b))) rt := rfl
end VE

set_option maxRecDepth 100000
set_option maxHeartbeats 1000000
/-! lending: a call that reads what stays live -/
namespace VE
open PySem PySem.Spec L2

mutual
/-- nothing in it can change -/
def immD : D → Bool
  | .tup xs => immDs xs
  | .ktup xs => immDs xs
  | .lst _ => false
  | .fz _ => false
  | .dk _ => false
  | .dt _ => false
  | .obj _ _ => false
  | .non => true
  | .bl _ => true
  | .int _ => true
  | .str _ => true
  | .ref _ => true
  | .ty _ => true
def immDs : List D → Bool
  | [] => true
  | x :: xs => immD x && immDs xs
end
def immDA {κ : Type} : List (κ × D) → Bool
  | [] => true
  | p :: xs => immD p.2 && immDA xs
mutual
/-- no plain thing in it can change -/
def immO : O → Bool
  | .d x => immD x
  | .lst xs => immDs xs
  | .dk xs => immDA xs
  | .dt xs => immDA xs
  | .ins _ fs => immOF fs
  | .nst xs => immOs xs
  | .ndk xs => immOK xs
  | .ndt xs => immOT xs
  | .vw _ _ => false
def immOs : List O → Bool
  | [] => true
  | x :: xs => immO x && immOs xs
def immOF : List (Str × O) → Bool
  | [] => true
  | (_, x) :: xs => immO x && immOF xs
def immOK : List (Key × O) → Bool
  | [] => true
  | (_, x) :: xs => immO x && immOK xs
def immOT : List (List Key × O) → Bool
  | [] => true
  | (_, x) :: xs => immO x && immOT xs
end

section
variable {K : PySem.W.Frag} {w : World} {Hs Hs' H : Hp}
/-- the objects of what is owned are lists, dicts, instances -/
def fpk (o : HO) : Prop := (∀ vs, o ≠ .tup vs) ∧ ∀ ob z, o ≠ .frz ob z
mutual
theorem Own.kind : ∀ {v : V} {o : O} {A : List Addr}, Own K w Hs H v o A → ∀ a ∈ A, ∃ u, H a = some u ∧ fpk u
  | _, _, _, .d _, _, ha => by cases ha
  | _, _, _, .lst h _, _, ha => by rw [List.mem_singleton.mp ha]; exact ⟨_, h, (fun _ z => nomatch z), fun _ _ z => nomatch z⟩
  | _, _, _, .dk h _, _, ha => by rw [List.mem_singleton.mp ha]; exact ⟨_, h, (fun _ z => nomatch z), fun _ _ z => nomatch z⟩
  | _, _, _, .dt h _, _, ha => by rw [List.mem_singleton.mp ha]; exact ⟨_, h, (fun _ z => nomatch z), fun _ _ z => nomatch z⟩
  | _, _, _, .ins h1 h2 r, _, ha => by
    rcases List.mem_cons.mp ha with e | ha
    · rw [e]; exact ⟨_, h1, (fun _ z => nomatch z), fun _ _ z => nomatch z⟩
    rcases List.mem_cons.mp ha with e | ha
    · rw [e]; exact ⟨_, h2, (fun _ z => nomatch z), fun _ _ z => nomatch z⟩
    exact r.kind _ ha
  | _, _, _, .nst h r, _, ha => by
    rcases List.mem_cons.mp ha with e | ha
    · rw [e]; exact ⟨_, h, (fun _ z => nomatch z), fun _ _ z => nomatch z⟩
    exact r.kind _ ha
  | _, _, _, .ndk h r, _, ha => by
    rcases List.mem_cons.mp ha with e | ha
    · rw [e]; exact ⟨_, h, (fun _ z => nomatch z), fun _ _ z => nomatch z⟩
    exact r.kind _ ha
  | _, _, _, .ndt h r, _, ha => by
    rcases List.mem_cons.mp ha with e | ha
    · rw [e]; exact ⟨_, h, (fun _ z => nomatch z), fun _ _ z => nomatch z⟩
    exact r.kind _ ha
theorem Owns.kind : ∀ {v : List V} {o : List O} {A : List Addr}, Owns K w Hs H v o A → ∀ a ∈ A, ∃ u, H a = some u ∧ fpk u
  | _, _, _, .nil, _, ha => by cases ha
  | _, _, _, .cons h r, _, ha => (List.mem_append.mp ha).elim (h.kind _) (r.kind _)
theorem OwnA.kind : ∀ {κ : Type} {v : List (κ × V)} {o : List (κ × O)} {A : List Addr}, OwnA K w Hs H v o A → ∀ a ∈ A, ∃ u, H a = some u ∧ fpk u
  | _, _, _, _, .nil, _, ha => by cases ha
  | _, _, _, _, .cons h r, _, ha => (List.mem_append.mp ha).elim (h.kind _) (r.kind _)
end
/-- the tuples of the one stand in the other -/
def Tups (Hs Hs' : Hp) : Prop := (∀ a vs, Hs a = some (.tup vs) → Hs' a = some (.tup vs)) ∧ ∀ a ob z, Hs a = some (.frz ob z) → Hs' a = some (.frz ob z)
theorem NdT.thin {a : Addr} {vs : List V} (s : Tups Hs Hs') (h : NdT K Hs a vs) : NdT K Hs' a vs := by
  rcases h with ⟨ob, h, h2⟩ | h
  · exact .inl ⟨ob, s.2 _ _ _ h, h2⟩
  · exact .inr h
mutual
theorem Den.thin (s : Tups Hs Hs') : ∀ {v : V} {x : D}, Den K w Hs v x → immD x = true → Den K w Hs' v x
  | _, _, .non, _ => .non
  | _, _, .bl b, _ => .bl b
  | _, _, .int i, _ => .int i
  | _, _, .str x, _ => .str x
  | _, _, .tup h r, e => .tup (s.1 _ _ h) (r.thin s (by simpa [immD] using e))
  | _, _, .ktup h r, e => .ktup (NdT.thin s h) (r.thin s (by simpa [immD] using e))
  | _, _, .lst h r, e => by simp [immD] at e
  | _, _, .fz h r, e => by simp [immD] at e
  | _, _, .dk h r, e => by simp [immD] at e
  | _, _, .wd h r, e => by simp [immD] at e
  | _, _, .dt h r, e => by simp [immD] at e
  | _, _, .obj h1 h2 r, e => by simp [immD] at e
  | _, _, .ref a, _ => .ref a
  | _, _, .ty n, _ => .ty n
theorem Dens.thin (s : Tups Hs Hs') : ∀ {vs : List V} {xs : List D}, Dens K w Hs vs xs → immDs xs = true → Dens K w Hs' vs xs
  | _, _, .nil, _ => .nil
  | _, _, .cons h r, e => by
    have e := Bool.and_eq_true_iff.mp (by simpa [immDs] using e)
    exact .cons (h.thin s e.1) (r.thin s e.2)
end
theorem DenA.thin (s : Tups Hs Hs') : ∀ {κ : Type} {vs : List (κ × V)} {xs : List (κ × D)}, DenA K w Hs vs xs → immDA xs = true → DenA K w Hs' vs xs
  | _, _, _, .nil, _ => .nil
  | _, _, _, .cons h r, e => by
    have e := Bool.and_eq_true_iff.mp (by simpa [immDA] using e)
    exact .cons (h.thin s e.1) (r.thin s e.2)
mutual
theorem Own.thin (s : Tups Hs Hs') : ∀ {v : V} {o : O} {A : List Addr}, Own K w Hs H v o A → immO o = true → Own K w Hs' H v o A
  | _, _, _, .d h, e => .d (h.thin s (by simpa [immO] using e))
  | _, _, _, .lst h r, e => .lst h (r.thin s (by simpa [immO] using e))
  | _, _, _, .dk h r, e => .dk h (r.thin s (by simpa [immO] using e))
  | _, _, _, .dt h r, e => .dt h (r.thin s (by simpa [immO] using e))
  | _, _, _, .ins h1 h2 r, e => .ins h1 h2 (r.thin s immOF (fun k x xs => by rw [immOF]) (by simpa [immO] using e))
  | _, _, _, .nst h r, e => .nst h (r.thin s (by simpa [immO] using e))
  | _, _, _, .ndk h r, e => .ndk h (r.thin s immOK (fun k x xs => by rw [immOK]) (by simpa [immO] using e))
  | _, _, _, .ndt h r, e => .ndt h (r.thin s immOT (fun k x xs => by rw [immOT]) (by simpa [immO] using e))
theorem Owns.thin (s : Tups Hs Hs') : ∀ {v : List V} {o : List O} {A : List Addr}, Owns K w Hs H v o A → immOs o = true → Owns K w Hs' H v o A
  | _, _, _, .nil, _ => .nil
  | _, _, _, .cons h r, e => by
    have e := Bool.and_eq_true_iff.mp (by simpa [immOs] using e)
    exact .cons (h.thin s e.1) (r.thin s e.2)
theorem OwnA.thin (s : Tups Hs Hs') : ∀ {κ : Type} {v : List (κ × V)} {o : List (κ × O)} {A : List Addr}, OwnA K w Hs H v o A → ∀ (f : List (κ × O) → Bool), (∀ k x xs, f ((k, x) :: xs) = (immO x && f xs)) → f o = true → OwnA K w Hs' H v o A
  | _, _, _, _, .nil, _, _, _ => .nil
  | _, _, _, _, .cons h r, f, f1, e => by
    rw [f1] at e
    have e := Bool.and_eq_true_iff.mp e
    exact .cons (h.thin s e.1) (r.thin s f f1 e.2)
end
end

/-- what is not lent, told as it stands -/
def hideR (js : List Nat) (ρ : List Addr) (rt : List O) : List O := rt.mapIdx fun i o => if i ∈ js then o else .d (.ref (ρ.getD i 0))
theorem hide_len {js : List Nat} {ρ : List Addr} {rt : List O} : (hideR js ρ rt).length = rt.length := by simp [hideR]
theorem hide_in {js : List Nat} {ρ : List Addr} {rt : List O} {i : Nat} (h : i ∈ js) : (hideR js ρ rt)[i]? = rt[i]? := by
  unfold hideR
  rw [List.getElem?_mapIdx]
  cases rt[i]? with
  | none => rfl
  | some o => simp [h]
theorem hide_out {js : List Nat} {ρ : List Addr} {rt : List O} {i : Nat} {o : O} (h : i ∉ js) (e : (hideR js ρ rt)[i]? = some o) : ∃ a, o = .d (.ref a) ∧ (i < ρ.length → ρ[i]? = some a) := by
  unfold hideR at e
  rw [List.getElem?_mapIdx] at e
  cases hr : rt[i]? with
  | none => rw [hr] at e; cases e
  | some y =>
    rw [hr] at e
    simp [h] at e
    refine ⟨_, e.symm, fun hl => ?_⟩
    simp [List.getD_eq_getElem?_getD, hl]
theorem hide_pk {js : List Nat} {ρ : List Addr} {rt : List O} {d : O} : pk js (hideR js ρ rt) d = pk js rt d := by
  unfold pk
  refine List.map_congr_left fun j hj => ?_
  rw [List.getD_eq_getElem?_getD, List.getD_eq_getElem?_getD, hide_in hj]

section
variable {K : PySem.W.Frag} {w : World} {B : Bnd} {Hs Hs' H H' : Hp} {ρ : List Addr} {rt : List O}
open Classical in
theorem Rel.borrow (R : Rel K w B Hs ρ rt H) {js : List Nat} (hn : js.Nodup) (hr : ∀ j ∈ js, j < rt.length) (hv : ∀ j ∈ js, ∀ n p, rt[j]? ≠ some (O.vw n p)) (hj0 : ∀ (k n : Nat) (p : List Sel), rt[k]? = some (O.vw n p) → n ∉ js) :
    ∃ M Hs2, Same Hs Hs2 ∧ (∀ k v o, WD K w Hs ρ v (.r k) → rd rt k = some o → o.isVw = false → (locR rt k).1 ∉ js → Den K w Hs2 v o.toD) ∧ Rel K w ⟨H, Hs2, M⟩ Hs2 (pk js ρ 0) (pk js rt (.d .non)) H ∧
      ∀ Hs' t rs H', (∀ o ∈ rs, o.isVw = false) → (∀ o ∈ rs, immO o = true) → Same Hs2 Hs' → Rel K w ⟨H, Hs2, M⟩ Hs' (pk js ρ 0 ++ t) rs H' →
        ∃ Hs1, Same Hs Hs1 ∧ Tups Hs' Hs1 ∧ Rel K w B Hs1 (ρ ++ t) (put js rs rt ++ rs.drop js.length) H' := by
  obtain ⟨F, hF⟩ := id R.own
  let Lo : Addr → Prop := fun b => ∃ i, i < rt.length ∧ i ∉ js ∧ b ∈ F i
  let Hs2 : Hp := fun b => if Lo b then H b else Hs b
  let Mj := (js.map F).flatten
  have mM : ∀ b, b ∈ Mj ↔ ∃ j ∈ js, b ∈ F j := fun b => by
    show b ∈ (js.map F).flatten ↔ _
    rw [List.mem_flatten]
    exact ⟨fun ⟨l, h1, h2⟩ => let ⟨j, hj, e⟩ := List.mem_map.mp h1; ⟨j, hj, by rw [e]; exact h2⟩, fun ⟨j, hj, hb⟩ => ⟨F j, List.mem_map_of_mem hj, hb⟩⟩
  have loF : ∀ b, Lo b → Hs b = none ∧ (b ∈ B.M ∨ B.H0 b = none) ∧ ∃ u, H b = some u ∧ fpk u := fun b ⟨i, hi, _, hb⟩ => by
    obtain ⟨a, e1, h1, h2, h3, h4⟩ := hF i rt[i] (by simp [hi])
    refine ⟨(h3 b hb).1, (h3 b hb).2, ?_⟩
    cases hx : rt[i].isVw with
    | false => exact (h1.own hx).kind b hb
    | true =>
      exfalso
      cases ho : rt[i] <;> first | (rw [ho] at hx; cases hx; done) | skip
      rw [ho] at h1
      have : F i = [] := h1
      rw [this] at hb
      cases hb
  have mjF : ∀ b, b ∈ Mj → Hs b = none ∧ (b ∈ B.M ∨ B.H0 b = none) ∧ ¬ Lo b ∧ H b ≠ none := fun b hb => by
    obtain ⟨j, hj, hb⟩ := (mM b).mp hb
    obtain ⟨a, e1, h1, h2, h3, h4⟩ := hF j (rt[j]'(hr j hj)) (by simp [hr j hj])
    refine ⟨(h3 b hb).1, (h3 b hb).2, fun ⟨i, hi, hij, hb2⟩ => ?_, h1.there b hb⟩
    exact h4 i hi (fun z => hij (by rw [z]; exact hj)) b hb hb2
  have s2 : Same Hs Hs2 := fun b u e => by
    show (if Lo b then H b else Hs b) = some u
    by_cases h : Lo b
    · rw [(loF b h).1] at e; cases e
    · rw [if_neg h]; exact e
  have s2H : Same Hs2 H := fun b u e => by
    have e : (if Lo b then H b else Hs b) = some u := e
    by_cases h : Lo b
    · rw [if_pos h] at e; exact e
    · rw [if_neg h] at e; exact R.same _ _ e
  have dn : ∀ k v o, WD K w Hs ρ v (.r k) → rd rt k = some o → o.isVw = false → (locR rt k).1 ∉ js → Den K w Hs2 v o.toD := fun k v o d e hx hl => by
    obtain ⟨a, n, p, b, o', rfl, h1, h2, h3, h4, h5, _, h7⟩ := R.loc d e hx
    rw [h7] at hl
    have hnl := (List.getElem?_eq_some_iff.mp h2).1
    obtain ⟨b', eb, g1, g2, g3, g4⟩ := hF n o' h2
    rw [h1] at eb; cases eb
    obtain ⟨x, L, C, Q, q1, q2, q3, _⟩ := own_at (g1.own h3) h4
    rw [h5] at q1; cases q1
    exact q3.den s2 fun c hc => if_pos ⟨n, hnl, hl, by rw [q2]; simp [hc]⟩
  -- the lent roots alone
  have Rb : Rel K w ⟨H, Hs2, Mj⟩ Hs2 ρ (hideR js ρ rt) H := by
    refine ⟨s2H, by rw [hide_len]; exact R.len, ⟨fun i => if i ∈ js then F i else [], fun i o e => ?_⟩, fun b u e => .inr e, fun b e => e, fun b e => .inl e, fun k n p e => ?_⟩
    · by_cases hi : i ∈ js
      · rw [hide_in hi] at e
        obtain ⟨a, e1, h1, h2, h3, h4⟩ := hF i o e
        simp only [hi, if_true]
        refine ⟨a, e1, h1.mono s2 fun _ _ => rfl, h2, fun b hb => ?_, fun j hj hji b hb => ?_⟩
        · have hm : b ∈ Mj := (mM b).mpr ⟨i, hi, hb⟩
          refine ⟨?_, .inl hm⟩
          show (if Lo b then H b else Hs b) = none
          rw [if_neg (mjF b hm).2.2.1]
          exact (h3 b hb).1
        · by_cases hj2 : j ∈ js
          · simp only [hj2, if_true]
            exact h4 j (by rw [hide_len] at hj; exact hj) hji b hb
          · simp [hj2]
      · have hil : i < rt.length := by
          have := (List.getElem?_eq_some_iff.mp e).1
          rw [hide_len] at this
          exact this
        obtain ⟨a, rfl, ha⟩ := hide_out hi e
        simp only [hi, if_false]
        exact ⟨a, ha (by rw [R.len]; exact hil), .of (.d (.ref a)), by simp, (fun _ hb => by cases hb), fun _ _ _ _ hb => by cases hb⟩
    · exfalso
      by_cases hi : k ∈ js
      · rw [hide_in hi] at e
        exact hv k hi n p e
      · obtain ⟨a, z, _⟩ := hide_out hi e
        cases z
  obtain ⟨M', R1, lv⟩ := Rb.enter hn (by rw [hide_len]; exact hr) (fun j hj n p => by rw [hide_in hj]; exact hv j hj n p) (fun k n p e => by
    exfalso
    by_cases hi : k ∈ js
    · rw [hide_in hi] at e
      exact hv k hi n p e
    · obtain ⟨a, z, _⟩ := hide_out hi e
      cases z)
  rw [hide_pk] at R1
  refine ⟨M', Hs2, s2, dn, R1, fun Hs' t rs H' hrs him ss R2 => ?_⟩
  have R' := lv Hs' t rs H' hrs ss R2
  have hlen : rs.length = js.length + t.length := by
    have := R2.len
    rw [List.length_append, pk_length] at this
    omega
  obtain ⟨F', hF'⟩ := id R'.own
  let Hs1 : Hp := fun b => if Lo b then none else Hs' b
  have e1 : ∀ b, ¬ Lo b → Hs1 b = Hs' b := fun b h => if_neg h
  have e0 : ∀ b, Lo b → Hs1 b = none := fun b h => if_pos h
  have loS : ∀ b, Lo b → ∃ u, Hs' b = some u ∧ fpk u := fun b h => by
    obtain ⟨_, _, u, hu, fk⟩ := loF b h
    refine ⟨u, ss b u ?_, fk⟩
    show (if Lo b then H b else Hs b) = some u
    rw [if_pos h]; exact hu
  have tp : Tups Hs' Hs1 := by
    refine ⟨fun a vs h => ?_, fun a ob z h => ?_⟩
    · by_cases hl : Lo a
      · obtain ⟨u, hu, fk⟩ := loS a hl
        rw [h] at hu; cases hu
        exact (fk.1 vs rfl).elim
      · rw [e1 a hl]; exact h
    · by_cases hl : Lo a
      · obtain ⟨u, hu, fk⟩ := loS a hl
        rw [h] at hu; cases hu
        exact (fk.2 _ _ rfl).elim
      · rw [e1 a hl]; exact h
  have s1 : Same Hs Hs1 := fun b u e => by
    by_cases h : Lo b
    · rw [(loF b h).1] at e; cases e
    · rw [e1 b h]; exact ss b u (s2 b u e)
  -- what is not lent stays
  have keep : ∀ i, i < rt.length → i ∉ js → ∀ b ∈ F i, H' b = H b := fun i hi hij b hb => by
    obtain ⟨_, _, u, hu, _⟩ := loF b ⟨i, hi, hij, hb⟩
    rcases R'.frame b u hu with z | z
    · exact ((mjF b z).2.2.1 ⟨i, hi, hij, hb⟩).elim
    · rw [hu]; exact z
  have lenN : ∀ r : List O, (put js rs r ++ rs.drop js.length).length = r.length + t.length := fun r => by
    rw [List.length_append, put_length, List.length_drop]; omega
  -- the two lists of roots
  have same1 : ∀ i, ¬ (i < rt.length ∧ i ∉ js) → (put js rs rt ++ rs.drop js.length)[i]? = (put js rs (hideR js ρ rt) ++ rs.drop js.length)[i]? := fun i hi => by
    by_cases hl : i < rt.length
    · have hij : i ∈ js := Classical.byContradiction fun z => hi ⟨hl, z⟩
      obtain ⟨k, hk⟩ := List.mem_iff_getElem?.mp hij
      have hkl := (List.getElem?_eq_some_iff.mp hk).1
      rw [List.getElem?_append_left (by rw [put_length]; exact hl), List.getElem?_append_left (by rw [put_length, hide_len]; exact hl), put_at hn hk hl (by omega), put_at hn hk (by rw [hide_len]; exact hl) (by omega)]
    · rw [List.getElem?_append_right (by rw [put_length]; omega), List.getElem?_append_right (by rw [put_length, hide_len]; omega), put_length, put_length, hide_len]
  have same2 : ∀ i, i < rt.length → i ∉ js → (put js rs rt ++ rs.drop js.length)[i]? = rt[i]? := fun i hl hij => by
    rw [List.getElem?_append_left (by rw [put_length]; exact hl), put_out hij]
  have memN : ∀ i o, ¬ (i < rt.length ∧ i ∉ js) → (put js rs rt ++ rs.drop js.length)[i]? = some o → o ∈ rs := fun i o hi e => by
    by_cases hl : i < rt.length
    · have hij : i ∈ js := Classical.byContradiction fun z => hi ⟨hl, z⟩
      obtain ⟨k, hk⟩ := List.mem_iff_getElem?.mp hij
      have hkl := (List.getElem?_eq_some_iff.mp hk).1
      rw [List.getElem?_append_left (by rw [put_length]; exact hl), put_at hn hk hl (by omega)] at e
      exact List.mem_of_getElem? e
    · rw [List.getElem?_append_right (by rw [put_length]; omega), put_length, List.getElem?_drop] at e
      exact List.mem_of_getElem? e
  have newF : ∀ i o, ¬ (i < rt.length ∧ i ∉ js) → (put js rs rt ++ rs.drop js.length)[i]? = some o → ∀ b ∈ F' i, ¬ Lo b ∧ Hs' b = none ∧ (b ∈ B.M ∨ B.H0 b = none) := fun i o hi e b hb => by
    rw [same1 i hi] at e
    obtain ⟨a, q1, h1, h2, h3, h4⟩ := hF' i o e
    rcases (h3 b hb).2 with z | z
    · exact ⟨(mjF b z).2.2.1, (h3 b hb).1, (mjF b z).2.1⟩
    · refine ⟨fun hl => ?_, (h3 b hb).1, .inr (R.fresh z).2⟩
      obtain ⟨_, _, u, hu, _⟩ := loF b hl
      exact nomatch z.symm.trans hu
  let G : Nat → List Addr := fun i => if i < rt.length ∧ i ∉ js then F i else F' i
  have G1 : ∀ i, (i < rt.length ∧ i ∉ js) → G i = F i := fun i h => if_pos h
  have G2 : ∀ i, ¬ (i < rt.length ∧ i ∉ js) → G i = F' i := fun i h => if_neg h
  refine ⟨Hs1, s1, tp, ⟨fun b u e => ?_, by rw [lenN, List.length_append, R.len], ⟨G, fun i o e => ?_⟩, fun b o e => ?_, fun b e => R'.there b (R.there b e), fun b e => ?_, fun k n p e => ?_⟩⟩
  · by_cases h : Lo b
    · rw [e0 b h] at e; cases e
    · rw [e1 b h] at e; exact R'.same _ _ e
  · have hiN : i < rt.length + t.length := by rw [← lenN rt]; exact (List.getElem?_eq_some_iff.mp e).1
    by_cases hi : i < rt.length ∧ i ∉ js
    · rw [G1 i hi]
      rw [same2 i hi.1 hi.2] at e
      obtain ⟨a, q1, h1, h2, h3, h4⟩ := hF i o e
      refine ⟨a, by rw [List.getElem?_append_left (by rw [R.len]; exact hi.1)]; exact q1, h1.mono s1 (keep i hi.1 hi.2), h2, fun b hb => ⟨e0 b ⟨i, hi.1, hi.2, hb⟩, (h3 b hb).2⟩, fun j hj hji b hb hbj => ?_⟩
      by_cases hj2 : j < rt.length ∧ j ∉ js
      · rw [G1 j hj2] at hbj
        exact h4 j hj2.1 hji b hb hbj
      · rw [G2 j hj2] at hbj
        rw [lenN] at hj
        obtain ⟨oj, hoj⟩ : ∃ oj, (put js rs rt ++ rs.drop js.length)[j]? = some oj := ⟨_, List.getElem?_eq_getElem (by rw [lenN]; exact hj)⟩
        exact (newF j oj hj2 hoj b hbj).1 ⟨i, hi.1, hi.2, hb⟩
    · rw [G2 i hi]
      have nf := newF i o hi e
      have hm := memN i o hi e
      rw [same1 i hi] at e
      obtain ⟨a, q1, h1, h2, h3, h4⟩ := hF' i o e
      refine ⟨a, q1, .of (Own.thin tp (h1.own (hrs o hm)) (him o hm)), h2, fun b hb => ⟨(e1 b (nf b hb).1).trans (nf b hb).2.1, (nf b hb).2.2⟩, fun j hj hji b hb hbj => ?_⟩
      by_cases hj2 : j < rt.length ∧ j ∉ js
      · rw [G1 j hj2] at hbj
        exact (nf b hb).1 ⟨j, hj2.1, hj2.2, hbj⟩
      · rw [G2 j hj2] at hbj
        exact h4 j (by rw [lenN, hide_len]; rw [lenN] at hj; exact hj) hji b hb hbj
  · rcases R.frame b o e with z | z
    · exact .inl z
    · rcases R'.frame b o z with y | y
      · rcases (mjF b y).2.1 with x | x
        · exact .inl x
        · rw [x] at e; cases e
      · exact .inr y
  · by_cases h : Lo b
    · rw [e0 b h] at e; exact (e rfl).elim
    · rw [e1 b h] at e
      rcases R'.pers b e with z | z | z
      · refine R.pers b ?_
        have : Hs2 b = Hs b := if_neg h
        rw [← this]; exact z
      · exact .inr (.inl (R.fresh z).2)
      · exact .inr ((mjF b z).2.1.symm)
  · by_cases hi : k < rt.length ∧ k ∉ js
    · rw [same2 k hi.1 hi.2] at e
      obtain ⟨a, b, o, h1, h2, h3, h5, h4⟩ := R.lk k n p e
      have hnj := hj0 k n p e
      have hnl := (List.getElem?_eq_some_iff.mp h3).1
      obtain ⟨a2, eb, g1, g2, g3, g4⟩ := hF n o h3
      rw [h2] at eb; cases eb
      exact ⟨a, b, o, by rw [List.getElem?_append_left (by rw [R.len]; exact hi.1)]; exact h1, by rw [List.getElem?_append_left (by rw [R.len]; exact hnl)]; exact h2,
        by rw [same2 n hnl hnj]; exact h3, h5, g1.link (keep n hnl hnj) h4⟩
    · have := hrs _ (memN k _ hi e)
      cases this
end
end VE

set_option maxRecDepth 100000
set_option maxHeartbeats 1000000
/-! calls that read what stays live -/
namespace VE
open PySem PySem.Spec L2

/-- the roots that a call may change -/
def lroots : List Bool → List W → List Nat
  | true :: fl, .r n :: ws => n :: lroots fl ws
  | _ :: fl, _ :: ws => lroots fl ws
  | _, _ => []
def lendO (js : List Nat) (l : Nat) : Option O → Option W
  | some o => if (!o.isVw && !js.contains l) = true then some (.d o.toD) else none
  | none => none
def lend1 (js : List Nat) (rt : List O) : Bool → W → Option W
  | _, .d x => some (.d x)
  | true, .r n => some (.r (ixOf n js))
  | false, .r n => lendO js (locR rt n).1 (rd rt n)
def consO : Option W → Option (List W) → Option (List W)
  | some x, some xs => some (x :: xs)
  | _, _ => none
def lendW (js : List Nat) (rt : List O) : List Bool → List W → Option (List W)
  | [], [] => some []
  | b :: fl, w :: ws => consO (lend1 js rt b w) (lendW js rt fl ws)
  | _, _ => none
def immR (rs : List O) : Bool := rs.all immO
def immW : W → Bool
  | .d x => immD x
  | .r _ => true
def bckR (js : List Nat) (rt : List O) (o : Ou W) : Ou W := match o with
  | .ok x rs => if (allNv rs && (immR rs && immW x)) = true then .ok (back js rt.length x) (put js rs rt ++ rs.drop js.length) else .no
  | _ => .no
def lendF (js : List Nat) (rt : List O) (f : FM) : Option (List W) → Ou W
  | some ws => if okRoots js rt = true then bckR js rt (f ws (pk js rt (.d .non))) else .no
  | none => .no
def callLn (fl : List Bool) (f : FM) (ws : List W) (rt : List O) : Ou W := lendF (lroots fl ws) rt f (lendW (lroots fl ws) rt fl ws)

theorem lroots_mem : ∀ {fl : List Bool} {ws : List W} {i n : Nat}, fl[i]? = some true → ws[i]? = some (W.r n) → n ∈ lroots fl ws
  | [], _, _, _, h, _ => by simp at h
  | _ :: _, [], _, _, _, h => by simp at h
  | true :: fl, .r m :: ws, 0, n, _, h => by simp at h; subst h; exact List.mem_cons_self
  | true :: fl, .r m :: ws, i + 1, n, h1, h2 => by
    rw [lroots]; exact List.mem_cons_of_mem _ (lroots_mem (i := i) (by simpa using h1) (by simpa using h2))
  | true :: fl, .d x :: ws, 0, n, _, h => by simp at h
  | true :: fl, .d x :: ws, i + 1, n, h1, h2 => by
    rw [lroots]
    · exact lroots_mem (i := i) (by simpa using h1) (by simpa using h2)
    all_goals (intros; simp_all)
  | false :: fl, w :: ws, 0, n, h, _ => by simp at h
  | false :: fl, w :: ws, i + 1, n, h1, h2 => by
    rw [lroots]
    · exact lroots_mem (i := i) (by simpa using h1) (by simpa using h2)
    all_goals (intros; simp_all)
section
variable {K : PySem.W.Frag} {w : World} {B : Bnd} {Wx : WX} {Hs H : Hp} {ρ : List Addr} {rt : List O} {σ : L2.St}
theorem lendW_ok {Hs2 : Hp} {js : List Nat} (s2 : Same Hs Hs2) (dn : ∀ k v o, WD K w Hs ρ v (.r k) → rd rt k = some o → o.isVw = false → (locR rt k).1 ∉ js → Den K w Hs2 v o.toD) :
    ∀ {fl : List Bool} {vs : List V} {ws xs : List W}, WDs K w Hs ρ vs ws → (∀ (i n : Nat), fl[i]? = some true → ws[i]? = some (W.r n) → n ∈ js) → lendW js rt fl ws = some xs → WDs K w Hs2 (pk js ρ 0) vs xs
  | [], _, _, _, .nil, _, e => by
    simp [lendW] at e; subst e; exact .nil
  | _ :: _, _, _, _, .nil, _, e => by simp [lendW] at e
  | [], _, _, _, .cons _ _, _, e => by simp [lendW] at e
  | b :: fl, _, _, xs, .cons (v := v) (x := x) h t, hm, e => by
    rw [lendW] at e
    cases h1 : lend1 js rt b x with
    | none => rw [h1] at e; cases e
    | some y =>
      cases h2 : lendW js rt fl _ with
      | none => rw [h1, h2] at e; cases e
      | some ys =>
        rw [h1, h2] at e
        cases e
        refine .cons ?_ (lendW_ok s2 dn t (fun i n q1 q2 => hm (i + 1) n (by simpa using q1) (by simpa using q2)) h2)
        cases x with
        | d x =>
          cases b <;> (simp [lend1] at h1; subst h1; exact Den.mono s2 (show Den K w Hs v x from h))
        | r n =>
          cases b with
          | true =>
            simp [lend1] at h1
            subst h1
            obtain ⟨a, ha, rfl⟩ := h
            exact ⟨a, pk_get (ixOf_at (hm 0 n rfl rfl)) ha, rfl⟩
          | false =>
            rw [lend1] at h1
            cases h3 : rd rt n with
            | none => rw [h3] at h1; cases h1
            | some o =>
              rw [h3] at h1
              rw [lendO] at h1
              split at h1
              · rename_i hc
                have hc := Bool.and_eq_true_iff.mp hc
                cases h1
                exact dn n v o h h3 (by simpa using hc.1) (by simpa using hc.2)
              · cases h1
/-- a lending call's reading -/
theorem callLn_ok {np : Nat} {m : FM} {fl : List Bool} {vs : List V} {ws : List W} {Q : VK} {E : XK} (R : Rel K w B Hs ρ rt H) (d : WDs K w Hs ρ vs ws) (hl : ws.length = np)
    (p : PE1 K w B Wx Hs ρ σ (callLn fl m ws rt) Q) : spV K w m np vs H Q E := by
  unfold callLn at p
  cases hw : lendW (lroots fl ws) rt fl ws with
  | none => rw [hw] at p; exact p.elim
  | some xs =>
  rw [hw] at p
  rw [lendF] at p
  by_cases hok : okRoots (lroots fl ws) rt = true
  · rw [if_pos hok] at p
    have h1 := Bool.and_eq_true_iff.mp hok
    have h2 := Bool.and_eq_true_iff.mp h1.2
    have h3 := Bool.and_eq_true_iff.mp h2.2
    have hn : (lroots fl ws).Nodup := of_decide_eq_true h1.1
    have hr : ∀ j ∈ lroots fl ws, j < rt.length := fun j hj => of_decide_eq_true (List.all_eq_true.mp h2.1 j hj)
    have hv : ∀ j ∈ lroots fl ws, ∀ n p, rt[j]? ≠ some (O.vw n p) := fun j hj n p e => by
      have := List.all_eq_true.mp h3.1 j hj
      unfold nvAt at this
      rw [e] at this
      cases this
    have hj0 : ∀ (k n : Nat) (p : List Sel), rt[k]? = some (O.vw n p) → n ∉ lroots fl ws := fun k n p e hm => by
      have := List.all_eq_true.mp h3.2 _ (List.mem_of_getElem? e)
      simp [offO, hm] at this
    obtain ⟨M, Hs2, s2, dn, R1, lv⟩ := R.borrow hn hr hv hj0
    refine ⟨d.length.trans hl, M, Hs2, _, _, _, R1, lendW_ok s2 dn d (fun i n q1 q2 => lroots_mem q1 q2) hw, ?_⟩
    cases hm : m xs (pk (lroots fl ws) rt (.d .non)) with
    | no => rw [hm] at p; exact p.elim
    | ex c fs rs => rw [hm] at p; exact p.elim
    | ok x rs =>
      rw [hm] at p
      simp only [bckR] at p
      split at p
      · rename_i hc
        have hc := Bool.and_eq_true_iff.mp hc
        have hi := Bool.and_eq_true_iff.mp hc.2
        intro v Hs' ρ' H' e2 R2 d2
        obtain ⟨ss, t, rfl⟩ := e2
        obtain ⟨Hs1, s1, tp, R3⟩ := lv Hs' t rs H' (nv_of hc.1) (fun o ho => List.all_eq_true.mp hi.1 o ho) ss R2
        refine p v Hs1 (ρ ++ t) H' ⟨s1, t, rfl⟩ R3 ?_
        cases x with
        | d x => exact Den.thin tp (show Den K w Hs' v x from d2) hi.2
        | r j =>
          obtain ⟨a, ha, rfl⟩ := d2
          show WD K w Hs1 (ρ ++ t) (V.ref a) (if j < (lroots fl ws).length then W.r ((lroots fl ws).getD j 0) else W.r (rt.length + (j - (lroots fl ws).length)))
          by_cases hj : j < (lroots fl ws).length
          · rw [if_pos hj]
            refine ⟨a, ?_, rfl⟩
            rw [List.getElem?_append_left (by rw [pk_length]; exact hj)] at ha
            obtain ⟨i, hi, e⟩ := pk_of ha (fun j hj => by rw [R.len]; exact hr j hj)
            rw [List.getD_eq_getElem?_getD, hi]
            exact Ext.at (Hs := Hs) (Hs' := Hs) ⟨Same.rfl', t, rfl⟩ e
          · rw [if_neg hj]
            refine ⟨a, ?_, rfl⟩
            rw [List.getElem?_append_right (by rw [pk_length]; omega), pk_length] at ha
            rw [List.getElem?_append_right (by rw [R.len]; omega), R.len, Nat.add_sub_cancel_left]
            exact ha
      · exact p.elim
  · rw [if_neg hok] at p
    exact p.elim
end
section
variable {X : Cx} {Wx : WX} {e : Expr} {es : List Expr} {ms : Ex (List W)} {pos : Pos}
def eLend (f : FM) (fl : List Bool) (ms : Ex (List W)) : Ex W := fun sl rt => (ms sl rt).bind fun ws rt => if ws.length = fl.length then callLn fl f ws rt else .no
/-- a def of the module is called; what is not marked is only read -/
theorem vx_lend {k : Nat} {f : Addr} {fd : FuncData} {ps : List Str} {x : Str} {p : Pos} {fm : FM} (fl : List Bool) (F : FnOk X.prog X.w X.K X.mg X.base (L2.CX X.prog X.w) k f fd ps (spV X.K X.w fm ps.length)) (hr : Room k X.A) (hg : Gl X x) (hm : X.mg x = some (.ref f)) (hk : PySem.W.keepIn X.K (.ref f) = true) (hb : Binds X.K fd ps [])
    (ha : VA X Wx (e :: es) ms) (hfl : fl.length = ps.length := by rfl) (hdb : (x == ("__debug__" : Str)) = false := by decide) (he : starEach (e :: es) X.env = (false, eval e X.env) :: starEach es X.env := by rfl) (hpl : (backTo pos (starEach es X.env)).any (·.1) = false := by rfl) :
    VX X Wx (.Call (.Name x p) (e :: es) [] pos) (eLend fm fl ms) := by
  obtain ⟨t, a1, a2⟩ := ha.ex
  refine vx_pe (pe_call F hr hg hm hk hb .nil passL a1 hdb he hpl) fun B Hs ρ sl rt σ H Q R S p => ?_
  refine a2 B Hs ρ sl rt σ H _ R S (PEx.bind p fun ws rt1 vs Hs1 ρ1 H1 e1 R1 d1 p1 => ?_)
  rw [List.append_nil]
  by_cases hl : ws.length = fl.length
  · rw [if_pos hl] at p1
    exact callLn_ok R1 d1 (hl.trans hfl) p1
  · rw [if_neg hl] at p1
    exact p1.elim
end
end VE

set_option maxRecDepth 100000
set_option maxHeartbeats 1000000
/-! instances of own classes: attributes, making, methods -/
namespace VE
open PySem PySem.Spec L2 PyProof.Rows
theorem aget_lookup {α : Type} {f : Str} : ∀ {vs : List (Str × α)}, vs.lookup f = aget vs f
  | [] => rfl
  | (g, x) :: vs => by
    unfold aget
    by_cases h : g = f
    · subst h; simp [List.lookup]
    · rw [if_neg h]
      have : (f == g) = false := by simpa using fun z => h z.symm
      rw [List.lookup_cons, this]
      exact aget_lookup
theorem putF_new {f : Str} {v : V} : ∀ {vs : List (Str × V)}, aget vs f = none → putF f v vs = vs ++ [(f, v)]
  | [], _ => rfl
  | (g, x) :: vs, h => by
    unfold aget at h
    by_cases e : g = f
    · rw [if_pos e] at h; cases h
    · rw [if_neg e] at h
      unfold putF
      rw [if_neg e, putF_new h]
      rfl
section
variable {K : PySem.W.Frag} {w : World} {B : Bnd} {Hs Hs' H H' : Hp} {ρ : List Addr} {rt : List O}
theorem DenA.aget {κ : Type} [DecidableEq κ] {k : κ} {y : D} : ∀ {vs : List (κ × V)} {xs : List (κ × D)}, DenA K w Hs vs xs → VE.aget xs k = some y → ∃ v, VE.aget vs k = some v ∧ Den K w Hs v y
  | _, _, .nil, e => by cases e
  | _, _, .cons (k := k') h r, e => by
    unfold VE.aget at e ⊢
    by_cases z : k' = k
    · rw [if_pos z] at e ⊢; cases e; exact ⟨_, rfl, h⟩
    · rw [if_neg z] at e ⊢; exact DenA.aget r e
theorem DenA.agetN {κ : Type} [DecidableEq κ] {k : κ} : ∀ {vs : List (κ × V)} {xs : List (κ × D)}, DenA K w Hs vs xs → VE.aget xs k = none → VE.aget vs k = none
  | _, _, .nil, _ => rfl
  | _, _, .cons (k := k') h r, e => by
    unfold VE.aget at e ⊢
    by_cases z : k' = k
    · rw [if_pos z] at e; cases e
    · rw [if_neg z] at e ⊢; exact DenA.agetN r e
/-- a path into an instance stays when an attribute is added -/
theorem adr_fld {C dx a : Addr} {f : Str} {u : V} {z : O} {vs : List (Str × V)} {xs : List (Str × O)} {A : List Addr} (h : Own K w Hs H (.ref a) (.ins C xs) A) (hn : A.Nodup) (ha : H a = some (.ins C dx vs)) :
    ∀ q t, adr H (.ref a) (.ins C xs) q = some t → adr (upd H a (.ins C dx (vs ++ [(f, u)]))) (.ref a) (.ins C (xs ++ [(f, z)])) q = some t := by
  intro q t hq
  cases q with
  | nil => rw [adr_nil] at hq ⊢; exact hq
  | cons s p =>
    obtain ⟨v', x', g, k, e1, _, _⟩ := adr_kid hq
    obtain ⟨A1, B', A2, hC, h1, _⟩ := k.own h
    obtain ⟨a', ea, hin, hout⟩ := k.head h hn h1
    cases ea
    cases k with
    | ins e0 e2 e3 =>
      rw [ha] at e0
      cases e0
      simp only [adr, upd_same]
      rw [aget_app e2, aget_app e3]
      exact adr_mono h1 (fun b hb => upd_ne fun zz => hout (by rw [← zz]; exact hb)) e1
/-- a new attribute with plain data -/
theorem live_fldd {C : Addr} {f : Str} {v u : V} {xs : List (Str × O)} {n : Nat} {y : D} (R : Rel K w B Hs ρ rt H) (d : WD K w Hs ρ v (.r n)) (e : rd rt n = some (.ins C xs)) (hf : aget xs f = none) (du : Den K w Hs u y) :
    ∃ a dx vs, v = .ref a ∧ H a = some (.ins C dx vs) ∧ vs.length = xs.length ∧ Rel K w B Hs ρ (wr rt n (.ins C (xs ++ [(f, .d y)]))) (upd H a (.ins C dx (putF f u vs))) := by
  obtain ⟨a, A, rfl, h1, h2, h3, h4⟩ := R.at d e rfl
  have h1' := h1
  cases h1 with
  | @ins _ _ dx vs _ A hi hdx r =>
    have hk : aget vs f = none := aget_none (by rw [r.keys]; exact aget_no hf)
    have hnd := List.nodup_cons.mp h2
    have hnd2 := List.nodup_cons.mp hnd.2
    refine ⟨a, dx, vs, rfl, hi, r.length, ?_⟩
    rw [putF_new hk]
    refine h4 _ _ (List.mem_cons_self ..) ?_ (adr_fld h1' h2 hi)
    have r2 : OwnA K w Hs (upd H a (.ins C dx (vs ++ [(f, u)]))) vs xs A := r.mono Same.rfl' fun b hb => upd_ne fun z => hnd.1 (by rw [← z]; exact List.mem_cons_of_mem _ hb)
    have r3 := OwnA.snoc (k := f) (Own.d (H := upd H a (.ins C dx (vs ++ [(f, u)]))) du) r2
    rw [List.append_nil] at r3
    exact .ins upd_same ((upd_ne fun z => hnd.1 (by rw [← z]; exact List.mem_cons_self ..)).trans hdx) r3
/-- a new attribute that holds what was live -/
theorem live_fldr {C : Addr} {f : Str} {v u : V} {xs : List (Str × O)} {n m : Nat} {z : O} (R : Rel K w B Hs ρ rt H) (d : WD K w Hs ρ v (.r n)) (e : rd rt n = some (.ins C xs)) (hm : rt[m]? = some z) (hz : z.isVw = false) (hkm : (locR rt n).1 ≠ m) (hnv : noVw m rt = true)
    (hf : aget xs f = none) (du : WD K w Hs ρ u (.r m)) :
    ∃ a dx vs, v = .ref a ∧ H a = some (.ins C dx vs) ∧ vs.length = xs.length ∧ Rel K w B Hs ρ ((wr rt n (.ins C (xs ++ [(f, z)]))).set m (.vw (locR rt n).1 ((locR rt n).2 ++ [.fld f]))) (upd H a (.ins C dx (putF f u vs))) := by
  obtain ⟨a, c, A0, D, rfl, hc, h1, hD, h2, nD, dis, fr, main⟩ := R.absorb d e rfl hm hz hkm hnv
  obtain ⟨c', hc', rfl⟩ := du
  rw [hc] at hc'
  cases hc'
  have h1' := h1
  cases h1 with
  | @ins _ _ dx vs _ A hi hdx r =>
    have hk : aget vs f = none := aget_none (by rw [r.keys]; exact aget_no hf)
    have hnd := List.nodup_cons.mp h2
    have haD : a ∉ D := dis a (List.mem_cons_self ..)
    refine ⟨a, dx, vs, rfl, hi, r.length, ?_⟩
    rw [putF_new hk]
    refine main (.ins C (xs ++ [(f, z)])) (.ins C dx (vs ++ [(f, .ref c)])) (a :: dx :: (A ++ D)) (.fld f) (List.mem_cons_self ..) (List.Perm.refl _) ?_ (adr_fld h1' h2 hi) ?_
    · have r2 : OwnA K w Hs (upd H a (.ins C dx (vs ++ [(f, .ref c)]))) vs xs A := r.mono Same.rfl' fun b hb => upd_ne fun z => hnd.1 (by rw [← z]; exact List.mem_cons_of_mem _ hb)
      have e1 : Own K w Hs (upd H a (.ins C dx (vs ++ [(f, .ref c)]))) (.ref c) z D := hD.mono Same.rfl' fun b hb => upd_ne fun zz => haD (by rw [← zz]; exact hb)
      exact .ins upd_same ((upd_ne fun z => hnd.1 (by rw [← z]; exact List.mem_cons_self ..)).trans hdx) (OwnA.snoc (k := f) e1 r2)
    · simp only [adr, upd_same]
      rw [aget_snoc hk, aget_snoc hf]
/-- a new root, of several objects -/
theorem Rel.pushA (R : Rel K w B Hs ρ rt H) {p : Addr} {o : O} {A : List Addr} (hn : A.Nodup) (h0 : ∀ b ∈ A, H b = none) (h1 : ∀ b, b ∉ A → H' b = H b) (ho : Own K w Hs H' (.ref p) o A) : Rel K w B Hs (ρ ++ [p]) (rt ++ [o]) H' := by
  obtain ⟨F, hF⟩ := R.own
  have keep : ∀ b, H b ≠ none → H' b = H b := fun b hb => h1 b fun z => hb (h0 b z)
  refine ⟨fun b u e => ?_, by simp [R.len], ⟨ov F rt.length A, fun i x e => ?_⟩, fun b u e => ?_, fun b e => ?_, R.pers, fun k n q e => ?_⟩
  · have := R.same _ _ e
    rw [keep b (by rw [this]; exact fun z => nomatch z)]
    exact this
  · by_cases hi : i < rt.length
    · rw [List.getElem?_append_left hi] at e
      obtain ⟨a, e1, g1, g2, g3, g4⟩ := hF i x e
      rw [ov_ne (show i ≠ rt.length by omega)]
      refine ⟨a, by rw [List.getElem?_append_left (by rw [R.len]; exact hi)]; exact e1, g1.mono Same.rfl' fun b hb => keep b (g1.there b hb), g2, g3, fun j hj hij b hb => ?_⟩
      by_cases hjn : j = rt.length
      · rw [hjn, ov_same]
        exact fun z => g1.there b hb (h0 b z)
      · rw [ov_ne hjn]
        refine g4 j ?_ hij b hb
        simp only [List.length_append, List.length_singleton] at hj
        omega
    · have hi2 : i = rt.length := by
        have := (List.getElem?_eq_some_iff.mp e).1
        simp only [List.length_append, List.length_singleton] at this
        omega
      subst hi2
      rw [List.getElem?_append_right (Nat.le_refl _), Nat.sub_self] at e
      cases e
      rw [ov_same]
      refine ⟨p, ?_, .of ho, hn, fun b hb => ?_, fun j hj hij b hb => ?_⟩
      · rw [← R.len, List.getElem?_append_right (Nat.le_refl _), Nat.sub_self]
        rfl
      · obtain ⟨f1, f2⟩ := R.fresh (h0 b hb)
        exact ⟨f1, .inr f2⟩
      · rw [ov_ne hij]
        intro z
        simp only [List.length_append, List.length_singleton] at hj
        obtain ⟨o2, ho2⟩ : ∃ o2, rt[j]? = some o2 := ⟨rt[j]'(by omega), by simp [show j < rt.length by omega]⟩
        obtain ⟨_, _, g1, _⟩ := hF j o2 ho2
        exact g1.there b z (h0 b hb)
  · rcases R.frame b u e with z | z
    · exact .inl z
    · exact .inr (by rw [keep b (by rw [z]; exact fun q => nomatch q)]; exact z)
  · have := R.there b e
    rw [keep b this]
    exact this
  · have hk : k < rt.length := by
      by_cases hk : k < rt.length
      · exact hk
      · have hk2 : k = rt.length := by
          have := (List.getElem?_eq_some_iff.mp e).1
          simp only [List.length_append, List.length_singleton] at this
          omega
        subst hk2
        rw [List.getElem?_append_right (Nat.le_refl _), Nat.sub_self] at e
        cases e
        cases ho
    rw [List.getElem?_append_left hk] at e
    obtain ⟨a, b, x, g1, g2, g3, g5, g4⟩ := R.lk k n q e
    obtain ⟨_, eb, q1, _⟩ := hF n x g3
    rw [g2] at eb; cases eb
    have hn := (List.getElem?_eq_some_iff.mp g3).1
    exact ⟨a, b, x, by rw [List.getElem?_append_left (by rw [R.len]; exact hk)]; exact g1, by rw [List.getElem?_append_left (by rw [R.len]; exact hn)]; exact g2, by rw [List.getElem?_append_left hn]; exact g3, g5,
      q1.link (fun c hc => keep c (q1.there c hc)) g4⟩
end
/-! ### o.f -/
def fldO (rt : List O) : Option D → Ou W
  | some y => .ok (.d y) rt
  | none => .no
def fldD (C : Addr) (f : Str) (rt : List O) : D → Ou W
  | .obj C' fs => if C' = C then fldO rt (aget fs f) else .no
  | _ => .no
def fldS (rt : List O) (n : Nat) (f : Str) : Option O → Ou W
  | some z => stepV rt n (.fld f) z
  | none => .no
def fldR (C : Addr) (f : Str) (n : Nat) (rt : List O) : Option O → Ou W
  | some (.ins C' fs) => if C' = C then fldS rt n f (aget fs f) else .no
  | some (.d x) => fldD C f rt x
  | _ => .no
def fldW (C : Addr) (f : Str) (x : W) (rt : List O) : Ou W := match x with
  | .d y => fldD C f rt y
  | .r n => fldR C f n rt (rd rt n)
def eFld (C : Addr) (f : Str) (m : Ex W) : Ex W := fun sl rt => (m sl rt).bind fun x rt => fldW C f x rt
section
variable {X : Cx} {Wx : WX} {e ev : Expr} {m mv : Ex W} {pos pos' : Pos}
theorem Rel.rootD {K : PySem.W.Frag} {w : World} {B : Bnd} {Hs H : Hp} {ρ : List Addr} {rt : List O} {n : Nat} {v : V} {x : D} (R : Rel K w B Hs ρ rt H) (d : WD K w Hs ρ v (.r n)) (e : rd rt n = some (.d x)) : Den K w Hs v x := by
  obtain ⟨a, A, rfl, h1, _⟩ := R.at d e rfl
  generalize hd : O.d x = o at h1
  cases h1 <;> first | (cases hd; assumption) | cases hd
theorem fldD_ok {Wx : WX} {B : Bnd} {Hs H : Hp} {ρ : List Addr} {rt : List O} {σ : L2.St} {Q : VK} {v : V} {y : D} {C : Addr} {f : Str} (R : Rel X.K X.w B Hs ρ rt H) (d : Den X.K X.w Hs v y) (c : Cls X.K C) (na : NoAttr X.K C f)
    (p : PE1 X.K X.w B Wx Hs ρ σ (fldD C f rt y) Q) : ∃ a C dx fs u, v = .ref a ∧ H a = some (.ins C dx fs) ∧ Cls X.K C ∧ NoAttr X.K C f ∧ fs.lookup f = some u ∧ Q u H := by
  cases y with
  | obj C' fs =>
    simp only [fldD] at p
    split at p
    · rename_i hC
      subst hC
      cases d with
      | obj h1 h2 r =>
        cases hf : aget fs f with
        | none => rw [hf] at p; exact p.elim
        | some y =>
          rw [hf] at p
          obtain ⟨u, hu, du⟩ := r.aget hf
          exact ⟨_, _, _, _, u, rfl, R.same _ _ h1, c, na, by rw [aget_lookup]; exact hu, p u Hs ρ H Ext.refl R du⟩
    · exact p.elim
  | _ => exact p.elim
theorem vx_fld {C : Addr} {f : Str} (c : Cls X.K C) (na : NoAttr X.K C f) (he : VX X Wx e m) (hb : attributeBase e f X.env (eval e X.env) = eval e X.env := by rfl) : VX X Wx (.Attribute e f pos) (eFld C f m) := by
  obtain ⟨t, a1, a2⟩ := he.ex
  refine vx_pe (pe_fld a1 hb) fun B Hs ρ sl rt σ H Q R S p => ?_
  refine a2 B Hs ρ sl rt σ H _ R S (PEx.bind p fun x rt1 v Hs1 ρ1 H1 e1 R1 d1 p1 => ?_)
  cases x with
  | d y => exact fldD_ok R1 d1 c na p1
  | r n =>
    simp only [fldW] at p1
    cases hr : rd rt1 n with
    | none => rw [hr] at p1; exact p1.elim
    | some o =>
      rw [hr] at p1
      cases o with
      | d y => exact fldD_ok R1 (R1.rootD d1 hr) c na p1
      | ins C' fs =>
        simp only [fldR] at p1
        split at p1
        · rename_i hC
          subst hC
          cases hf : aget fs f with
          | none => rw [hf] at p1; exact p1.elim
          | some z =>
            rw [hf] at p1
            obtain ⟨a, A, rfl, h1, h2, h3, h4⟩ := R1.at d1 hr rfl
            cases h1 with
            | ins hi hdx r =>
              obtain ⟨u, hu, _⟩ := r.getv hf
              exact ⟨a, _, _, _, u, rfl, hi, c, na, by rw [aget_lookup]; exact hu, R1.step d1 hr rfl (.ins hi hu hf) p1⟩
        · exact p1.elim
      | _ => exact p1.elim
/-! ### o.f = v, a new attribute -/
def stD (C : Addr) (f : Str) (n : Nat) (y : D) (sl : Sl) (rt : List O) : Option O → Os
  | some (.ins C' fs) => if C' = C ∧ aget fs f = none ∧ fs.length < 1000 then .nx sl (wr rt n (.ins C (fs ++ [(f, .d y)]))) else .no
  | _ => .no
def stR (C : Addr) (f : Str) (n m : Nat) (z : O) (sl : Sl) (rt : List O) : Option O → Os
  | some (.ins C' fs) => if C' = C ∧ aget fs f = none ∧ fs.length < 1000 ∧ (locR rt n).1 ≠ m ∧ noVw m rt = true then .nx sl ((wr rt n (.ins C (fs ++ [(f, z)]))).set m (.vw (locR rt n).1 ((locR rt n).2 ++ [.fld f]))) else .no
  | _ => .no
def stO (C : Addr) (f : Str) (n m : Nat) (sl : Sl) (rt : List O) : Option O → Os
  | some (.d y) => stD C f n y sl rt (rd rt n)
  | some (.vw _ _) => .no
  | some z => stR C f n m z sl rt (rd rt n)
  | none => .no
def stW (C : Addr) (f : Str) (x y : W) (sl : Sl) (rt : List O) : Os := match x, y with
  | .r n, .d y => stD C f n y sl rt (rd rt n)
  | .r n, .r m => stO C f n m sl rt rt[m]?
  | _, _ => .no
def sFldS (C : Addr) (f : Str) (ma mv : Ex W) : Sx := fun sl rt => (mv sl rt).seq sl fun y rt => (ma sl rt).seq sl fun x rt => stW C f x y sl rt
theorem vs_fld {C : Addr} {f : Str} (c : Cls X.K C) (na : NoAttr X.K C f) (he : VX X Wx e m) (hv : VX X Wx ev mv) (hs : swapsWith ev (some (.Attribute e f pos')) pos.line X.env = pure false := by rfl) :
    VS X Wx (.Assign [.Attribute e f pos'] ev pos) (sFldS C f m mv) := by
  obtain ⟨t, a1, a2⟩ := he.ex
  obtain ⟨tv, b1, b2⟩ := hv.ex
  refine ⟨_, ps_fld a1 b1 hs, fun B Hs ρ sl rt σ H D R S p => ?_⟩
  refine b2 B Hs ρ sl rt σ H _ R S (PEx.seq S p fun y rt1 u Hs1 ρ1 H1 e1 R1 d1 p1 => ?_)
  refine a2 B Hs1 ρ1 sl rt1 σ H1 _ R1 (S.mono e1) (PEx.seq (S.mono e1) p1 fun x rt2 v Hs2 ρ2 H2 e2 R2 d2 p2 => ?_)
  have d1 := d1.mono e2
  have S2 := (S.mono e1).mono e2
  cases x with
  | d x => exact p2.elim
  | r n =>
    have plain : ∀ y, Den X.K X.w Hs2 u y → PSx X.K X.w B Wx Hs2 ρ2 σ.length (stD C f n y sl rt2 (rd rt2 n)) D → ∃ a C dx fs, v = .ref a ∧ H2 a = some (.ins C dx fs) ∧ Cls X.K C ∧ NoAttr X.K C f ∧ fs.length < 1000 ∧ D.nx σ (upd H2 a (.ins C dx (putF f u fs))) := fun y dy p => by
      cases hr : rd rt2 n with
      | none => rw [hr] at p; exact p.elim
      | some o =>
        rw [hr] at p
        cases o <;> first | exact p.elim | skip
        rename_i C' fs
        simp only [stD] at p
        split at p
        · rename_i hc
          obtain ⟨rfl, hf, hl⟩ := hc
          obtain ⟨a, dx, vs, rfl, h1, h2, h3⟩ := live_fldd R2 d2 hr hf dy
          exact ⟨a, _, dx, vs, rfl, h1, c, na, by omega, p Hs2 ρ2 σ _ Ext.refl h3 S2 rfl⟩
        · exact p.elim
    cases y with
    | d y => exact plain y d1 p2
    | r mm =>
      simp only [stW] at p2
      have live : ∀ z, rt2[mm]? = some z → z.isVw = false → PSx X.K X.w B Wx Hs2 ρ2 σ.length (stR C f n mm z sl rt2 (rd rt2 n)) D → ∃ a C dx fs, v = .ref a ∧ H2 a = some (.ins C dx fs) ∧ Cls X.K C ∧ NoAttr X.K C f ∧ fs.length < 1000 ∧ D.nx σ (upd H2 a (.ins C dx (putF f u fs))) := fun z hm hz p => by
        cases hr : rd rt2 n with
        | none => rw [hr] at p; exact p.elim
        | some o =>
          rw [hr] at p
          cases o <;> first | exact p.elim | skip
          rename_i C' fs
          simp only [stR] at p
          split at p
          · rename_i hc
            obtain ⟨rfl, hf, hl, h5, h6⟩ := hc
            obtain ⟨a, dx, vs, rfl, h1, h2, h3⟩ := live_fldr R2 d2 hr hm hz h5 h6 hf d1
            exact ⟨a, _, dx, vs, rfl, h1, c, na, by omega, p Hs2 ρ2 σ _ Ext.refl h3 S2 rfl⟩
          · exact p.elim
      cases hm : rt2[mm]? with
      | none => rw [hm] at p2; exact p2.elim
      | some z =>
        rw [hm] at p2
        cases z <;> first | exact live _ hm rfl p2 | skip
        · obtain ⟨F, hF⟩ := R2.own
          obtain ⟨c', ec, h1, _⟩ := hF mm _ hm
          obtain ⟨c2, ec', rfl⟩ := d1
          rw [ec] at ec'
          cases ec'
          have h2 := h1.own rfl
          generalize F mm = A at h2
          cases h2 with
          | d h => exact plain _ h p2
        · exact p2.elim
end
end VE

set_option maxRecDepth 100000
set_option maxHeartbeats 1000000
/-! instances: making, methods, own subscripts -/
namespace VE
open PySem PySem.Spec L2 PyProof.Rows
/-- a def with defaults keeps its mirror's promise -/
theorem fnD_v {P : Program} {w : World} {K : PySem.W.Frag} {mg : Str → Option Value} {base : Heap} {x qual : Str} {st : Stmt} {f : Addr} {fd fd0 : FuncData} {N ps : List Str} {k : Nat} {body : Sx} {dvs : List V} {kws : List (Str × V)}
    (F : FunD K x qual (defArgs st) (defBody st) (defScope st) dvs kws f fd) (S : FnScope N ps (defScope st))
    (hbody : ∀ (cdv : Value) (A : Around) (outer : List Env) (s : Shared) (H : Hp) (E : XK), Room k (A.deeper (PyProof.Rows.envOfC qual (defScope st) s.heap.objs.size f cdv)) →
      VSs (cxOf (L2.CX P w) P w K mg base N qual (defScope st) f cdv A outer s H E) (fun c d _ H => E c d H) (defBody st) body) : FnOk P w K mg base (L2.CX P w) (k + 1) f fd ps (spV K w (mkF N.length body) ps.length) := by
  refine F.ok S (fun vs H Q E h => h.1) (fun cdv A outer s H vs Q E hr h => ?_)
  obtain ⟨t, h1, h2⟩ := (hbody cdv A outer s H E hr).ex
  obtain ⟨hl, M, Hs, ρ, rt, ws, R, hw, p⟩ := h
  refine ⟨t, h1, h2 ⟨H, Hs, M⟩ Hs ρ _ rt _ H _ R (start_ok hw) ?_⟩
  unfold mkF at p
  have take_ext : ∀ {Hs' : Hp} {ρ' : List Addr}, Ext Hs ρ Hs' ρ' → ρ'.take rt.length = ρ := fun e => by
    obtain ⟨_, t, rfl⟩ := e
    rw [← R.len, List.take_left]
  have le_ext : ∀ {Hs' : Hp} {ρ' : List Addr} {rt' : List O} {H' : Hp}, Ext Hs ρ Hs' ρ' → Rel K w ⟨H, Hs, M⟩ Hs' ρ' rt' H' → rt.length ≤ rt'.length := fun e R' => by
    obtain ⟨_, t, rfl⟩ := e
    rw [← R'.len, ← R.len]; simp
  have nvk : ∀ {l : List O}, allNv l = true → ∀ n p, O.vw n p ∈ l → n < rt.length := fun h n p hm => nomatch nv_of h _ hm
  have ret_ok : ∀ {v : V} {y : W} {Hs' : Hp} {ρ' : List Addr} {rt' : List O} {H' : Hp}, Ext Hs ρ Hs' ρ' → Rel K w ⟨H, Hs, M⟩ Hs' ρ' rt' H' → WD K w Hs' ρ' v y → PE1 K w ⟨H, Hs, M⟩ (fun c d _ H => E c d H) Hs ρ [] (ret rt.length y rt') Q → Q v H' := fun {v y Hs' ρ' rt' H'} e1 R1 d1 p => by
    unfold ret at p
    split at p
    · rename_i hnv
      cases y with
      | d y => exact p _ Hs' _ H' ⟨e1.same, [], by rw [take_ext e1]; simp⟩ (R1.take (le_ext e1 R1) (nvk hnv)) d1
      | r j =>
        obtain ⟨a, ha, rfl⟩ := d1
        have hj : j < rt'.length := by rw [← R1.len]; exact (List.getElem?_eq_some_iff.mp ha).1
        by_cases hk : j < rt.length
        · simp only [hk, if_true] at p
          exact p _ Hs' _ H' ⟨e1.same, [], by rw [take_ext e1]; simp⟩ (R1.take (le_ext e1 R1) (nvk hnv)) ⟨a, by rw [List.getElem?_take, if_pos hk]; exact ha, rfl⟩
        · obtain ⟨o, ho⟩ : ∃ o, rt'[j]? = some o := ⟨rt'[j], by simp [hj]⟩
          simp only [hk, if_false, ho] at p
          split at p
          · exact p.elim
          · rename_i hv
            refine p _ Hs' _ H' ⟨e1.same, [a], by rw [take_ext e1]⟩ (R1.take1 (Nat.le_of_not_lt hk) ha ho (by simpa using hv) (nvk hnv)) ⟨a, ?_, rfl⟩
            rw [take_ext e1, ← R.len, List.getElem?_append_right (Nat.le_refl _), Nat.sub_self]
            rfl
    · exact p.elim
  cases hb : body (ws.map some ++ List.replicate (N.length - ws.length) none) rt with
  | nx sl' rt' =>
    rw [hb] at p
    intro Hs' ρ' σ' H' e1 R1 S1 _
    exact ret_ok (y := .d .non) e1 R1 .non p
  | re y rt' =>
    rw [hb] at p
    intro v Hs' ρ' H' e1 R1 d1
    exact ret_ok e1 R1 d1 p
  | ex c fs sl' rt' =>
    rw [hb] at p
    simp only at p
    split at p
    · rename_i hnv
      intro d Hs' ρ' σ' H' e1 R1 x1 _ _
      exact p d Hs' _ H' ⟨e1.same, [], by rw [take_ext e1]; simp⟩ (R1.take (le_ext e1 R1) (nvk hnv)) x1
    · exact p.elim
  | bk sl' rt' => rw [hb] at p; exact p.elim
  | ct sl' rt' => rw [hb] at p; exact p.elim
  | no => rw [hb] at p; exact p.elim

section
variable {X : Cx} {Wx : WX} {e o : Expr} {es : List Expr} {m mo mi : Ex W} {ms : Ex (List W)} {pos p apos : Pos} {C : Addr}
theorem WDs.app {K : PySem.W.Frag} {w : World} {Hs : Hp} {ρ : List Addr} {us : List V} {ys : List W} (h2 : WDs K w Hs ρ us ys) : ∀ {vs : List V} {xs : List W}, WDs K w Hs ρ vs xs → WDs K w Hs ρ (vs ++ us) (xs ++ ys)
  | _, _, .nil => h2
  | _, _, .cons h t => .cons h (WDs.app h2 t)
theorem WDs.ofD {K : PySem.W.Frag} {w : World} {Hs : Hp} {ρ : List Addr} : ∀ {vs : List V} {xs : List D}, Dens K w Hs vs xs → WDs K w Hs ρ vs (xs.map .d)
  | _, _, .nil => .nil
  | _, _, .cons h t => .cons h (WDs.ofD t)
/-! ### C(..) -/
def mkR (n : Nat) : Ou W → Ou W
  | .ok (.d .non) rt => .ok (.r n) rt
  | _ => .no
def makeF (C : Addr) (f : FM) (fl : List Bool) (ds : List D) (ws : List W) (rt : List O) : Ou W :=
  if ws.length + ds.length + 1 = fl.length then mkR rt.length (callLn fl f (.r rt.length :: (ws ++ ds.map .d)) (rt ++ [.ins C []])) else .no
def eMake (C : Addr) (f : FM) (fl : List Bool) (ds : List D) (ms : Ex (List W)) : Ex W := fun sl rt => (ms sl rt).bind fun ws rt => makeF C f fl ds ws rt
theorem make_ok {K : PySem.W.Frag} {w : World} {B : Bnd} {Hs H : Hp} {ρ : List Addr} {rt : List O} {σ : L2.St} {fm : FM} {fl : List Bool} {ds : List D} {dvs vs : List V} {ws : List W} {np : Nat} {Q : VK} {E : XK} (R : Rel K w B Hs ρ rt H) (d : WDs K w Hs ρ vs ws) (hD : Dens K w Hs dvs ds) (hfl : fl.length = np)
    (q : PE1 K w B Wx Hs ρ σ (makeF C fm fl ds ws rt) Q) (x dx : Addr) (hx : H x = none) (hdx : H dx = none) (hne : dx ≠ x) :
    spV K w fm np (.ref x :: (vs ++ dvs)) (upd (upd H dx (.own x)) x (.ins C dx [])) (fun v H2 => v = .non ∧ Q (.ref x) H2) E := by
  unfold makeF at q
  split at q
  · rename_i hl
    have Rn : Rel K w B Hs (ρ ++ [x]) (rt ++ [.ins C []]) (upd (upd H dx (.own x)) x (.ins C dx [])) := by
      refine R.pushA (A := [x, dx]) (by simp [Ne.symm hne]) (by simp [hx, hdx]) (fun b hb => ?_) ?_
      · simp only [List.mem_cons, List.not_mem_nil, or_false, not_or] at hb
        rw [upd_ne hb.1, upd_ne hb.2]
      · exact .ins upd_same (by rw [upd_ne hne, upd_same]) .nil
    have hE : Ext Hs ρ Hs (ρ ++ [x]) := Ext.push
    have dn : WDs K w Hs (ρ ++ [x]) (.ref x :: (vs ++ dvs)) (.r rt.length :: (ws ++ ds.map .d)) := by
      refine .cons ⟨x, ?_, rfl⟩ ((WDs.app (WDs.ofD hD) (d.mono hE)))
      rw [← R.len, List.getElem?_append_right (Nat.le_refl _), Nat.sub_self]
      rfl
    refine callLn_ok (Wx := Wx) (σ := σ) (fl := fl) Rn dn (by simp; omega) ?_
    cases hc : callLn fl fm (.r rt.length :: (ws ++ ds.map .d)) (rt ++ [.ins C []]) with
    | no => rw [hc] at q; exact q.elim
    | ex c fs rs => rw [hc] at q; exact q.elim
    | ok y rs =>
      rw [hc] at q
      cases y with
      | r n => exact q.elim
      | d y =>
        cases y <;> first | exact q.elim | skip
        intro v Hs' ρ' H' e2 R2 d2
        cases (show Den K w Hs' v .non from d2)
        refine ⟨rfl, q (.ref x) Hs' ρ' H' (hE.trans e2) R2 ⟨x, e2.at (n := rt.length) ?_, rfl⟩⟩
        rw [← R.len, List.getElem?_append_right (Nat.le_refl _), Nat.sub_self]
        rfl
  · exact q.elim
theorem vx_make {k : Nat} {f : Addr} {fd : FuncData} {ps : List Str} {x : Str} {fm : FM} {dvs : List V} {dss : List Value} (fl : List Bool) (ds : List D) (M : Mk X.K C f) (F : FnOk X.prog X.w X.K X.mg X.base (L2.CX X.prog X.w) k f fd ps (spV X.K X.w fm ps.length)) (hr : Room (k + 1) X.A) (hg : Gl X x) (hm : X.mg x = some (.ref C)) (hb : Binds X.K fd ps dss) (hd : Vals dvs dss)
    (hD : ∀ Hs, Dens X.K X.w Hs dvs ds) (ha : VA X Wx (e :: es) ms) (hfl : fl.length = ps.length := by rfl) (hdb : (x == ("__debug__" : Str)) = false := by decide) (he : starEach (e :: es) X.env = (false, eval e X.env) :: starEach es X.env := by rfl) (hpl : (backTo pos (starEach es X.env)).any (·.1) = false := by rfl) :
    VX X Wx (.Call (.Name x p) (e :: es) [] pos) (eMake C fm fl ds ms) := by
  obtain ⟨t, a1, a2⟩ := ha.ex
  refine vx_pe (pe_make M F hr hg hm hb hd passL a1 hdb he hpl) fun B Hs ρ sl rt σ H Q R S q => ?_
  refine a2 B Hs ρ sl rt σ H _ R S (PEx.bind q fun ws rt1 vs Hs1 ρ1 H1 e1 R1 d1 q1 => ?_)
  intro x dx hx hdx hne
  exact make_ok R1 d1 (hD Hs1) hfl q1 x dx hx hdx hne
/-! ### o.m(..) -/
def hasM (C : Addr) (mn : Str) : O → Bool
  | .ins C' fs => decide (C' = C) && (aget fs mn).isNone
  | .d (.obj C' fs) => decide (C' = C) && (aget fs mn).isNone
  | _ => false
def insW (C : Addr) (mn : Str) (rt : List O) : W → Bool
  | .d x => hasM C mn (.d x)
  | .r n => match rd rt n with
    | some o => hasM C mn o
    | none => false
theorem insW_ok {K : PySem.W.Frag} {w : World} {B : Bnd} {Hs H : Hp} {ρ : List Addr} {rt : List O} {v : V} {x : W} {mn : Str} (R : Rel K w B Hs ρ rt H) (d : WD K w Hs ρ v x) (h : insW C mn rt x = true) : ∃ a dx fs, v = .ref a ∧ H a = some (.ins C dx fs) ∧ fs.lookup mn = none := by
  have plain : ∀ y, Den K w Hs v y → hasM C mn (.d y) = true → ∃ a dx fs, v = .ref a ∧ H a = some (.ins C dx fs) ∧ fs.lookup mn = none := fun y dy h => by
    cases y <;> first | cases h | skip
    simp only [hasM] at h
    have h := Bool.and_eq_true_iff.mp h
    have hC := of_decide_eq_true h.1
    subst hC
    cases dy with
    | obj h1 h2 r => exact ⟨_, _, _, rfl, R.same _ _ h1, by rw [aget_lookup]; exact r.agetN (by simpa using h.2)⟩
  cases x with
  | d y => exact plain y d h
  | r n =>
    simp only [insW] at h
    cases hr : rd rt n with
    | none => rw [hr] at h; cases h
    | some o =>
      rw [hr] at h
      cases o <;> first | cases h | skip
      · exact plain _ (R.rootD d hr) h
      · rename_i C' fs
        simp only [hasM] at h
        have h := Bool.and_eq_true_iff.mp h
        have hC := of_decide_eq_true h.1
        subst hC
        obtain ⟨a, A, rfl, h1, _⟩ := R.at d hr rfl
        cases h1 with
        | ins hi hdx r => exact ⟨a, _, _, rfl, hi, by rw [aget_lookup]; exact aget_none (by rw [r.keys]; exact aget_no (by simpa using h.2))⟩
def eMeth (C : Addr) (mn : Str) (f : FM) (fl : List Bool) (ds : List D) (mo : Ex W) (ms : Ex (List W)) : Ex W := fun sl rt => (mo sl rt).bind fun x rt => if insW C mn rt x = true then (ms sl rt).bind fun ws rt => if ws.length + ds.length + 1 = fl.length then callLn fl f (x :: (ws ++ ds.map .d)) rt else .no else .no
theorem vx_meth {k : Nat} {f : Addr} {fd : FuncData} {ps : List Str} {mn : Str} {fm : FM} {dvs : List V} {dss : List Value} {pl : Sem Bool} (fl : List Bool) (ds : List D) (c : Cls X.K C) (M : Meth X.K C mn f) (F : FnOk X.prog X.w X.K X.mg X.base (L2.CX X.prog X.w) k f fd ps (spV X.K X.w fm ps.length)) (hr : Room k X.A) (hb : Binds X.K fd ps dss) (hd : Vals dvs dss)
    (hD : ∀ Hs, Dens X.K X.w Hs dvs ds) (ho : VX X Wx o mo) (ha : VA X Wx (e :: es) ms) (hfl : fl.length = ps.length := by rfl)
    (hst : starEach (e :: es) X.env = (false, eval e X.env) :: starEach es X.env := by rfl) (hpl : (backTo pos (starEach es X.env)).any (·.1) = false := by rfl)
    (ht : eval (.Call (.Attribute o mn apos) (e :: es) [] pos) X.env = (do
      let ov ← eval o X.env
      standAt apos.atName
      let (f, first) ← holding [ov] (getMethod ov mn pl)
      callWith pos f first (backTo pos (starEach (e :: es) X.env)) (backToKw pos (keywordEach [] X.env))) := by rfl) : VX X Wx (.Call (.Attribute o mn apos) (e :: es) [] pos) (eMeth C mn fm fl ds mo ms) := by
  obtain ⟨t, a1, a2⟩ := ha.ex
  obtain ⟨u, b1, b2⟩ := ho.ex
  refine vx_pe (pe_meth b1 c M F hr hb hd passL a1 hst hpl ht) fun B Hs ρ sl rt σ H Q R S q => ?_
  refine b2 B Hs ρ sl rt σ H _ R S (PEx.bind q fun x rt1 v Hs1 ρ1 H1 e1 R1 d1 q1 => ?_)
  by_cases hx : insW C mn rt1 x = true
  · rw [if_pos hx] at q1
    obtain ⟨a, dx, fs, rfl, h1, h2⟩ := insW_ok R1 d1 hx
    refine ⟨a, dx, fs, rfl, h1, h2, ?_⟩
    refine a2 B Hs1 ρ1 sl rt1 σ H1 _ R1 (S.mono e1) (PEx.bind q1 fun ws rt2 vs Hs2 ρ2 H2 e2 R2 d2 q2 => ?_)
    by_cases hl : ws.length + ds.length + 1 = fl.length
    · rw [if_pos hl] at q2
      exact callLn_ok R2 (.cons (d1.mono e2) (WDs.app (WDs.ofD (hD Hs2)) d2)) (by simp; omega) q2
    · rw [if_neg hl] at q2
      exact q2.elim
  · rw [if_neg hx] at q1
    exact q1.elim
def eMeth0 (C : Addr) (mn : Str) (f : FM) (fl : List Bool) (ds : List D) (mo : Ex W) : Ex W := fun sl rt => (mo sl rt).bind fun x rt => if insW C mn rt x = true ∧ ds.length + 1 = fl.length then callLn fl f (x :: ds.map .d) rt else .no
theorem vx_meth0 {k : Nat} {f : Addr} {fd : FuncData} {ps : List Str} {mn : Str} {fm : FM} {dvs : List V} {dss : List Value} {pl : Sem Bool} (fl : List Bool) (ds : List D) (c : Cls X.K C) (M : Meth X.K C mn f) (F : FnOk X.prog X.w X.K X.mg X.base (L2.CX X.prog X.w) k f fd ps (spV X.K X.w fm ps.length)) (hr : Room k X.A) (hb : Binds X.K fd ps dss) (hd : Vals dvs dss)
    (hD : ∀ Hs, Dens X.K X.w Hs dvs ds) (ho : VX X Wx o mo) (hfl : fl.length = ps.length := by rfl)
    (ht : eval (.Call (.Attribute o mn apos) [] [] pos) X.env = (do
      let ov ← eval o X.env
      standAt apos.atName
      let (f, first) ← holding [ov] (getMethod ov mn pl)
      callWith pos f first (backTo pos (starEach [] X.env)) (backToKw pos (keywordEach [] X.env))) := by rfl) : VX X Wx (.Call (.Attribute o mn apos) [] [] pos) (eMeth0 C mn fm fl ds mo) := by
  obtain ⟨u, b1, b2⟩ := ho.ex
  refine vx_pe (pe_meth0 b1 c M F hr hb hd passL ht) fun B Hs ρ sl rt σ H Q R S q => ?_
  refine b2 B Hs ρ sl rt σ H _ R S (PEx.bind q fun x rt1 v Hs1 ρ1 H1 e1 R1 d1 q1 => ?_)
  by_cases hx : insW C mn rt1 x = true ∧ ds.length + 1 = fl.length
  · rw [if_pos hx] at q1
    obtain ⟨a, dx, fs, rfl, h1, h2⟩ := insW_ok R1 d1 hx.1
    exact ⟨a, dx, fs, rfl, h1, h2, callLn_ok R1 (.cons d1 (WDs.ofD (hD Hs1))) (by simp; omega) q1⟩
  · rw [if_neg hx] at q1
    exact q1.elim
/-! ### o[i] with an own __getitem__ -/
theorem run_at {pins : List (Addr × Obj)} {σ : L2.St} {H : Hp} {s : Shared} {Q : VK} {us : List Value} {vs : List V} {k : Nat} {f : Addr} {fd : FuncData} {ps : List Str} {sp : Sp} {E : XK} {CX : CXT} (F : FnOk X.prog X.w X.K X.mg X.base CX k f fd ps sp) (hr : Room (k + 1) X.A) (hb : Binds X.K fd ps []) (hx : Passes CX X E)
    (I : Inv X pins σ H s) (r : Vals vs us) (h : sp vs H Q E) : wpAny (model X.prog X.w) X.A.in1 (call (.ref f) us) (EP X pins σ Q) X.xe s := by
  have hl : (us ++ []).length = ps.length := by rw [List.append_nil, ← r.length]; exact F.len _ _ _ _ h
  have hb' := hb s us I.kIn hl
  rw [List.append_nil] at hb'
  refine wpAny_call (codeAny_mono (F.run X.A.in1 X.stack s H ⟨us, []⟩ us vs Q E hr.in1 I.env0.in1 hb' r h) fun r s' hq => ?_)
  cases r with
  | error e => exact hx pins σ H s e s' I hq
  | ok fl =>
    cases fl with
    | ret u => exact I.after hq
    | next => exact False.elim hq
    | brk => exact False.elim hq
    | cont => exact False.elim hq
structure Own2 (K : PySem.W.Frag) (C : Addr) (m : Str) (f : Addr) : Prop where
  at_ : PySem.W.findIn K (.ref C) m = some (some (.ref f))
  fn : PySem.W.isFn K (.ref f) = true
  fi : PySem.W.fnIn K f = true
  ns : PySem.W.noSeq K C = true
def tGet (C : Addr) (sp : Sp) (E : XK) (ta tb : TE) : TE := fun σ H Q => ta σ H fun x H1 => tb σ H1 fun y H2 => ∃ a dx fs, x = .ref a ∧ H2 a = some (.ins C dx fs) ∧ sp [x, y] H2 Q E
theorem pe_get {a b : Expr} {ta tb : TE} {k : Nat} {f : Addr} {fd : FuncData} {ps : List Str} {sp : Sp} {E : XK} {CX : CXT} (O : Own2 X.K C "__getitem__" f) (F : FnOk X.prog X.w X.K X.mg X.base CX k f fd ps sp) (hr : Room (k + 1) X.A) (hb : Binds X.K fd ps []) (hx : Passes CX X E)
    (ha : PE X a ta) (hbx : PE X b tb) (hsl : ∀ o i, subscripted b true o i = runValue (.builtin "lifetime.subscript" ⟨[o, i], []⟩)) : PE X (.Subscript a b pos) (tGet C sp E ta tb) := by
  refine ⟨fun pins s σ H Q I h => ?_⟩
  refine Subscript_ (binT ha hbx I h fun v u s2 x y H2 I2 rx ry q => ?_)
  obtain ⟨p, dx, fs, rfl, hi, q⟩ := q
  cases rx
  obtain ⟨mA, J, _⟩ := ins_get I2.hok hi
  obtain ⟨od, J, _⟩ := J.look
  obtain ⟨m, hF⟩ := I2.fr
  exact PySem.W.sub_K (F := hF) (X₀ := I2.ok.mod.kin) (I := J) O.at_ O.fi O.fn (run_at F hr hb hx I2 (.cons (show RelV (.ref p) (.ref p) from rfl) (.cons ry .nil)) q) (hsl _ _)
def eItm (C : Addr) (f : FM) (fl : List Bool) (mo mi : Ex W) : Ex W := fun sl rt => (mo sl rt).bind fun x rt => (mi sl rt).bind fun y rt => if insW C "__getitem__" rt x = true then callLn fl f [x, y] rt else .no
theorem vx_itm {a b : Expr} {k : Nat} {f : Addr} {fd : FuncData} {ps : List Str} {fm : FM} (fl : List Bool) (O : Own2 X.K C "__getitem__" f) (F : FnOk X.prog X.w X.K X.mg X.base (L2.CX X.prog X.w) k f fd ps (spV X.K X.w fm ps.length)) (hr : Room (k + 1) X.A) (hb : Binds X.K fd ps [])
    (ha : VX X Wx a mo) (hbx : VX X Wx b mi) (hps : ps.length = 2 := by rfl) (hsl : ∀ o i, subscripted b true o i = runValue (.builtin "lifetime.subscript" ⟨[o, i], []⟩) := by intro _ _; with_unfolding_all rfl) : VX X Wx (.Subscript a b pos) (eItm C fm fl mo mi) := by
  obtain ⟨ta, a1, a2⟩ := ha.ex
  obtain ⟨tb, b1, b2⟩ := hbx.ex
  refine vx_pe (pe_get O F hr hb passL a1 b1 hsl) fun B Hs ρ sl rt σ H Q R S q => ?_
  refine a2 B Hs ρ sl rt σ H _ R S (PEx.bind q fun x rt1 v Hs1 ρ1 H1 e1 R1 d1 q1 => ?_)
  refine b2 B Hs1 ρ1 sl rt1 σ H1 _ R1 (S.mono e1) (PEx.bind q1 fun y rt2 u Hs2 ρ2 H2 e2 R2 d2 q2 => ?_)
  by_cases hx : insW C "__getitem__" rt2 x = true
  · rw [if_pos hx] at q2
    obtain ⟨a, dx, fs, rfl, h1, h2⟩ := insW_ok R2 (d1.mono e2) hx
    exact ⟨a, dx, fs, rfl, h1, callLn_ok R2 (.cons (d1.mono e2) (.cons d2 .nil)) hps.symm q2⟩
  · rw [if_neg hx] at q2
    exact q2.elim
/-! ### o[i] = v with an own __setitem__ -/
def tSetC (C : Addr) (sp : Sp) (E : XK) : TSet := fun o i v H Q => ∃ a dx fs, o = .ref a ∧ H a = some (.ins C dx fs) ∧ sp [o, i, v] H (fun _ H' => Q H') E
theorem set_own {k : Nat} {f : Addr} {fd : FuncData} {ps : List Str} {sp : Sp} {E : XK} {CX : CXT} (O : Own2 X.K C "__setitem__" f) (F : FnOk X.prog X.w X.K X.mg X.base CX k f fd ps sp) (hr : Room k X.A) (hb : Binds X.K fd ps []) (hx : Passes CX X E) : PSet X (tSetC C sp E) := by
  intro pins s σ H o i v ov iv u Q I ro ri rv h
  obtain ⟨p, dx, fs, rfl, hi, q⟩ := h
  cases ro
  obtain ⟨mA, J, _⟩ := ins_get I.hok hi
  obtain ⟨od, J, _⟩ := J.look
  obtain ⟨m, hF⟩ := I.fr
  refine PySem.W.ksp_setItem (F := hF) (X₀ := I.ok.mod.kin) (I := J) O.ns O.at_ O.fn ?_
  have := run_fn (dvs := []) (ds := []) F hr hb .nil hx I (.cons (show RelV (.ref p) (.ref p) from rfl) (.cons ri (.cons rv .nil))) (by simpa using q)
  exact wpAny_mono this (fun r s' z => by obtain ⟨v', H', I', _, q'⟩ := z; exact ⟨H', I', q'⟩) fun _ _ z => z
def gSetC (C : Addr) (f : FM) (fl : List Bool) (mo mi : Ex W) : Gx := fun x sl rt => (mo sl rt).bind fun o rt => (mi sl rt).bind fun i rt => if insW C "__setitem__" rt o = true then (callLn fl f [o, i, x] rt).bind fun _ rt => .ok sl rt else .no
theorem vg_set {i : Expr} {k : Nat} {f : Addr} {fd : FuncData} {ps : List Str} {fm : FM} (fl : List Bool) (O : Own2 X.K C "__setitem__" f) (F : FnOk X.prog X.w X.K X.mg X.base (L2.CX X.prog X.w) k f fd ps (spV X.K X.w fm ps.length)) (hr : Room k X.A) (hb : Binds X.K fd ps [])
    (ho : VX X Wx o mo) (hi : VX X Wx i mi) (hps : ps.length = 3 := by rfl) (ha : ∀ v, assign (.Subscript o i pos) X.env v = (do
      let ov ← holding [v] (eval o X.env)
      let iv ← holding [v, ov] (eval i X.env)
      standAt pos
      holding [v, ov, iv] (setItem ov iv v)
      release [v, ov, iv] []) := by intro _; rfl) : VG X Wx (.Subscript o i pos) (gSetC C fm fl mo mi) := by
  obtain ⟨ta, a1, a2⟩ := ho.ex
  obtain ⟨tb, b1, b2⟩ := hi.ex
  refine ⟨_, pg_sub a1 b1 (set_own O F hr hb passL) ha, fun B Hs ρ x v sl rt σ H Q R S d q => ?_⟩
  refine a2 B Hs ρ sl rt σ H _ R S (PEx.bind q fun o rt1 vo Hs1 ρ1 H1 e1 R1 d1 q1 => ?_)
  refine b2 B Hs1 ρ1 sl rt1 σ H1 _ R1 (S.mono e1) (PEx.bind q1 fun y rt2 u Hs2 ρ2 H2 e2 R2 d2 q2 => ?_)
  by_cases hx : insW C "__setitem__" rt2 o = true
  · rw [if_pos hx] at q2
    obtain ⟨a, dx, fs, rfl, h1, h2⟩ := insW_ok R2 (d1.mono e2) hx
    refine ⟨a, dx, fs, rfl, h1, callLn_ok (Wx := Wx) (σ := σ) R2 (.cons (d1.mono e2) (.cons d2 (.cons ((d.mono e1).mono e2) .nil))) hps.symm (PEx.bind q2 fun z rt3 v3 Hs3 ρ3 H3 e3 R3 d3 q3 => ?_)⟩
    exact q3 σ Hs3 ρ3 H3 Ext.refl R3 ⟨((S.mono e1).mono e2).mono e3, rfl⟩
  · rw [if_neg hx] at q2
    exact q2.elim
/-! ### isinstance(x, C) -/
def bIsC (C : Addr) (xs : List W) (rt : List O) : Ou W := match xs with
  | [x, .d (.ref a)] => if a = C ∧ insW C "" rt x = true then .ok (.d (.bl true)) rt else .no
  | _ => .no
theorem cv_isC (c : C8.InsC X.K C) : CallV X (.builtin "isinstance") (bIsC C) := by
  refine ⟨_, C8.call_isC c, fun Wx B Hs ρ rt σ H Q xs us R d p => ?_⟩
  unfold bIsC at p
  split at p
  · cases d with
    | cons d1 d2 =>
      cases d2 with
      | cons d2 d3 =>
        cases d3
        split at p
        · rename_i hc
          obtain ⟨rfl, hx⟩ := hc
          obtain ⟨a, dx, fs, rfl, h1, _⟩ := insW_ok R d1 hx
          cases (show Den X.K X.w Hs _ (.ref _) from d2)
          exact ⟨a, dx, fs, rfl, h1, p _ Hs ρ H Ext.refl R (.bl true)⟩
        · exact p.elim
  · exact p.elim
theorem vx_gcls {x : Str} {a : Addr} (hg : Gl X x) (hm : X.mg x = some (.ref a)) (hd : (x == ("__debug__" : Str)) = false := by decide) : VX X Wx (.Name x pos) (eC (.ref a)) :=
  vx_c (pe_glob (v := .ref a) hg hm rfl hd) fun _ => .ref a
end
end VE

set_option maxRecDepth 100000
set_option maxHeartbeats 1000000
/-! own classes: what is told of them, and calls by it -/
namespace VE
open PySem PySem.Spec L2 PyProof.Rows
structure ClsT (K : PySem.W.Frag) (mg : Str → Option Value) (C : Addr) (x : Str) : Prop where
  cl : Cls K C
  mgC : mg x = some (.ref C)
  ns : PySem.W.noSeq K C = true
  mks : PySem.W.makesIn K C = true
  kc : PySem.W.keepIn K (.ref C) = true
  is : C8.InsC K C
/-- a method, every parameter by place -/
structure CalM (P : Program) (w : World) (K : PySem.W.Frag) (mg : Str → Option Value) (base : Heap) (k : Nat) (C : Addr) (mn : Str) (ps : List Str) (m : FM) : Prop where
  ex : ∃ (f : Addr) (fd : FuncData), FnOk P w K mg base (L2.CX P w) k f fd ps (spV K w m ps.length) ∧ Meth K C mn f ∧ PySem.W.fnIn K f = true ∧ Binds K fd ps []
/-- an __init__, with defaults -/
structure CalI (P : Program) (w : World) (K : PySem.W.Frag) (mg : Str → Option Value) (base : Heap) (k : Nat) (C : Addr) (dvs : List V) (ps : List Str) (m : FM) : Prop where
  ex : ∃ (f : Addr) (fd : FuncData), FnOk P w K mg base (L2.CX P w) k f fd ps (spV K w m ps.length) ∧ Mk K C f ∧ ∀ j, j ≤ dvs.length → ∃ dss, Vals (dvs.drop j) dss ∧ Binds K fd ps dss
theorem CalM.own2 {K : PySem.W.Frag} {mg : Str → Option Value} {C f : Addr} {mn x : Str} (M : Meth K C mn f) (hf : PySem.W.fnIn K f = true) (T : ClsT K mg C x) : Own2 K C mn f := ⟨M.at_, M.fn, hf, T.ns⟩
section
variable {X : Cx} {Wx : WX} {e o a b : Expr} {es : List Expr} {ms : Ex (List W)} {mo mi : Ex W} {pos p apos : Pos} {k j : Nat} {x mn : Str} {ps : List Str} {fm : FM} {C : Addr}
theorem vx_lendC (fl : List Bool) (c : Cal X.prog X.w X.K X.mg X.base j x ps fm) (hr : Room k X.A) (hj : j ≤ k) (hg : Gl X x) (ha : VA X Wx (e :: es) ms) (hfl : fl.length = ps.length := by rfl) (hdb : (x == ("__debug__" : Str)) = false := by decide)
    (he : starEach (e :: es) X.env = (false, eval e X.env) :: starEach es X.env := by rfl) (hpl : (backTo pos (starEach es X.env)).any (·.1) = false := by rfl) : VX X Wx (.Call (.Name x p) (e :: es) [] pos) (eLend fm fl ms) := by
  obtain ⟨f, fd, h1, h2, h3, h4⟩ := c.ex
  exact vx_lend fl h1 (hr.mono hj) hg h2 h3 h4 ha hfl hdb he hpl
theorem vx_mC {pl : Sem Bool} (fl : List Bool) (T : ClsT X.K X.mg C x) (c : CalM X.prog X.w X.K X.mg X.base j C mn ps fm) (hr : Room k X.A) (hj : j ≤ k) (ho : VX X Wx o mo) (ha : VA X Wx (e :: es) ms) (hfl : fl.length = ps.length := by rfl)
    (hst : starEach (e :: es) X.env = (false, eval e X.env) :: starEach es X.env := by rfl) (hpl : (backTo pos (starEach es X.env)).any (·.1) = false := by rfl)
    (ht : eval (.Call (.Attribute o mn apos) (e :: es) [] pos) X.env = (do
      let ov ← eval o X.env
      standAt apos.atName
      let (f, first) ← holding [ov] (getMethod ov mn pl)
      callWith pos f first (backTo pos (starEach (e :: es) X.env)) (backToKw pos (keywordEach [] X.env))) := by rfl) : VX X Wx (.Call (.Attribute o mn apos) (e :: es) [] pos) (eMeth C mn fm fl [] mo ms) := by
  obtain ⟨f, fd, h1, h2, h3, h4⟩ := c.ex
  exact vx_meth fl [] T.cl h2 h1 (hr.mono hj) h4 .nil (fun _ => .nil) ho ha hfl hst hpl ht
theorem vx_m0C {pl : Sem Bool} (fl : List Bool) (T : ClsT X.K X.mg C x) (c : CalM X.prog X.w X.K X.mg X.base j C mn ps fm) (hr : Room k X.A) (hj : j ≤ k) (ho : VX X Wx o mo) (hfl : fl.length = ps.length := by rfl)
    (ht : eval (.Call (.Attribute o mn apos) [] [] pos) X.env = (do
      let ov ← eval o X.env
      standAt apos.atName
      let (f, first) ← holding [ov] (getMethod ov mn pl)
      callWith pos f first (backTo pos (starEach [] X.env)) (backToKw pos (keywordEach [] X.env))) := by rfl) : VX X Wx (.Call (.Attribute o mn apos) [] [] pos) (eMeth0 C mn fm fl [] mo) := by
  obtain ⟨f, fd, h1, h2, h3, h4⟩ := c.ex
  exact vx_meth0 fl [] T.cl h2 h1 (hr.mono hj) h4 .nil (fun _ => .nil) ho hfl ht
theorem vx_mkC {dvs : List V} (fl : List Bool) (ds : List D) (i : Nat) (T : ClsT X.K X.mg C x) (c : CalI X.prog X.w X.K X.mg X.base j C dvs ps fm) (hr : Room k X.A) (hj : j + 1 ≤ k) (hg : Gl X x) (hi : i ≤ dvs.length) (hD : ∀ Hs, Dens X.K X.w Hs (dvs.drop i) ds) (ha : VA X Wx (e :: es) ms) (hfl : fl.length = ps.length := by rfl)
    (hdb : (x == ("__debug__" : Str)) = false := by decide) (he : starEach (e :: es) X.env = (false, eval e X.env) :: starEach es X.env := by rfl) (hpl : (backTo pos (starEach es X.env)).any (·.1) = false := by rfl) :
    VX X Wx (.Call (.Name x p) (e :: es) [] pos) (eMake C fm fl ds ms) := by
  obtain ⟨f, fd, h1, h2, h3⟩ := c.ex
  obtain ⟨dss, h4, h5⟩ := h3 i hi
  exact vx_make fl ds h2 h1 (hr.mono hj) hg T.mgC h5 h4 hD ha hfl hdb he hpl
theorem vx_itmC (fl : List Bool) (T : ClsT X.K X.mg C x) (c : CalM X.prog X.w X.K X.mg X.base j C "__getitem__" ps fm) (hr : Room k X.A) (hj : j + 1 ≤ k) (ha : VX X Wx a mo) (hb : VX X Wx b mi) (hps : ps.length = 2 := by rfl)
    (hsl : ∀ o i, subscripted b true o i = runValue (.builtin "lifetime.subscript" ⟨[o, i], []⟩) := by intro _ _; with_unfolding_all rfl) : VX X Wx (.Subscript a b pos) (eItm C fm fl mo mi) := by
  obtain ⟨f, fd, h1, h2, h3, h4⟩ := c.ex
  exact vx_itm fl (CalM.own2 h2 h3 T) h1 (hr.mono hj) h4 ha hb hps hsl
theorem vg_setC {i : Expr} (fl : List Bool) (T : ClsT X.K X.mg C x) (c : CalM X.prog X.w X.K X.mg X.base j C "__setitem__" ps fm) (hr : Room k X.A) (hj : j ≤ k) (ho : VX X Wx o mo) (hi : VX X Wx i mi) (hps : ps.length = 3 := by rfl)
    (ha : ∀ v, assign (.Subscript o i pos) X.env v = (do
      let ov ← holding [v] (eval o X.env)
      let iv ← holding [v, ov] (eval i X.env)
      standAt pos
      holding [v, ov, iv] (setItem ov iv v)
      release [v, ov, iv] []) := by intro _; rfl) : VG X Wx (.Subscript o i pos) (gSetC C fm fl mo mi) := by
  obtain ⟨f, fd, h1, h2, h3, h4⟩ := c.ex
  exact vg_set fl (CalM.own2 h2 h3 T) h1 (hr.mono hj) h4 ho hi hps ha
end
theorem kit_self {K : PySem.W.Frag} {C : Addr} : PySem.W.kitOne K (.ref C) (.ref C) = some true := by
  unfold PySem.W.kitOne
  rw [if_pos (by simp)]
/-- the end, where the mirrors know the classes -/
theorem walk_vA {α : Type} {l : PySem.W.OpenLaw} {k : Nat} {q : Program} {loose : List Str} {XP : (Str → Option Value) → Heap → Prop} {YP : World → Heap → Prop} {d : DefRec} {K : Params → PySem.W.Frag} {m : α → FM}
    (hn : l.most = some 63) (hdf : d.params.defaults = []) (hr : Room k callerA) (hY : ∀ (w : World) (h : Heap), YP w h → (K w.params).In h)
    (F : ∀ (w : World) (mg : Str → Option Value) (fa : Addr) (h : Heap), (K w.params).In h → h.Ns mainGlobals mg → mg d.name = some (.ref fa) →
      ∃ fd : FuncData, (∀ (s : Shared) (u : Value), BindsTo s fd ⟨[u], []⟩ [("script", u)]) ∧ ∀ base : Heap, (K w.params).In base → base.Ns mainGlobals mg → FnOk l.prog w (K w.params) mg base (L2.CX l.prog w) k fa fd ["script"] (fun vs H Q E => ∀ ca : α, spV (K w.params) w (m ca) 1 vs H Q E))
    (ht : ∀ (ca : α) (ns : List Int), ns.length ≤ 63 → ∃ rt, m ca [.d (.fz (ns.map D.int))] [] = .ok (.d (.bl true)) rt) :
    PySem.W.WalkO q loose XP YP l.row.toRowW d [] (fun f vs => PySem.call f vs) :=
  L2.walk_of (n := 63) (k := k) (x := "script") (CX := fun w => L2.CX l.prog w) (sp := fun w vs H Q E => ∀ ca : α, spV (K w.params) w (m ca) 1 vs H Q E) hn (by decide) hdf hr hY F
    (fun w H a ns hl _ hS ca => ⟨rfl, [], H, [], [], _, ⟨fun _ _ h => h, rfl, ⟨fun _ => [], fun i o e => by cases e⟩, fun _ _ h => .inr h, fun _ h => h, fun _ h => .inl h, fun _ _ _ e => by cases e⟩, .cons (x := .d (.fz (ns.map D.int))) (.fz hS (dens_ints ns)) .nil, by
      obtain ⟨rt, e⟩ := ht ca ns hl
      rw [e]
      intro v Hs ρ H' _ _ d1
      exact bl_of d1⟩)
    fun w H s e s' z => by
      obtain ⟨_, _, _, _, _, _, _, _, _, _, _, _, h⟩ := z
      exact h
end VE

set_option maxRecDepth 100000
set_option maxHeartbeats 1000000
/-! own + and += -/
namespace VE
open PySem PySem.Spec L2 PyProof.Rows
section
variable {X : Cx} {C : Addr}
theorem ep_back {pins : List (Addr × Obj)} {σ : L2.St} {Q : VK} {v : Value} {s' : Shared} (hv : EP X pins σ Q v s') : PySem.W.CmpBack (EP X pins σ Q) v s' := by
  cases v <;> first | exact hv | skip
  obtain ⟨x, H', I', r, _⟩ := hv
  cases x <;> first | (obtain ⟨_, h⟩ := r; cases h; done) | (cases r; done) | exact r.elim
structure OwnB (K : PySem.W.Frag) (C : Addr) (m : Str) (f : Addr) : Prop where
  at_ : PySem.W.findIn K (.ref C) m = some (some (.ref f))
  fn : PySem.W.isFn K (.ref f) = true
  sf : PySem.W.selfFirst K C = true
def rOwnB (C : Addr) (sp : Sp) (E : XK) : R2 := fun x y H Q => ∃ a b dx dy fs gs, x = .ref a ∧ y = .ref b ∧ H a = some (.ins C dx fs) ∧ H b = some (.ins C dy gs) ∧ sp [x, y] H Q E
theorem op_addC {k : Nat} {f : Addr} {fd : FuncData} {ps : List Str} {sp : Sp} {E : XK} {CX : CXT} (O : OwnB X.K C "__add__" f) (F : FnOk X.prog X.w X.K X.mg X.base CX k f fd ps sp) (hr : Room k X.A) (hb : Binds X.K fd ps []) (hx : Passes CX X E) : OpR X (binaryOp .Add) (rOwnB C sp E) := by
  intro pins s σ H x y v u Q I rx ry h
  obtain ⟨a, b, dx, dy, fs, gs, rfl, rfl, ha, hb', q⟩ := h
  cases rx
  cases ry
  obtain ⟨mA, J, _⟩ := ins_get I.hok ha
  obtain ⟨mB, J', _⟩ := ins_get I.hok hb'
  obtain ⟨od, J, _⟩ := J.look
  obtain ⟨od', J', _⟩ := J'.look
  obtain ⟨m, hF⟩ := I.fr
  refine PySem.W.binop_K (op := .Add) (F := hF) (X₀ := I.ok.mod.kin) (I := J) J'.type O.sf O.at_ O.fn ?_
  have := run_fn (dvs := []) (ds := []) F hr hb .nil hx I (.cons (show RelV (.ref a) (.ref a) from rfl) (.cons (show RelV (.ref b) (.ref b) from rfl) .nil)) (by simpa using q)
  exact wpAny_mono this (fun r s' z => ep_back z) fun _ _ z => z
theorem ip_addC {k : Nat} {f : Addr} {fd : FuncData} {ps : List Str} {sp : Sp} {E : XK} {CX : CXT} (O : OwnB X.K C "__iadd__" f) (F : FnOk X.prog X.w X.K X.mg X.base CX k f fd ps sp) (hr : Room k X.A) (hb : Binds X.K fd ps []) (hx : Passes CX X E) : PIp X .Add (rOwnB C sp E) := by
  intro pins s σ H x y v u Q I rx ry h
  obtain ⟨a, b, dx, dy, fs, gs, rfl, rfl, ha, hb', q⟩ := h
  cases rx
  cases ry
  obtain ⟨mA, J, _⟩ := ins_get I.hok ha
  obtain ⟨od, J, _⟩ := J.look
  obtain ⟨m, hF⟩ := I.fr
  refine PySem.W.ksp_inplace (op := .Add) (F := hF) (X₀ := I.ok.mod.kin) (I := J) O.sf O.at_ O.fn ?_
  have := run_fn (dvs := []) (ds := []) F hr hb .nil hx I (.cons (show RelV (.ref a) (.ref a) from rfl) (.cons (show RelV (.ref b) (.ref b) from rfl) .nil)) (by simpa using q)
  exact wpAny_mono this (fun r s' z => ep_back z) fun _ _ z => z
def gOwnB (C : Addr) (f : FM) (fl : List Bool) (x y : W) (rt : List O) : Ou W := if insW C "" rt x = true ∧ insW C "" rt y = true then callLn fl f [x, y] rt else .no
theorem ownB_ok {k : Nat} {ps : List Str} {fm : FM} {fl : List Bool} (hps : ps.length = 2) {Wx : WX} {B : Bnd} {Hs : Hp} {ρ : List Addr} {rt : List O} {σ : L2.St} {H : Hp} {Q : VK} {x y : W} {v u : V} (R : Rel X.K X.w B Hs ρ rt H) (d1 : WD X.K X.w Hs ρ v x) (d2 : WD X.K X.w Hs ρ u y)
    (p : PE1 X.K X.w B Wx Hs ρ σ (gOwnB C fm fl x y rt) Q) : rOwnB C (spV X.K X.w fm ps.length) E0 v u H Q := by
  unfold gOwnB at p
  split at p
  · rename_i hc
    obtain ⟨a, dx, fs, rfl, h1, _⟩ := insW_ok R d1 hc.1
    obtain ⟨b, dy, gs, rfl, h2, _⟩ := insW_ok R d2 hc.2
    exact ⟨a, b, dx, dy, fs, gs, rfl, rfl, h1, h2, callLn_ok R (.cons d1 (.cons d2 .nil)) hps.symm p⟩
  · exact p.elim
theorem CalM.ownB {K : PySem.W.Frag} {C f : Addr} {mn : Str} (M : Meth K C mn f) (hs : PySem.W.selfFirst K C = true) : OwnB K C mn f := ⟨M.at_, M.fn, hs⟩
theorem opv_addC {k j : Nat} {ps : List Str} {fm : FM} (fl : List Bool) (hs : PySem.W.selfFirst X.K C = true) (c : CalM X.prog X.w X.K X.mg X.base j C "__add__" ps fm) (hr : Room k X.A) (hj : j ≤ k) (hps : ps.length = 2 := by rfl) : OpV X (binaryOp .Add) (gOwnB C fm fl) := by
  obtain ⟨f, fd, h1, h2, h3, h4⟩ := c.ex
  exact ⟨_, op_addC (CalM.ownB h2 hs) h1 (hr.mono hj) h4 passL, fun Wx B Hs ρ rt σ H Q x y v u R d1 d2 p => ownB_ok (k := k) hps R d1 d2 p⟩
theorem ipv_addC {k j : Nat} {ps : List Str} {fm : FM} (fl : List Bool) (hs : PySem.W.selfFirst X.K C = true) (c : CalM X.prog X.w X.K X.mg X.base j C "__iadd__" ps fm) (hr : Room k X.A) (hj : j ≤ k) (hps : ps.length = 2 := by rfl) : IpV X .Add (gOwnB C fm fl) := by
  obtain ⟨f, fd, h1, h2, h3, h4⟩ := c.ex
  exact ⟨_, ip_addC (CalM.ownB h2 hs) h1 (hr.mono hj) h4 passL, fun Wx B Hs ρ rt σ H Q x y v u R d1 d2 p => ownB_ok (k := k) hps R d1 d2 p⟩
end
end VE

set_option maxRecDepth 100000
set_option maxHeartbeats 1000000
/-! static methods, called on the class -/
namespace VE
open PySem PySem.Spec L2 PyProof.Rows
structure SMet (K : PySem.W.Frag) (C : Addr) (m : Str) (g : Addr) : Prop where
  rd : PySem.W.readsIn K C (.type "type") = true
  ga : PySem.W.specialIn K (.ref C) "__getattribute__" = some (some (.builtin "type.__getattribute__"))
  at_ : ∃ p rest, PySem.W.findCls K (.ref C) (.type "type") m = some (.get (.builtin "staticmethod.__get__") (.ref p) .none (.ref C)) ∧ PySem.W.recIn K p "staticmethod" = some (.ref g :: rest)
  kp : PySem.W.keepIn K (.ref g) = true
def tSMeth (C : Addr) (sp : Sp) (E : XK) (ta : TE) (t : TA) : TE := fun σ H Q => ta σ H fun x H1 => x = .ref C ∧ t σ H1 fun vs H2 => sp vs H2 Q E
section
variable {X : Cx} {Wx : WX} {CX : CXT} {k : Nat} {C g : Addr} {sp : Sp} {E : XK} {o e : Expr} {es : List Expr} {m : Str} {pos apos : Pos} {ta : TE} {t : TA} {pl : Sem Bool} {ps : List Str} {fd : FuncData}
theorem getmethsm_ok {pins : List (Addr × Obj)} {σ : L2.St} {H : Hp} {s : Shared} {A : Around} {E : Value → Shared → Prop} {Q : Value × List Value → Shared → Prop} (I : Inv X pins σ H s) (k : SMet X.K C m g)
    (h : ∀ s', Inv X pins σ H s' → Q (.ref g, []) s') : wpAny (model X.prog X.w) A (getMethod (.ref C) m pl) Q E s := by
  obtain ⟨p, rest, h1, h2⟩ := k.at_
  refine PySem.W.method_cls I.kIn k.ga ?_
  refine PySem.W.cls_bind I.kIn k.rd h1 ?_
  refine wpAny_call (PySem.W.sm_get (s := { s with toks := s.toks + 1 }) I.kIn h2 (PySem.W.handed_on rfl ?_))
  exact h _ (I.tok _)
theorem pe_smeth (he : PE X o ta) (c : SMet X.K C m g) (F : FnOk X.prog X.w X.K X.mg X.base CX k g fd ps sp) (hr : Room k X.A) (hb : Binds X.K fd ps []) (hx : Passes CX X E) (ha : PA X (e :: es) t)
    (hst : starEach (e :: es) X.env = (false, eval e X.env) :: starEach es X.env := by rfl) (hpl : (backTo pos (starEach es X.env)).any (·.1) = false := by rfl)
    (ht : eval (.Call (.Attribute o m apos) (e :: es) [] pos) X.env = (do
      let ov ← eval o X.env
      standAt apos.atName
      let (f, first) ← holding [ov] (getMethod ov m pl)
      callWith pos f first (backTo pos (starEach (e :: es) X.env)) (backToKw pos (keywordEach [] X.env))) := by rfl) :
    PE X (.Call (.Attribute o m apos) (e :: es) [] pos) (tSMeth C sp E ta t) := by
  refine ⟨fun pins s σ H Q I h => ?_⟩
  refine PySem.W.methodCall_KW (pl := pl) (thn (he.run pins s σ H _ I h) fun u s1 ⟨x, H1, I1, rx, ex, q⟩ => ?_) ht
  subst ex
  obtain rfl : u = Value.ref C := rx
  refine getmethsm_ok I1 c fun s2 I2 => ?_
  refine PySem.W.callWith_K (first := []) (h₀ := X.base) I2.ok.mod.kin c.kp (thn (ha.run pos pins s2 σ H1 _ I2 q) fun us s3 ⟨vs, H2, I3, rv, q2⟩ => ⟨I3.kIn, ?_⟩) hst hpl
  exact run_fn (dvs := []) (ds := []) F hr hb .nil hx I3 rv (by simpa using q2)
/-- C.m(..), m static -/
structure CalS (P : Program) (w : World) (K : PySem.W.Frag) (mg : Str → Option Value) (base : Heap) (k : Nat) (C : Addr) (mn : Str) (ps : List Str) (m : FM) : Prop where
  ex : ∃ (f : Addr) (fd : FuncData), FnOk P w K mg base (L2.CX P w) k f fd ps (spV K w m ps.length) ∧ SMet K C mn f ∧ Binds K fd ps []
theorem vx_sC {j : Nat} {x : Str} {p : Pos} {fm : FM} {ms : Ex (List W)} (fl : List Bool) (T : ClsT X.K X.mg C x) (c : CalS X.prog X.w X.K X.mg X.base j C m ps fm) (hr : Room k X.A) (hj : j ≤ k) (hg : Gl X x) (ha : VA X Wx (e :: es) ms) (hfl : fl.length = ps.length := by rfl) (hdb : (x == ("__debug__" : Str)) = false := by decide)
    (hst : starEach (e :: es) X.env = (false, eval e X.env) :: starEach es X.env := by rfl) (hpl : (backTo pos (starEach es X.env)).any (·.1) = false := by rfl)
    (ht : eval (.Call (.Attribute (.Name x p) m apos) (e :: es) [] pos) X.env = (do
      let ov ← eval (.Name x p) X.env
      standAt apos.atName
      let (f, first) ← holding [ov] (getMethod ov m pl)
      callWith pos f first (backTo pos (starEach (e :: es) X.env)) (backToKw pos (keywordEach [] X.env))) := by rfl) : VX X Wx (.Call (.Attribute (.Name x p) m apos) (e :: es) [] pos) (eLend fm fl ms) := by
  obtain ⟨t, a1, a2⟩ := ha.ex
  obtain ⟨f, fd, h1, h2, h3⟩ := c.ex
  refine vx_pe (pe_smeth (pe_glob (v := .ref C) hg T.mgC rfl hdb) h2 h1 (hr.mono hj) h3 passL a1 hst hpl ht) fun B Hs ρ sl rt σ H Q R S q => ?_
  refine ⟨rfl, a2 B Hs ρ sl rt σ H _ R S (PEx.bind q fun ws rt1 vs Hs1 ρ1 H1 e1 R1 d1 p1 => ?_)⟩
  by_cases hl : ws.length = fl.length
  · rw [if_pos hl] at p1
    exact callLn_ok R1 d1 (hl.trans hfl) p1
  · rw [if_neg hl] at p1
    exact p1.elim
end
end VE

set_option maxRecDepth 100000
set_option maxHeartbeats 1000000
/-! an expression that only reads what stays live; a star in a display; min(xs, default=d) -/
namespace VE
open PySem PySem.Spec L2
def borSl (rt : List O) (sl : Sl) : Sl := sl.map fun o => o.bind (lend1 [] rt false)
/-- all that is live is read alone -/
def eBor (m : Ex W) : Ex W := fun sl rt => bckR [] rt (m (borSl rt sl) [])
def seqO (x : W) (rt : List O) : Option (List D) := match tpOf x with
  | some xs => some xs
  | none => lsOf x rt
def starF (k : List O → Ou (List W)) (rt : List O) : Option (List D) → Ou (List W)
  | some xs => (k rt).bind fun ys rt => .ok (xs.map .d ++ ys) rt
  | none => .no
def aStar (m : Ex W) (ms : Ex (List W)) : Ex (List W) := fun sl rt => (m sl rt).bind fun x rt => starF (ms sl) rt (seqO x rt)
section
variable {X : Cx} {Wx : WX} {e : Expr} {es : List Expr} {m : Ex W} {ms : Ex (List W)} {p : Pos}
theorem bor_ok {te : TE} (a2 : ∀ (B : Bnd) (Hs : Hp) (ρ : List Addr) (sl : Sl) (rt : List O) (σ : L2.St) (H : Hp) (Q : VK), Rel X.K X.w B Hs ρ rt H → SlD X.K X.w Hs ρ σ sl → PE1 X.K X.w B Wx Hs ρ σ (m sl rt) Q → te σ H Q)
    (B : Bnd) (Hs : Hp) (ρ : List Addr) (sl : Sl) (rt : List O) (σ : L2.St) (H : Hp) (Q : VK) (R : Rel X.K X.w B Hs ρ rt H) (S : SlD X.K X.w Hs ρ σ sl) (p : PE1 X.K X.w B Wx Hs ρ σ (eBor m sl rt) Q) : te σ H Q := by
  obtain ⟨M, Hs2, s2, dn, R1, lv⟩ := R.borrow (js := []) .nil (fun _ h => by cases h) (fun _ h => by cases h) (fun _ _ _ _ => by simp)
  have S1 : SlD X.K X.w Hs2 (pk [] ρ 0) σ (borSl rt sl) := by
    refine ⟨by rw [S.len]; simp [borSl], fun i x e => ?_⟩
    unfold borSl at e
    rw [List.getElem?_map] at e
    cases h1 : sl[i]? with
    | none => rw [h1] at e; cases e
    | some o =>
      rw [h1] at e
      cases o with
      | none => simp at e
      | some w =>
        have e : lend1 [] rt false w = some x := by simpa using e
        obtain ⟨v, q1, q2⟩ := S.at_ i w h1
        refine ⟨v, q1, ?_⟩
        cases w with
        | d y =>
          simp [lend1] at e; subst e
          exact Den.mono s2 (show Den X.K X.w Hs v y from q2)
        | r n =>
          rw [lend1] at e
          cases h3 : rd rt n with
          | none => rw [h3] at e; cases e
          | some o =>
            rw [h3, lendO] at e
            split at e
            · rename_i hc
              have hc := Bool.and_eq_true_iff.mp hc
              cases e
              exact dn n v o q2 h3 (by simpa using hc.1) (by simp)
            · cases e
  refine a2 ⟨H, Hs2, M⟩ Hs2 _ (borSl rt sl) _ σ H Q R1 S1 ?_
  show PE1 X.K X.w _ Wx Hs2 (pk [] ρ 0) σ (m (borSl rt sl) []) Q
  unfold eBor at p
  cases hm : m (borSl rt sl) [] with
  | no => rw [hm] at p; exact p.elim
  | ex c fs rs => rw [hm] at p; exact p.elim
  | ok x rs =>
    rw [hm] at p
    simp only [bckR] at p
    split at p
    · rename_i hc
      have hc := Bool.and_eq_true_iff.mp hc
      have hi := Bool.and_eq_true_iff.mp hc.2
      intro v Hs' ρ' H' e2 R2 d2
      obtain ⟨ss, _⟩ := e2
      obtain ⟨Hs1, s1, tp, R3⟩ := lv Hs' ρ' rs H' (nv_of hc.1) (fun o ho => List.all_eq_true.mp hi.1 o ho) ss R2
      refine p v Hs1 (ρ ++ ρ') H' ⟨s1, ρ', rfl⟩ R3 ?_
      cases x with
      | d x => exact Den.thin tp (show Den X.K X.w Hs' v x from d2) hi.2
      | r j =>
        obtain ⟨a, ha, rfl⟩ := d2
        refine ⟨a, ?_, rfl⟩
        show (ρ ++ ρ')[rt.length + (j - 0)]? = some a
        rw [List.getElem?_append_right (by rw [R.len]; omega), R.len, Nat.sub_zero, Nat.add_sub_cancel_left]
        exact ha
    · exact p.elim
theorem vx_bor (h : VX X Wx e m) : VX X Wx e (eBor m) := by
  obtain ⟨te, a1, a2⟩ := h.ex
  exact ⟨⟨te, a1, bor_ok a2⟩⟩
theorem wds_map {K : PySem.W.Frag} {w : World} {Hs : Hp} {ρ : List Addr} : ∀ {vs : List V} {xs : List D}, Dens K w Hs vs xs → WDs K w Hs ρ vs (xs.map .d)
  | _, _, .nil => .nil
  | _, _, .cons h r => .cons h (wds_map r)
theorem wds_app {K : PySem.W.Frag} {w : World} {Hs : Hp} {ρ : List Addr} : ∀ {vs us : List V} {xs ys : List W}, WDs K w Hs ρ vs xs → WDs K w Hs ρ us ys → WDs K w Hs ρ (vs ++ us) (xs ++ ys)
  | _, _, _, _, .nil, h => h
  | _, _, _, _, .cons h r, h2 => .cons h (wds_app r h2)
theorem Dens.monoS {K : PySem.W.Frag} {w : World} {H H' : Hp} (s : Same H H') {vs : List V} {xs : List D} (h : Dens K w H vs xs) : Dens K w H' vs xs := h.mono s
/-- *e in a display or a call -/
theorem va_star (h1 : VX X Wx e m) (h2 : VA X Wx es ms) (hs : starEach (.Starred e p :: es) X.env = (true, eval e X.env) :: starEach es X.env := by rfl) : VA X Wx (.Starred e p :: es) (aStar m ms) := by
  obtain ⟨t, a1, a2⟩ := h1.ex
  obtain ⟨u, b1, b2⟩ := h2.ex
  refine ⟨_, StX.pa_star a1 b1 hs, fun B Hs ρ sl rt σ H Q R S p => ?_⟩
  refine a2 B Hs ρ sl rt σ H _ R S (PEx.bind p fun x rt1 v Hs1 ρ1 H1 e1 R1 d1 p1 => ?_)
  cases hq : seqO x rt1 with
  | none => rw [hq] at p1; exact p1.elim
  | some xs =>
    rw [hq] at p1
    have hh : ∃ a vs, v = .ref a ∧ (SqT X.K H1 a vs ∨ SqL X.K H1 a vs) ∧ Dens X.K X.w Hs1 vs xs := by
      unfold seqO at hq
      cases h1 : tpOf x with
      | some zs =>
        rw [h1] at hq
        cases hq
        obtain ⟨a, vs, e, _, h2, h3⟩ := tpOf_ok R1 d1 h1
        exact ⟨a, vs, e, .inl h2, h3⟩
      | none =>
        rw [h1] at hq
        obtain ⟨a, vs, e, h2, h3⟩ := lsOf_ok R1 d1 hq
        exact ⟨a, vs, e, .inr (SqL.of h2), h3⟩
    obtain ⟨a, vs, rfl, g1, g2⟩ := hh
    refine ⟨a, vs, rfl, g1, ?_⟩
    refine b2 B Hs1 ρ1 sl rt1 σ H1 _ R1 (S.mono e1) (PEx.bind p1 fun ys rt2 us Hs2 ρ2 H2 e2 R2 d2 p2 => ?_)
    exact p2 _ Hs2 ρ2 H2 Ext.refl R2 (wds_app (wds_map (g2.mono e2.same)) d2)
end
section
variable {X : Cx} {Wx : WX} {elt tg iter : Expr} {ifs : List Expr} {scope : Scope} {own : List (Str × Nat)} {pos : Pos} {it : Ex (List D)} {g : Gx} {mt : Ex Bool} {me : Ex W}
theorem vs_setCompB (vs : List Nat) {i : Nat} {y : Str} {py spos : Pos} (hc : X.calm = true) (hN : X.N.Nodup) (hy : X.N[i]? = some y) (hyl : X.env.scope.names.lookup y = some .local)
    (hsw : swapsWith (.ListComp elt [⟨tg, iter, ifs, 0⟩] scope pos) (some (.Name y py)) spos.line X.env = pure true) (hi : VI X Wx tg iter it) (ok : BlkOk X.N X.env.scope scope own) (hv : own.map (·.2) = vs := by rfl)
    (hg : ∀ (s : Shared) (H : Hp) (C : Addr) (cl : List (Str × Addr)) (fp : List Addr), VGc (X.blk s H scope (compEnvC scope cl C X.env) fp) vs tg g) (ht : ∀ (s : Shared) (H : Hp) (C : Addr) (cl : List (Str × Addr)) (fp : List Addr), VTs (X.blk s H scope (compEnvC scope cl C X.env) fp) WF ifs mt)
    (he : ∀ (s : Shared) (H : Hp) (C : Addr) (cl : List (Str × Addr)) (fp : List Addr), VX (X.blk s H scope (compEnvC scope cl C X.env) fp) WF elt me) (hs : ∀ x, foldedSetIterable iter X.env x = pure x := by intro _; rfl) :
    VS X Wx (.Assign [.Name y py] (.ListComp elt [⟨tg, iter, ifs, 0⟩] scope pos) spos) (sSet i (eBor (eComp vs it g mt me))) := by
  subst hv
  obtain ⟨wi, i1, i2⟩ := hi.ex
  refine ⟨_, ps_setLc (g := gM X.K X.w _ g) (tt := tMT X.K X.w WF mt) (te := tM X.K X.w WF me) hc hN hy hyl hsw i1 ok (fun s H C cl fp => (hg s H C cl fp).pg) (fun s H C cl fp => (ht s H C cl fp).pts) (fun s H C cl fp => (he s H C cl fp).pe) hs, fun B Hs ρ sl rt σ H D R S p => ?_⟩
  refine bor_ok (comp_ok i2 _) B Hs ρ sl rt σ H _ R S (PEx.seq S p fun x rt1 v Hs1 ρ1 H1 e1 R1 d1 p1 => ?_)
  exact p1 Hs1 ρ1 _ H1 Ext.refl R1 ((S.mono e1).set i d1) (by simp)
end
section
variable {X : Cx} {Wx : WX} {elt tg iter : Expr} {ifs : List Expr} {scope : Scope} {own : List (Str × Nat)} {pos : Pos} {it : Ex (List D)} {g : Gx} {mt : Ex Bool} {me : Ex W}
theorem vs_setCompNB (vs : List Nat) {i : Nat} {y : Str} {py spos : Pos} (hc : X.calm = true) (hN : X.N.Nodup) (hy : X.N[i]? = some y) (hyl : X.env.scope.names.lookup y = some .local)
    (hsw : swapsWith (.ListComp elt [⟨tg, iter, ifs, 0⟩] scope pos) (some (.Name y py)) spos.line X.env = pure true) (hi : VI X Wx tg iter it) (ok : BlkOk X.N X.env.scope scope own) (hv : own.map (·.2) = vs := by rfl)
    (hg : ∀ (s : Shared) (H : Hp) (C : Addr) (cl : List (Str × Addr)) (fp : List Addr), VGc (X.blk s H scope (compEnvC scope cl C X.env) fp) vs tg g) (ht : ∀ (s : Shared) (H : Hp) (C : Addr) (cl : List (Str × Addr)) (fp : List Addr), VTs (X.blk s H scope (compEnvC scope cl C X.env) fp) WF ifs mt)
    (he : ∀ (s : Shared) (H : Hp) (C : Addr) (cl : List (Str × Addr)) (fp : List Addr), VX (X.blk s H scope (compEnvC scope cl C X.env) fp) WF elt me) (hs : ∀ x, foldedSetIterable iter X.env x = pure x := by intro _; rfl) :
    VS X Wx (.Assign [.Name y py] (.ListComp elt [⟨tg, iter, ifs, 0⟩] scope pos) spos) (sSet i (eBor (eCompN vs it g mt me))) := by
  subst hv
  obtain ⟨wi, i1, i2⟩ := hi.ex
  refine ⟨_, ps_setLc (g := gM X.K X.w _ g) (tt := tMT X.K X.w WF mt) (te := tM X.K X.w WF me) hc hN hy hyl hsw i1 ok (fun s H C cl fp => (hg s H C cl fp).pg) (fun s H C cl fp => (ht s H C cl fp).pts) (fun s H C cl fp => (he s H C cl fp).pe) hs, fun B Hs ρ sl rt σ H D R S p => ?_⟩
  refine bor_ok (compN_ok i2 _) B Hs ρ sl rt σ H _ R S (PEx.seq S p fun x rt1 v Hs1 ρ1 H1 e1 R1 d1 p1 => ?_)
  exact p1 Hs1 ρ1 _ H1 Ext.refl R1 ((S.mono e1).set i d1) (by simp)
end
end VE
namespace L2
open PySem PySem.Spec PyProof.Rows PySem.W
theorem minOf_int : ∀ (xs : List Int) (x : Int), minOf x xs ∈ x :: xs ∧ ∀ y ∈ x :: xs, minOf x xs ≤ y
  | [], x => ⟨List.mem_cons_self .., fun y hy => by rw [List.mem_singleton.mp hy]; exact Int.le_refl _⟩
  | z :: xs, x => by
    have ih := minOf_int xs (if DatumOrd.lt z x = true then z else x)
    have e : minOf x (z :: xs) = minOf (if DatumOrd.lt z x = true then z else x) xs := rfl
    have hl : DatumOrd.lt z x = decide (z < x) := rfl
    rw [e]
    by_cases h : z < x
    · rw [hl, if_pos (by simpa using h)] at ih ⊢
      refine ⟨List.mem_cons_of_mem _ ih.1, fun y hy => ?_⟩
      rcases List.mem_cons.mp hy with rfl | hy
      · have := ih.2 z (List.mem_cons_self ..); omega
      · exact ih.2 y hy
    · rw [hl, if_neg (by simpa using h)] at ih ⊢
      refine ⟨?_, fun y hy => ?_⟩
      · rcases List.mem_cons.mp ih.1 with h1 | h1
        · rw [h1]; exact List.mem_cons_self ..
        · exact List.mem_cons_of_mem _ (List.mem_cons_of_mem _ h1)
      · rcases List.mem_cons.mp hy with rfl | hy
        · exact ih.2 _ (List.mem_cons_self ..)
        · rcases List.mem_cons.mp hy with rfl | hy
          · have := ih.2 x (List.mem_cons_self ..); omega
          · exact ih.2 y (List.mem_cons_of_mem _ hy)
def rMinD (K : PySem.W.Frag) : List V → List V → Hp → VK → Prop := fun vs zs H Q => ∃ (a : Addr) (ns : List Int) (d : V), vs = [V.ref a] ∧ zs = [d] ∧ (SqL K H a (ns.map V.int) ∨ SqT K H a (ns.map V.int)) ∧ (ns = [] → Q d H) ∧ ∀ m, m ∈ ns → (∀ y ∈ ns, m ≤ y) → Q (.int m) H
section
variable {X : Cx}
theorem cr_minD (hcl : X.calm = true) (hu : X.A.units + 64 < cLine) : CallRK X (.builtin "min") [Str.ofString "default"] (rMinD X.K) := by
  intro pins s σ H vs zs us ws Q I r rz h
  obtain ⟨a, ns, d, rfl, rfl, hs, q0, q1⟩ := h
  obtain rfl := Vals.ref1 r
  obtain ⟨w1, rfl, e1⟩ := vals1 rz
  have fin : ∀ (its : Array Value) (y : Int) (ys : List Int) (i : Nat) v h' tk, ns = y :: ys → its[i]? = some v → Holds h' v (minOf y ys) → (∀ b o, s.heap.get? b = some o → h'.get? b = some o) → EP X pins σ Q v { s with heap := h', toks := tk } := by
    intro its y ys i v h' tk e _ hh hk
    subst e
    obtain ⟨as, hr⟩ := hh
    have hr' : Reads h' v (.int (minOf y ys)) as := hr
    cases hr' with
    | int _ t => exact ⟨.int _, H, I.kept hk, ⟨t, rfl⟩, q1 _ (minOf_int ys y).1 (minOf_int ys y).2⟩
  have room : X.A.units + 1 + Datum.depth Int < cLine := by
    have : Datum.depth Int = 0 := rfl
    omega
  rcases hs with hs | hs
  · obtain ⟨its, rv, hl, hz⟩ := I.list hs
    obtain ⟨as, rr⟩ := Dp.readsAll I (ns.map PyData.int) _ its (dpAll_ints ns) rv
    exact min_list_datum_default (α := Int) (vs := its.toArray) (xs := ns) (I.ok.hd hcl) hl.isList ⟨as, by show ReadsAll s.heap _ (ns.map PyData.int) as; simpa using rr⟩ room (fun e h' tk hk => ⟨d, H, I.kept hk, e1, q0 e⟩) (fin its.toArray)
  · obtain ⟨its, rv, hl, hz⟩ := I.tuple hs
    obtain ⟨as, rr⟩ := Dp.readsAll I (ns.map PyData.int) _ its (dpAll_ints ns) rv
    exact min_tuple_datum_default (α := Int) (vs := its.toArray) (xs := ns) (I.ok.hd hcl) (show Heap.IsTuple s.heap a its.toArray from hl) ⟨as, by show ReadsAll s.heap _ (ns.map PyData.int) as; simpa using rr⟩ room (fun e h' tk hk => ⟨d, H, I.kept hk, e1, q0 e⟩) (fin its.toArray)
end
end L2
namespace VE
open PySem PySem.Spec L2
def mnDO (z : W) (rt : List O) : Option (List Int) → Ou W
  | some [] => .ok z rt
  | some (n :: ns) => .ok (.d (.int (minL (n :: ns)))) rt
  | none => .no
def mnDL (z : W) (rt : List O) : List W → Ou W
  | [x] => mnDO z rt (sqI x rt)
  | _ => .no
def eMinD (ma : Ex (List W)) (md : Ex W) : Ex W := fun sl rt => (ma sl rt).bind fun xs rt => (md sl rt).bind fun z rt => mnDL z rt xs
section
variable {X : Cx} {Wx : WX} {a d : Expr} {ma : Ex (List W)} {md : Ex W} {p pos kpos : Pos}
theorem vx_minD (hcl : X.calm = true) (hu : X.A.units + 64 < cLine) (hg : Gl X "min") (hm : X.mg "min" = none) (ha : VA X Wx [a] ma) (hd : VX X Wx d md)
    (he : backTo pos (starEach [a] X.env) = (false, eval a X.env) :: backTo pos (starEach [] X.env) := by rfl) (hpl : (backTo pos (starEach [a] X.env)).any (·.1) = false := by rfl)
    (hall : (backToKw pos (keywordEach [⟨some (Str.ofString "default"), d, kpos⟩] X.env)).all (·.1.isSome) = true := by rfl) (hnone : (backToKw pos (keywordEach [⟨some (Str.ofString "default"), d, kpos⟩] X.env)).any (·.1.isNone) = false := by rfl)
    (hks : (backToKw pos (keywordEach [⟨some (Str.ofString "default"), d, kpos⟩] X.env)).filterMap (·.1) = [Str.ofString "default"] := by rfl) :
    VX X Wx (.Call (.Name "min" p) [a] [⟨some (Str.ofString "default"), d, kpos⟩] pos) (eMinD ma md) := by
  obtain ⟨t, a1, a2⟩ := ha.ex
  obtain ⟨u, b1, b2⟩ := hd.ex
  refine vx_pe (pe_callBK (cr_minD hcl hu) hg hm (by rfl) a1 (pk_cons b1 pk_nil) (by decide) (by decide) he hpl hall hnone hks) fun B Hs ρ sl rt σ H Q R S p => ?_
  refine a2 B Hs ρ sl rt σ H _ R S (PEx.bind p fun xs rt1 vs Hs1 ρ1 H1 e1 R1 d1 p1 => ?_)
  show u σ H1 _
  refine b2 B Hs1 ρ1 sl rt1 σ H1 _ R1 (S.mono e1) (PEx.bind p1 fun z rt2 vz Hs2 ρ2 H2 e2 R2 d2 p2 => ?_)
  unfold mnDL at p2
  split at p2
  · rename_i x
    obtain ⟨v, rfl, dx⟩ := wds1 (d1.mono e2)
    cases e : sqI x rt2 with
    | none => rw [e] at p2; exact p2.elim
    | some ns =>
      rw [e] at p2
      obtain ⟨a0, rfl, hs⟩ := sqI_ok R2 dx e
      refine ⟨a0, ns, vz, rfl, rfl, hs, fun hn => ?_, fun m hm hle => ?_⟩
      · subst hn
        exact p2 _ Hs2 ρ2 H2 Ext.refl R2 d2
      · cases ns with
        | nil => cases hm
        | cons n ns =>
          have h1 := minL_mem (ns := n :: ns) (by simp)
          have h2 := hle _ h1
          have h3 := minL_le hm
          have h4 : m = minL (n :: ns) := by omega
          subst h4
          exact p2 _ Hs2 ρ2 H2 Ext.refl R2 (.int _)
  · exact p2.elim
end
end VE

set_option maxRecDepth 100000
set_option maxHeartbeats 1000000
/-! min of a list of pairs; tuple(range(n)) -/
namespace L2
open PySem PySem.Spec PyProof.Rows PySem.W
theorem minOf_pair : ∀ (xs : List (Int × Int)) (x : Int × Int), minOf x xs ∈ x :: xs ∧ ∀ y ∈ x :: xs, (minOf x xs).1 < y.1 ∨ ((minOf x xs).1 = y.1 ∧ (minOf x xs).2 ≤ y.2)
  | [], x => ⟨List.mem_cons_self .., fun y hy => by rw [List.mem_singleton.mp hy]; exact .inr ⟨rfl, Int.le_refl _⟩⟩
  | z :: xs, x => by
    have ih := minOf_pair xs (if DatumOrd.lt z x = true then z else x)
    have e : minOf x (z :: xs) = minOf (if DatumOrd.lt z x = true then z else x) xs := rfl
    have hl : (DatumOrd.lt z x = true) ↔ (z.1 < x.1 ∨ (z.1 = x.1 ∧ z.2 < x.2)) := by
      show ((if z.1 = x.1 then decide (z.2 < x.2) else decide (z.1 < x.1)) = true) ↔ _
      by_cases h : z.1 = x.1
      · rw [if_pos h]; simp [h]
      · rw [if_neg h]; simp [h]
    rw [e]
    by_cases h : z.1 < x.1 ∨ (z.1 = x.1 ∧ z.2 < x.2)
    · rw [if_pos (hl.mpr h)] at ih ⊢
      refine ⟨List.mem_cons_of_mem _ ih.1, fun y hy => ?_⟩
      rcases List.mem_cons.mp hy with rfl | hy
      · have := ih.2 z (List.mem_cons_self ..); omega
      · exact ih.2 y hy
    · rw [if_neg (fun q => h (hl.mp q))] at ih ⊢
      refine ⟨?_, fun y hy => ?_⟩
      · rcases List.mem_cons.mp ih.1 with h1 | h1
        · rw [h1]; exact List.mem_cons_self ..
        · exact List.mem_cons_of_mem _ (List.mem_cons_of_mem _ h1)
      · rcases List.mem_cons.mp hy with rfl | hy
        · exact ih.2 _ (List.mem_cons_self ..)
        · rcases List.mem_cons.mp hy with rfl | hy
          · have := ih.2 x (List.mem_cons_self ..); omega
          · exact ih.2 y (List.mem_cons_of_mem _ hy)
theorem dpAll_pairs {K : PySem.W.Frag} {H : Hp} : ∀ (as : List Addr) (ps : List (Int × Int)), as.length = ps.length → (∀ (i : Nat) (b : Addr) (p : Int × Int), as[i]? = some b → ps[i]? = some p → H b = some (.tup [.int p.1, .int p.2])) → DpAll K H (as.map V.ref) (ps.map Datum.toD)
  | [], [], _, _ => .nil
  | [], _ :: _, h, _ => by simp at h
  | _ :: _, [], h, _ => by simp at h
  | b :: as, p :: ps, h, hat => by
    refine .cons ?_ (dpAll_pairs as ps (by simpa using h) fun i b p e1 e2 => hat (i + 1) b p (by simpa using e1) (by simpa using e2))
    have := hat 0 b p rfl rfl
    exact .tup (.inl (.inl this)) (.cons (.int _) (.cons (.int _) .nil))
def rMinP (K : PySem.W.Frag) : List V → Hp → VK → Prop := fun vs H Q => ∃ (a : Addr) (as : List Addr) (ps : List (Int × Int)), vs = [V.ref a] ∧ SqL K H a (as.map V.ref) ∧ as.length = ps.length ∧ ps ≠ [] ∧
  (∀ (i : Nat) (b : Addr) (p : Int × Int), as[i]? = some b → ps[i]? = some p → H b = some (.tup [.int p.1, .int p.2])) ∧
  ∀ (i : Nat) (b : Addr) (p : Int × Int), as[i]? = some b → ps[i]? = some p → (∀ y ∈ ps, p.1 < y.1 ∨ (p.1 = y.1 ∧ p.2 ≤ y.2)) → Q (.ref b) H
section
variable {X : Cx}
theorem cr_minP (hcl : X.calm = true) (hu : X.A.units + 64 < cLine) : CallR X (.builtin "min") (rMinP X.K) := by
  intro pins s σ H vs us Q I r h
  obtain ⟨a, as, ps, rfl, hs, hlen, hne, hat, q⟩ := h
  obtain rfl := Vals.ref1 r
  have room : X.A.units + 1 + Datum.depth (Int × Int) < cLine := by
    have : Datum.depth (Int × Int) = 1 := rfl
    omega
  cases ps with
  | nil => exact absurd rfl hne
  | cons x xs =>
    obtain ⟨its, rv, hl, hz⟩ := I.list hs
    have hd : DpAll X.K H (as.map V.ref) ((x :: xs).map Datum.toD) := dpAll_pairs as (x :: xs) hlen hat
    obtain ⟨bs, rr⟩ := Dp.readsAll I ((x :: xs).map Datum.toD) _ its hd rv
    refine min_list_datum (α := Int × Int) (vs := its.toArray) (x := x) (xs := xs) (I.ok.hd hcl) hl.isList ⟨bs, by simpa using rr⟩ room fun i v h' tk hi hh hk => ?_
    rw [List.getElem?_toArray] at hi
    have hil := (List.getElem?_eq_some_iff.mp hi).1
    have hia : i < as.length := by rw [← List.length_map (f := V.ref), rv.length]; exact hil
    have e1 : (as.map V.ref)[i]? = some (V.ref as[i]) := by rw [List.getElem?_map, List.getElem?_eq_getElem hia]; rfl
    obtain ⟨u, e2, ru⟩ := Vals.get rv e1
    rw [hi] at e2
    cases e2
    obtain rfl : v = Value.ref as[i] := ru
    have hip : i < (x :: xs).length := by omega
    have e3 : (x :: xs)[i]? = some (x :: xs)[i] := List.getElem?_eq_getElem hip
    have e4 : as[i]? = some as[i] := List.getElem?_eq_getElem hia
    have ht := hat i _ _ e4 e3
    have dp : Dp X.K H (V.ref as[i]) (Datum.toD (x :: xs)[i]) := .tup (.inl (.inl ht)) (.cons (.int _) (.cons (.int _) .nil))
    obtain ⟨cs, r1⟩ := Dp.reads I (Datum.toD (x :: xs)[i]) _ _ dp rfl
    obtain ⟨ds, r2⟩ := hh
    have r3 := Reads.keeps hk r1
    have e5 := PySem.SeqAt.Reads.unique _ _ _ _ _ (by rfl) r3 r2
    have e6 : (x :: xs)[i] = minOf x xs := by
      have e5 : PyData.tuple [.int (x :: xs)[i].1, .int (x :: xs)[i].2] = PyData.tuple [.int (minOf x xs).1, .int (minOf x xs).2] := e5
      injection e5 with e5
      injection e5 with e7 e8
      injection e8 with e8 _
      injection e7 with e7
      injection e8 with e8
      exact Prod.ext e7 e8
    exact ⟨.ref as[i], H, I.kept hk, rfl, q i _ _ e4 e3 (by rw [e6]; exact (minOf_pair xs x).2)⟩
end
end L2
namespace VE
open PySem PySem.Spec L2
def minP : List (Int × Int) → Int × Int
  | [] => (0, 0)
  | x :: xs => PySem.W.minOf x xs
theorem minP_ok {ps : List (Int × Int)} (h : ps ≠ []) : minP ps ∈ ps ∧ ∀ y ∈ ps, (minP ps).1 < y.1 ∨ ((minP ps).1 = y.1 ∧ (minP ps).2 ≤ y.2) := by
  cases ps with
  | nil => exact absurd rfl h
  | cons x xs => exact minOf_pair xs x
def mnPO (rt : List O) : Option (List (Int × Int)) → Ou W
  | some (p :: ps) => .ok (.d (prD (minP (p :: ps)))) rt
  | _ => .no
def bMinP (xs : List W) (rt : List O) : Ou W := match xs with
  | [x] => mnPO rt ((lsOf x rt).bind prOf)
  | _ => .no
section
variable {X : Cx}
theorem cv_minP (hcl : X.calm = true) (hu : X.A.units + 64 < cLine) : CallV X (.builtin "min") bMinP := by
  refine ⟨_, cr_minP hcl hu, fun Wx B Hs ρ rt σ H Q xs us R d p => ?_⟩
  unfold bMinP at p
  split at p
  · rename_i x
    obtain ⟨v, rfl, d1⟩ := wds1 d
    cases e1 : lsOf x rt with
    | none => rw [e1] at p; exact p.elim
    | some ds =>
      rw [e1] at p
      simp only [Option.bind_some] at p
      cases e2 : prOf ds with
      | none => rw [e2] at p; exact p.elim
      | some ps =>
        rw [e2] at p
        cases ps with
        | nil => exact p.elim
        | cons n ns =>
          obtain ⟨a, vs, rfl, h1, h2⟩ := lsOf_ok R d1 e1
          obtain ⟨as, rfl, hl, ht⟩ := prs_ok h2 e2
          refine ⟨a, as, n :: ns, rfl, SqL.of h1, hl, by simp, fun i b q e3 e4 => R.same _ _ (ht i b q e3 e4), fun i b q e3 e4 hle => ?_⟩
          have hm := minP_ok (ps := n :: ns) (by simp)
          have hq : q = minP (n :: ns) := by
            have h3 := hle _ hm.1
            have h4 := hm.2 q (List.mem_of_getElem? e4)
            exact Prod.ext (by omega) (by omega)
          subst hq
          exact p _ Hs ρ H Ext.refl R (.tup (ht i b _ e3 e4) (.cons (.int _) (.cons (.int _) .nil)))
  · exact p.elim
end
section
variable {X : Cx} {Wx : WX} {a b c e : Expr} {pos p p2 : Pos} {ma mb mc m : Ex W}
/-- tuple(range(n)) -/
def eTRg (m : Ex W) : Ex W := fun sl rt => (m sl rt).bind fun x rt => match x with
  | .d (.int n) => if n ≤ 16000000 ∧ 0 ≤ n then .ok (.d (.tup (rangeD 0 n.toNat))) rt else .no
  | _ => .no
theorem vx_trg (hc : X.calm = true) (hl : X.mg "tuple" = none) (hr : X.mg "range" = none) (ha : VX X Wx a ma) (g1 : Gl X "tuple" := by rfl) (g2 : Gl X "range" := by rfl)
    (na : starEach [a] X.env = (false, eval a X.env) :: starEach [] X.env := by rfl) (nb : starEach [.Call (.Name "range" p2) [a] [] p] X.env = (false, eval (.Call (.Name "range" p2) [a] [] p) X.env) :: starEach [] X.env := by rfl) {p3 p4 : Pos} :
    VX X Wx (.Call (.Name "tuple" p3) [.Call (.Name "range" p2) [a] [] p] [] p4) (eTRg ma) := by
  obtain ⟨t, a1, a2⟩ := ha.ex
  refine vx_pe (pe_tupRg hc g1 hl (prg_1 g2 hr a1 na) nb) fun B Hs ρ sl rt σ H Q R S p => ?_
  refine a2 B Hs ρ sl rt σ H _ R S (PEx.bind p fun x rt1 v Hs1 ρ1 H1 e1 R1 d1 p1 => ?_)
  split at p1
  · rename_i n
    cases d1
    split at p1
    · rename_i h
      refine ⟨n, rfl, RgOk.of_le (by omega) (by omega) (by omega) h.2, ?_⟩
      have := dens_rg (K := X.K) (w := X.w) (H := Hs1) 0 (List.range n.toNat)
      refine new_tup (xs := rangeD 0 n.toNat) R1 ?_ p1
      unfold rgV rangeD
      rw [Int.sub_zero]
      exact this
    · exact p1.elim
  · exact p1.elim
end
end VE

set_option maxRecDepth 100000
set_option maxHeartbeats 1000000
namespace VE
open PySem PySem.Spec L2
/-! ### the operations, by cases: what the simp set of the wp layer reads -/
section
variable {rt : List O} {n m : Nat} {p : List Sel} {xs ys : List D} {os : List O} {i j : Int} {s z : Str} {b c : Bool} {kvs : List (Key × D)} {kos : List (Key × O)} {tvs : List (List Key × D)} {tos : List (List Key × O)} {C : Addr} {fs : List (Str × O)} {x y : D} {w u : W} {k : D} {o : O}
/-- a number, read -/
def rdO (rt : List O) : Option O → Option O
  | some (.vw n p) => (rt[n]?).bind fun o => getP o p
  | o => o
theorem rd_c : rd rt n = rdO rt rt[n]? := rfl
theorem rdO_lst : rdO rt (some (.lst xs)) = some (.lst xs) := rfl
theorem rdO_d : rdO rt (some (.d x)) = some (.d x) := rfl
theorem rdO_dk : rdO rt (some (.dk kvs)) = some (.dk kvs) := rfl
theorem rdO_dt : rdO rt (some (.dt tvs)) = some (.dt tvs) := rfl
theorem rdO_nst : rdO rt (some (.nst os)) = some (.nst os) := rfl
theorem rdO_ndk : rdO rt (some (.ndk kos)) = some (.ndk kos) := rfl
theorem rdO_ndt : rdO rt (some (.ndt tos)) = some (.ndt tos) := rfl
theorem rdO_ins : rdO rt (some (.ins C fs)) = some (.ins C fs) := rfl
theorem rdO_vw : rdO rt (some (.vw n p)) = (rt[n]?).bind fun o => getP o p := rfl
def wrV (rt : List O) (n : Nat) (p : List Sel) (y : O) : Option O → List O
  | some o => rt.set n (setP o p y)
  | none => rt
def wrO (rt : List O) (k : Nat) (y : O) : Option O → List O
  | some (.vw n p) => wrV rt n p y rt[n]?
  | _ => rt.set k y
theorem wr_c : wr rt n o = wrO rt n o rt[n]? := by
  unfold wr wrO
  rcases rt[n]? with _ | o <;> try rfl
theorem wrO_lst : wrO rt n o (some (.lst xs)) = rt.set n o := rfl
theorem wrO_d : wrO rt n o (some (.d x)) = rt.set n o := rfl
theorem wrO_dk : wrO rt n o (some (.dk kvs)) = rt.set n o := rfl
theorem wrO_dt : wrO rt n o (some (.dt tvs)) = rt.set n o := rfl
theorem wrO_nst : wrO rt n o (some (.nst os)) = rt.set n o := rfl
theorem wrO_ndk : wrO rt n o (some (.ndk kos)) = rt.set n o := rfl
theorem wrO_ndt : wrO rt n o (some (.ndt tos)) = rt.set n o := rfl
theorem wrO_ins : wrO rt n o (some (.ins C fs)) = rt.set n o := rfl
theorem wrO_vw : wrO rt n o (some (.vw m p)) = wrV rt m p o rt[m]? := rfl
theorem wrV_some {q : O} : wrV rt n p o (some q) = rt.set n (setP q p o) := rfl
def lcO (k : Nat) : Option O → Nat × List Sel
  | some (.vw n p) => (n, p)
  | _ => (k, [])
theorem lc_c : locR rt n = lcO n rt[n]? := by
  unfold locR lcO
  rcases rt[n]? with _ | o <;> try rfl
theorem lcO_nst : lcO n (some (.nst os)) = (n, []) := rfl
theorem lcO_ndk : lcO n (some (.ndk kos)) = (n, []) := rfl
theorem lcO_ndt : lcO n (some (.ndt tos)) = (n, []) := rfl
theorem lcO_ins : lcO n (some (.ins C fs)) = (n, []) := rfl
theorem lcO_lst : lcO n (some (.lst xs)) = (n, []) := rfl
theorem lcO_d : lcO n (some (.d x)) = (n, []) := rfl
theorem lcO_dk : lcO n (some (.dk kvs)) = (n, []) := rfl
theorem lcO_dt : lcO n (some (.dt tvs)) = (n, []) := rfl
theorem lcO_vw : lcO n (some (.vw m p)) = (m, p) := rfl
/-- lists, tuples -/
def lsO : Option O → Option (List D)
  | some (.lst xs) => some xs
  | some (.d (.lst xs)) => some xs
  | _ => none
theorem lsOf_r : lsOf (.r n) rt = lsO (rd rt n) := rfl
theorem lsOf_lst : lsOf (.d (.lst xs)) rt = some xs := rfl
theorem lsOf_tup : lsOf (.d (.tup xs)) rt = none := rfl
theorem lsOf_ktup : lsOf (.d (.ktup xs)) rt = none := rfl
theorem lsOf_str : lsOf (.d (.str s)) rt = none := rfl
theorem lsOf_int : lsOf (.d (.int i)) rt = none := rfl
theorem lsO_lst : lsO (some (.lst xs)) = some xs := rfl
theorem lsO_dl : lsO (some (.d (.lst xs))) = some xs := rfl
theorem lsO_nst : lsO (some (.nst os)) = none := rfl
theorem lsO_dk : lsO (some (.dk kvs)) = none := rfl
theorem lsO_dt : lsO (some (.dt tvs)) = none := rfl
theorem lsO_ndk : lsO (some (.ndk kos)) = none := rfl
theorem lsO_ndt : lsO (some (.ndt tos)) = none := rfl
theorem tpOf_tup : tpOf (.d (.tup xs)) = some xs := rfl
theorem tpOf_ktup : tpOf (.d (.ktup xs)) = some xs := rfl
theorem tpOf_lst : tpOf (.d (.lst xs)) = none := rfl
theorem tpOf_str : tpOf (.d (.str s)) = none := rfl
theorem tpOf_r : tpOf (.r n) = none := rfl
/-- xs[i] -/
def okD (rt : List O) : Option D → Ou W
  | some z => .ok (.d z) rt
  | none => .no
theorem okD_some : okD rt (some x) = .ok (.d x) rt := rfl
def ixS (rt : List O) (n : Nat) (c : Sel) : Option O → Ou W
  | some z => stepV rt n c z
  | none => .no
theorem ixS_some : ixS rt n c' (some o) = stepV rt n c' o := rfl
def ixNs (rt : List O) (n : Nat) (xs : List O) : Option Nat → Ou W
  | some j => ixS rt n (.ix j) xs[j]?
  | none => .no
theorem ixNs_some {j : Nat} : ixNs rt n os (some j) = ixS rt n (.ix j) os[j]? := rfl
def ixR (n : Nat) (k : D) (rt : List O) : Option O → Ou W
  | some (.nst xs) => match k with
    | .int i => ixNs rt n xs (ixN xs.length i)
    | _ => .no
  | some (.ndk kvs) => match keyOf k with
    | some k => ixS rt n (.key k) (aget kvs k)
    | none => .no
  | some (.ndt kvs) => match k with
    | .tup zs => match keysOf zs with
      | some k => ixS rt n (.keys k) (aget kvs k)
      | none => .no
    | _ => .no
  | some (.dk kvs) => match keyOf k with
    | some k => okD rt (dget kvs k)
    | none => .no
  | some (.dt kvs) => match k with
    | .tup zs => match keysOf zs with
      | some k => okD rt (dget kvs k)
      | none => .no
    | _ => .no
  | some (.lst xs) => match k with
    | .int i => okD rt (L2.atI xs i)
    | _ => .no
  | some (.d (.lst xs)) => match k with
    | .int i => okD rt (L2.atI xs i)
    | _ => .no
  | _ => .no
theorem gIxV_r : gIxV (.r n) (.d k) rt = ixR n k rt (rd rt n) := by
  unfold gIxV ixR
  simp only
  cases h : rd rt n with
  | none => cases k <;> simp [gIx, lsOf, h, tpOf]
  | some o =>
    cases o with
    | d x => cases x <;> cases k <;> simp [gIx, lsOf, h, tpOf] <;> rfl
    | lst xs => cases k <;> simp [gIx, lsOf, h, tpOf] <;> rfl
    | dk kvs => simp only; cases keyOf k <;> rfl
    | dt kvs => simp only; cases k <;> first | rfl | skip
    | ins C fs => cases k <;> simp [gIx, lsOf, h, tpOf]
    | nst xs => simp only; cases k <;> first | rfl | skip
    | ndk kvs => simp only; cases keyOf k <;> first | rfl | skip
    | ndt kvs => simp only; cases k <;> first | rfl | skip
    | vw n p => cases k <;> simp [gIx, lsOf, h, tpOf]
theorem gIxV_lst : gIxV (.d (.lst xs)) (.d (.int i)) rt = okD rt (L2.atI xs i) := rfl
theorem gIxV_tup : gIxV (.d (.tup xs)) (.d (.int i)) rt = okD rt (L2.atI xs i) := rfl
theorem gIxV_ktup : gIxV (.d (.ktup xs)) (.d (.int i)) rt = okD rt (L2.atI xs i) := rfl
theorem gIxV_dki : gIxV (.d (.dk kvs)) (.d (.int i)) rt = okD rt (dget kvs (.inl i)) := rfl
theorem gIxV_dks : gIxV (.d (.dk kvs)) (.d (.str s)) rt = okD rt (dget kvs (.inr s)) := rfl
theorem ixR_lst : ixR n (.int i) rt (some (.lst xs)) = okD rt (L2.atI xs i) := rfl
theorem ixR_dl : ixR n (.int i) rt (some (.d (.lst xs))) = okD rt (L2.atI xs i) := rfl
theorem ixR_nst : ixR n (.int i) rt (some (.nst os)) = ixNs rt n os (ixN os.length i) := rfl
theorem ixR_dki : ixR n (.int i) rt (some (.dk kvs)) = okD rt (dget kvs (.inl i)) := rfl
theorem ixR_dks : ixR n (.str s) rt (some (.dk kvs)) = okD rt (dget kvs (.inr s)) := rfl
theorem ixR_ndki : ixR n (.int i) rt (some (.ndk kos)) = ixS rt n (.key (.inl i)) (aget kos (.inl i)) := rfl
theorem ixR_ndks : ixR n (.str s) rt (some (.ndk kos)) = ixS rt n (.key (.inr s)) (aget kos (.inr s)) := rfl
theorem ixR_dt {ks : List Key} (h : keysOf xs = some ks) : ixR n (.tup xs) rt (some (.dt tvs)) = okD rt (dget tvs ks) := by simp only [ixR, h]
theorem ixR_ndt {ks : List Key} (h : keysOf xs = some ks) : ixR n (.tup xs) rt (some (.ndt tos)) = ixS rt n (.keys ks) (aget tos ks) := by simp only [ixR, h]
theorem ixR_ndt_ii : ixR n (.tup [.int i, .int j]) rt (some (.ndt tos)) = ixS rt n (.keys [.inl i, .inl j]) (aget tos [.inl i, .inl j]) := rfl
theorem ixR_dt_ii : ixR n (.tup [.int i, .int j]) rt (some (.dt tvs)) = okD rt (dget tvs [.inl i, .inl j]) := rfl
theorem keysOf_ii : keysOf [.int i, .int j] = some [.inl i, .inl j] := rfl
theorem stepV_d {c : Sel} : stepV rt n c (.d x) = .ok (.d x) rt := rfl
theorem stepV_lst {c : Sel} : stepV rt n c (.lst xs) = .ok (.r rt.length) (rt ++ [.vw (locR rt n).1 ((locR rt n).2 ++ [c])]) := rfl
theorem stepV_nst {c : Sel} : stepV rt n c (.nst os) = .ok (.r rt.length) (rt ++ [.vw (locR rt n).1 ((locR rt n).2 ++ [c])]) := rfl
theorem stepV_ins {c : Sel} : stepV rt n c (.ins C fs) = .ok (.r rt.length) (rt ++ [.vw (locR rt n).1 ((locR rt n).2 ++ [c])]) := rfl
theorem stepV_dk {c : Sel} : stepV rt n c (.dk kvs) = .ok (.r rt.length) (rt ++ [.vw (locR rt n).1 ((locR rt n).2 ++ [c])]) := rfl
theorem stepV_dt {c : Sel} : stepV rt n c (.dt tvs) = .ok (.r rt.length) (rt ++ [.vw (locR rt n).1 ((locR rt n).2 ++ [c])]) := rfl
/-- the same, ahead of an augmented assignment -/
def ixA (k : D) (rt : List O) : Option O → Ou W
  | some (.lst xs) => match k with
    | .int i => okD rt (L2.atI xs i)
    | _ => .no
  | some (.d (.lst xs)) => match k with
    | .int i => okD rt (L2.atI xs i)
    | _ => .no
  | some (.dk kvs) => match keyOf k with
    | some k => okD rt (dget kvs k)
    | none => .no
  | _ => .no
theorem gIxA_r : gIxA (.r n) (.d k) rt = ixA k rt (rd rt n) := by
  unfold gIxA ixA
  cases h : rd rt n with
  | none => cases k <;> simp [lsOf, h]
  | some o =>
    cases o with
    | d x => cases x <;> cases k <;> simp [lsOf, h] <;> rfl
    | lst xs => cases k <;> simp [lsOf, h] <;> rfl
    | dk kvs => cases k <;> simp [lsOf, h, keyOf] <;> rfl
    | _ => cases k <;> simp [lsOf, h]
theorem ixA_lst : ixA (.int i) rt (some (.lst xs)) = okD rt (L2.atI xs i) := rfl
theorem ixA_dki : ixA (.int i) rt (some (.dk kvs)) = okD rt (dget kvs (.inl i)) := rfl
theorem ixA_dks : ixA (.str s) rt (some (.dk kvs)) = okD rt (dget kvs (.inr s)) := rfl
/-- xs[i] = y -/
def setN (n : Nat) (xs : List D) (y : D) (rt : List O) : Option Nat → Ou Unit
  | some j => .ok () (wr rt n (.lst (xs.set j y)))
  | none => .no
theorem setN_some {j : Nat} : setN n xs y rt (some j) = .ok () (wr rt n (.lst (xs.set j y))) := rfl
def setR (n : Nat) (i : D) (y : D) (rt : List O) : Option O → Ou Unit
  | some (.lst xs) => match i with
    | .int k => setN n xs y rt (ixN xs.length k)
    | _ => .no
  | some (.dk kvs) => match keyOf i with
    | some k => if kvs.length < 16000000 then .ok () (wr rt n (.dk (dput kvs k y))) else .no
    | none => .no
  | some (.dt kvs) => match i with
    | .tup zs => match keysOf zs with
      | some k => if kvs.length < 16000000 then .ok () (wr rt n (.dt (dput kvs k y))) else .no
      | none => .no
    | _ => .no
  | _ => .no
theorem setIx_r : setIx (.r n) (.d k) y rt = setR n k y rt (rd rt n) := by
  unfold setIx setR
  simp only
  cases h : rd rt n with
  | none => rfl
  | some o =>
    cases o with
    | lst xs =>
      cases k <;> simp only
      rename_i i
      cases h2 : ixN xs.length i <;> rfl
    | dk kvs => simp only; all_goals (cases keyOf k <;> rfl)
    | dt kvs => cases k <;> first | rfl | (rename_i zs; simp only; all_goals (cases keysOf zs <;> rfl))
    | _ => rfl
theorem setR_lst : setR n (.int i) y rt (some (.lst xs)) = setN n xs y rt (ixN xs.length i) := rfl
theorem setR_dki : setR n (.int i) y rt (some (.dk kvs)) = if kvs.length < 16000000 then .ok () (wr rt n (.dk (dput kvs (.inl i) y))) else .no := rfl
theorem setR_dks : setR n (.str s) y rt (some (.dk kvs)) = if kvs.length < 16000000 then .ok () (wr rt n (.dk (dput kvs (.inr s) y))) else .no := rfl
theorem setR_dt {ks : List Key} (h : keysOf xs = some ks) : setR n (.tup xs) y rt (some (.dt tvs)) = if tvs.length < 16000000 then .ok () (wr rt n (.dt (dput tvs ks y))) else .no := by simp only [setR, h]
/-- len -/
def lenO : Option O → Option Nat
  | some (.lst xs) => some xs.length
  | some (.d (.lst xs)) => some xs.length
  | some (.dk kvs) => some kvs.length
  | some (.dt kvs) => some kvs.length
  | some (.nst xs) => some xs.length
  | some (.ndk kvs) => some kvs.length
  | some (.ndt kvs) => some kvs.length
  | _ => none
theorem lenD_r : lenD (.r n) rt = lenO (rd rt n) := by
  unfold lenD lenO
  cases h : rd rt n with
  | none => simp [lsOf, h, tpOf]
  | some o =>
    cases o with
    | d x => cases x <;> simp [lsOf, h, tpOf]
    | _ => simp [lsOf, h, tpOf]
theorem lenD_lst : lenD (.d (.lst xs)) rt = some xs.length := rfl
theorem lenD_tup : lenD (.d (.tup xs)) rt = some xs.length := rfl
theorem lenD_ktup : lenD (.d (.ktup xs)) rt = some xs.length := rfl
theorem lenD_str : lenD (.d (.str s)) rt = if s.length ≤ 16000000 then some s.length else none := rfl
theorem lenO_lst : lenO (some (.lst xs)) = some xs.length := rfl
theorem lenO_dl : lenO (some (.d (.lst xs))) = some xs.length := rfl
theorem lenO_dk : lenO (some (.dk kvs)) = some kvs.length := rfl
theorem lenO_dt : lenO (some (.dt tvs)) = some tvs.length := rfl
theorem lenO_nst : lenO (some (.nst os)) = some os.length := rfl
theorem lenO_ndk : lenO (some (.ndk kos)) = some kos.length := rfl
theorem lenO_ndt : lenO (some (.ndt tos)) = some tos.length := rfl
def okN (rt : List O) : Option Nat → Ou W
  | some n => .ok (.d (.int n)) rt
  | none => .no
theorem okN_some : okN rt (some n) = .ok (.d (.int n)) rt := rfl
theorem bLen_1 : bLen [w] rt = okN rt (lenD w rt) := by
  unfold bLen okN
  simp only
  all_goals (cases lenD w rt <;> rfl)
theorem bList_1 : bList [w] rt = match lsOf w rt with
    | some ys => .ok (.r rt.length) (rt ++ [.lst ys])
    | none => match tpOf w with
      | some ys => .ok (.r rt.length) (rt ++ [.lst ys])
      | none => .no := rfl
def tupO (rt : List O) : Option (List D) → Ou W
  | some ys => .ok (.d (.tup ys)) rt
  | none => .no
theorem tupO_some : tupO rt (some xs) = .ok (.d (.tup xs)) rt := rfl
theorem bTuple_r : bTuple [.r n] rt = tupO rt (lsOf (.r n) rt) := by
  unfold bTuple tupO
  simp only
  all_goals (cases lsOf (.r n) rt <;> rfl)
theorem bTuple_lst : bTuple [.d (.lst xs)] rt = .ok (.d (.tup xs)) rt := rfl
theorem bTuple_tup : bTuple [.d (.tup xs)] rt = .ok (.d (.tup xs)) rt := rfl
/-- append, extend, pop -/
def appR (n : Nat) (y : D) (rt : List O) : Option O → Ou W
  | some (.lst zs) => if zs.length < 16000000 then .ok (.d .non) (wr rt n (.lst (zs ++ [y]))) else .no
  | _ => .no
theorem mAppend_r : mAppend (.r n) [w] rt = (vOf w rt).bind fun z rt => appR n z rt (rd rt n) := by
  unfold mAppend appR
  simp only
  all_goals (cases vOf w rt with
    | ok z rt =>
      simp only [Ou.bind]
      all_goals (cases rd rt n with
        | none => rfl
        | some o => cases o <;> rfl)
    | _ => rfl)
theorem appR_lst : appR n y rt (some (.lst xs)) = if xs.length < 16000000 then .ok (.d .non) (wr rt n (.lst (xs ++ [y]))) else .no := rfl
def extR (n : Nat) (rt : List O) : Option (List D) → Option O → Ou W
  | some ys, some (.lst zs) => if zs.length + ys.length ≤ 16000000 then .ok (.d .non) (wr rt n (.lst (zs ++ ys))) else .no
  | _, _ => .no
theorem mExtend_r : mExtend (.r n) [w] rt = extR n rt (lsOf w rt) (rd rt n) := by
  unfold mExtend extR
  simp only
  cases rd rt n with
  | none => cases lsOf w rt <;> rfl
  | some o => cases lsOf w rt <;> cases o <;> rfl
theorem extR_lst : extR n rt (some ys) (some (.lst xs)) = if xs.length + ys.length ≤ 16000000 then .ok (.d .non) (wr rt n (.lst (xs ++ ys))) else .no := rfl
def popR (n : Nat) (rt : List O) (zs : List D) (i : Int) : Option Nat → Ou W
  | some j => match zs[j]? with
    | some z => if -1000000000 ≤ i ∧ i ≤ 1000000000 then .ok (.d z) (wr rt n (.lst (zs.eraseIdx j))) else .no
    | none => .no
  | none => .no
def popO (n : Nat) (rt : List O) (i : Int) : Option O → Ou W
  | some (.lst zs) => popR n rt zs i (ixN zs.length i)
  | _ => .no
theorem mPop_i : mPop (.r n) [.d (.int i)] rt = popO n rt i (rd rt n) := by
  unfold mPop popO popR
  simp only
  all_goals (cases rd rt n with
    | none => rfl
    | some o =>
      cases o <;> first | rfl | skip
      all_goals (rename_i xs; cases ixN xs.length i <;> rfl))
theorem popO_lst : popO n rt i (some (.lst xs)) = popR n rt xs i (ixN xs.length i) := rfl
theorem popR_some {j : Nat} : popR n rt xs i (some j) = match xs[j]? with
    | some z => if -1000000000 ≤ i ∧ i ≤ 1000000000 then .ok (.d z) (wr rt n (.lst (xs.eraseIdx j))) else .no
    | none => .no := rfl
/-- + - * -/
def addL (rt : List O) : Option (List D) → Option (List D) → Ou W
  | some xs, some ys => if xs.length + ys.length ≤ 16000000 then .ok (.r rt.length) (rt ++ [.lst (xs ++ ys)]) else .no
  | _, _ => .no
theorem addL_some : addL rt (some xs) (some ys) = if xs.length + ys.length ≤ 16000000 then .ok (.r rt.length) (rt ++ [.lst (xs ++ ys)]) else .no := rfl
theorem gAdd_int : gAdd (.d (.int i)) (.d (.int j)) rt = .ok (.d (.int (i + j))) rt := rfl
theorem gAdd_str : gAdd (.d (.str s)) (.d (.str z)) rt = if s.length + z.length ≤ 16000000 then .ok (.d (.str (s ++ z))) rt else .no := rfl
theorem gAdd_tup : gAdd (.d (.tup xs)) (.d (.tup ys)) rt = if xs.length + ys.length ≤ 16000000 then .ok (.d (.tup (xs ++ ys))) rt else .no := rfl
theorem gAdd_r : gAdd (.r n) w rt = addL rt (lsOf (.r n) rt) (lsOf w rt) := by
  unfold gAdd addL
  simp only
  all_goals (cases lsOf (.r n) rt <;> cases lsOf w rt <;> rfl)
theorem gAdd_l : gAdd (.d (.lst xs)) w rt = addL rt (some xs) (lsOf w rt) := by
  unfold gAdd addL
  simp only [lsOf_lst]
  all_goals (cases lsOf w rt <;> rfl)
theorem gAddI_int : gAddI (.d (.int i)) (.d (.int j)) rt = .ok (.d (.int (i + j))) rt := rfl
theorem gAddI_str : gAddI (.d (.str s)) (.d (.str z)) rt = if s.length + z.length ≤ 16000000 then .ok (.d (.str (s ++ z))) rt else .no := rfl
theorem gDif_int : gDif (.d (.int i)) (.d (.int j)) rt = .ok (.d (.int (i - j))) rt := rfl
theorem gMul_int : gMul (.d (.int i)) (.d (.int j)) rt = if mulOk i j = true then .ok (.d (.int (i * j))) rt else .no := rfl
def mulL (rt : List O) (k : Int) : Option (List D) → Ou W
  | some xs => if -1000000 ≤ k ∧ k ≤ 1000000 ∧ xs.length * k.toNat ≤ 16000000 then .ok (.r rt.length) (rt ++ [.lst (List.replicate k.toNat xs).flatten]) else .no
  | none => .no
theorem mulL_some : mulL rt i (some xs) = if -1000000 ≤ i ∧ i ≤ 1000000 ∧ xs.length * i.toNat ≤ 16000000 then .ok (.r rt.length) (rt ++ [.lst (List.replicate i.toNat xs).flatten]) else .no := rfl
theorem gMul_r : gMul (.r n) (.d (.int i)) rt = mulL rt i (lsOf (.r n) rt) := by
  unfold gMul mulL
  simp only
  all_goals (cases lsOf (.r n) rt <;> rfl)
theorem gMul_l : gMul (.d (.lst xs)) (.d (.int i)) rt = mulL rt i (some xs) := rfl
/-- == != < -/
def okB (rt : List O) : Option Bool → Ou W
  | some b => .ok (.d (.bl b)) rt
  | none => .no
theorem okB_some : okB rt (some b) = .ok (.d (.bl b)) rt := rfl
theorem gEq_c : gEq w u rt = okB rt (eqD (lkD w rt) (lkD u rt)) := by
  unfold gEq okB
  cases eqD (lkD w rt) (lkD u rt) <;> rfl
theorem gNe_c : gNe w u rt = okB rt ((eqD (lkD w rt) (lkD u rt)).map not) := by
  unfold gNe okB
  cases eqD (lkD w rt) (lkD u rt) <;> rfl
theorem cmpI_int {f : Int → Int → Bool} : cmpI f (.d (.int i)) (.d (.int j)) rt = .ok (.d (.bl (f i j))) rt := rfl
/-- a value made plain -/
def vfW (n : Nat) (p : List Sel) (rt : List O) : Option O → Ou D
  | some o => if o.isVw = true then .no else match getP o p with
    | some x => .ok x.toD (frz n o rt)
    | none => .no
  | none => .no
theorem vfW_some : vfW n p rt (some o) = if o.isVw = true then .no else match getP o p with
    | some x => .ok x.toD (frz n o rt)
    | none => .no := rfl
def vfO (k : Nat) (rt : List O) : Option O → Ou D
  | some (.vw n p) => vfW n p rt rt[n]?
  | some o => .ok o.toD (frz k o rt)
  | none => .no
theorem vOf_c : vOf (.r n) rt = vfO n rt rt[n]? := by
  unfold vOf vfO
  simp only
  rcases rt[n]? with _ | o <;> first | rfl | skip
theorem vfO_lst : vfO n rt (some (.lst xs)) = .ok (.lst xs) (frz n (.lst xs) rt) := by show Ou.ok _ _ = _; rw [O.toD]
theorem vfO_d : vfO n rt (some (.d x)) = .ok x (frz n (.d x) rt) := by show Ou.ok _ _ = _; rw [O.toD]
theorem vfO_dk : vfO n rt (some (.dk kvs)) = .ok (.dk kvs) (frz n (.dk kvs) rt) := by show Ou.ok _ _ = _; rw [O.toD]
theorem vfO_dt : vfO n rt (some (.dt tvs)) = .ok (.dt tvs) (frz n (.dt tvs) rt) := by show Ou.ok _ _ = _; rw [O.toD]
theorem vfO_nst : vfO n rt (some (.nst os)) = .ok (O.nst os).toD (frz n (.nst os) rt) := rfl
theorem vfO_ndk : vfO n rt (some (.ndk kos)) = .ok (O.ndk kos).toD (frz n (.ndk kos) rt) := rfl
theorem vfO_ndt : vfO n rt (some (.ndt tos)) = .ok (O.ndt tos).toD (frz n (.ndt tos) rt) := rfl
theorem vfO_ins : vfO n rt (some (.ins C fs)) = .ok (O.ins C fs).toD (frz n (.ins C fs) rt) := rfl
theorem vfO_vw : vfO n rt (some (.vw m p)) = vfW m p rt rt[m]? := rfl
theorem bMin_2 : bMin [.d (.int i), .d (.int j)] rt = .ok (.d (.int (min i j))) rt := rfl
theorem bMax_2 : bMax [.d (.int i), .d (.int j)] rt = .ok (.d (.int (max i j))) rt := rfl
def mnO (rt : List O) : Option (List Int) → Ou W
  | some ns => if 0 < ns.length then .ok (.d (.int (minL ns))) rt else .no
  | none => .no
theorem mnO_some {ns : List Int} : mnO rt (some ns) = if 0 < ns.length then .ok (.d (.int (minL ns))) rt else .no := rfl
theorem bMin_1 : bMin [w] rt = mnO rt ((lsOf w rt).bind intsOf) := by
  unfold bMin mnO
  simp only
  all_goals (cases (lsOf w rt).bind intsOf <;> rfl)
def mxO (rt : List O) : Option (List Int) → Ou W
  | some ns => if 0 < ns.length then .ok (.d (.int (maxL ns))) rt else .no
  | none => .no
theorem mxO_some {ns : List Int} : mxO rt (some ns) = if 0 < ns.length then .ok (.d (.int (maxL ns))) rt else .no := rfl
theorem bMax_1 : bMax [w] rt = mxO rt ((lsOf w rt).bind intsOf) := by
  unfold bMax mxO
  simp only
  all_goals (cases (lsOf w rt).bind intsOf <;> rfl)
def smO (rt : List O) : Option (List Int) → Ou W
  | some ns => .ok (.d (.int ns.sum)) rt
  | none => .no
theorem smO_some {ns : List Int} : smO rt (some ns) = .ok (.d (.int ns.sum)) rt := rfl
theorem bSum_1 : bSum [w] rt = smO rt ((lsOf w rt).bind intsOf) := by
  unfold bSum smO
  simp only
  all_goals (cases (lsOf w rt).bind intsOf <;> rfl)
theorem keyOf_int : keyOf (.int i) = some (.inl i) := rfl
theorem keyOf_str : keyOf (.str s) = some (.inr s) := rfl
def inO (x : D) : Option O → Option Bool
  | some (.dk kvs) => (keyOf x).map fun k => (dget kvs k).isSome
  | some (.lst xs) => inDp x xs
  | some (.d y) => inD x y
  | _ => none
theorem inO_dk : inO x (some (.dk kvs)) = (keyOf x).map fun k => (dget kvs k).isSome := rfl
theorem inO_lst : inO x (some (.lst xs)) = inDp x xs := rfl
theorem inO_d : inO x (some (.d y)) = inD x y := rfl
def inU (x : D) (rt : List O) (n : Nat) : Option O → Option Bool
  | some (.dk kvs) => inO x (some (.dk kvs))
  | some (.lst xs) => inO x (some (.lst xs))
  | some (.d y) => inO x (some (.d y))
  | some (.dt kvs) => inD x (.dt kvs)
  | some (.ndk kvs) => (keyOf x).map fun k => (aget kvs k).isSome
  | some (.ndt kvs) => match x with
    | .tup zs => (keysOf zs).map fun k => (aget kvs k).isSome
    | _ => none
  | _ => inW x (.r n) rt
theorem inU_dk : inU x rt n (some (.dk kvs)) = (keyOf x).map fun k => (dget kvs k).isSome := rfl
theorem inU_lst : inU x rt n (some (.lst xs)) = inDp x xs := rfl
theorem inU_d : inU x rt n (some (.d y)) = inD x y := rfl
theorem inU_dt : inU x rt n (some (.dt tvs)) = inD x (.dt tvs) := rfl
theorem inU_ndk : inU x rt n (some (.ndk kos)) = (keyOf x).map fun k => (aget kos k).isSome := rfl
theorem inU_ndt_ii : inU (.tup [.int i, .int j]) rt n (some (.ndt tos)) = some (aget tos [.inl i, .inl j]).isSome := rfl
theorem inD_dt_ii : inD (.tup [.int i, .int j]) (.dt tvs) = some (dget tvs [.inl i, .inl j]).isSome := rfl
theorem inW_r : inW x (.r n) rt = inU x rt n (rd rt n) := by
  unfold inU
  cases h : rd rt n with
  | none => rfl
  | some o =>
    cases o <;> first | rfl | skip
    · simp only [inO, inW, h, lkD, Option.getD_some]
      rw [O.toD]
    · simp only [inO, inW, h, lkD, Option.getD_some]
      rw [O.toD]
      rfl
    · simp only [inO, inW, h]
      cases keyOf x <;> rfl
    · simp only [inW, h, lkD, Option.getD_some]
      rw [O.toD]
    · simp only [inW, h]
      cases keyOf x <;> rfl
    · simp only [inW, h]
      cases x <;> first | rfl | skip
      rename_i zs
      simp only
      cases keysOf zs <;> rfl
theorem inW_d : inW x (.d y) rt = inD x y := rfl
theorem inD_lst : inD x (.lst xs) = inDp x xs := rfl
theorem inD_tup : inD x (.tup xs) = inFl x xs := rfl
theorem gIn_c : gIn w u rt = okB rt (inW (lkD w rt) u rt) := by
  unfold gIn okB
  cases inW (lkD w rt) u rt <;> rfl
theorem gNin_c : gNin w u rt = okB rt ((inW (lkD w rt) u rt).map not) := by
  unfold gNin okB
  cases inW (lkD w rt) u rt <;> rfl
theorem bListK_r : bListK [.r n] rt = match rd rt n with
    | some (.dk kvs) => .ok (.r rt.length) (rt ++ [.lst (kvs.map fun kv => kD kv.1)])
    | _ => .no := by
  unfold bListK keyL
  simp only
  all_goals (cases rd rt n with
    | none => rfl
    | some o => cases o <;> rfl)
theorem trD_r : trD (.r n) rt = trO (rd rt n) := rfl
theorem trD_bl : trD (.d (.bl b)) rt = some b := rfl
theorem trD_non : trD (.d .non) rt = some false := rfl
theorem trD_int : trD (.d (.int i)) rt = some (i != 0) := rfl
theorem trD_tup : trD (.d (.tup xs)) rt = some (!xs.isEmpty) := rfl
theorem trO_lst : trO (some (.lst xs)) = some (!xs.isEmpty) := rfl
theorem trO_dk : trO (some (.dk kvs)) = some (!kvs.isEmpty) := rfl
theorem ty_lst : tyName (.r n) rt = match rd rt n with
    | some (.lst _) => some "list"
    | some (.nst _) => some "list"
    | some (.d (.lst _)) => some "list"
    | some (.dk _) => some "dict"
    | some (.dt _) => some "dict"
    | some (.ndk _) => some "dict"
    | some (.ndt _) => some "dict"
    | _ => none := rfl
end
end VE

set_option maxRecDepth 100000
set_option maxHeartbeats 1000000
namespace VE
open PySem PySem.Spec L2

/-! ### what a mirror answers, by its weakest precondition -/
def vE {α : Type} (o : Ou α) (Q : α → List O → Prop) : Prop := match o with
  | .ok x rt => Q x rt
  | _ => False
def vS (o : Os) (N : Sl → List O → Prop) (R : W → List O → Prop) (B C : Sl → List O → Prop) : Prop := match o with
  | .nx sl rt => N sl rt
  | .re x rt => R x rt
  | .bk sl rt => B sl rt
  | .ct sl rt => C sl rt
  | _ => False
section
variable {α β : Type} {Q : α → List O → Prop} {N : Sl → List O → Prop} {R : W → List O → Prop} {B C : Sl → List O → Prop} {sl : Sl} {rt : List O}
theorem vE.imp {o : Ou α} {P : α → List O → Prop} (h : vE o P) (i : ∀ x rt, P x rt → Q x rt) : vE o Q := by
  cases o with
  | ok x rt => exact i x rt h
  | ex c fs rt => exact h
  | no => exact h
theorem vE.ex {o : Ou α} (h : vE o Q) : ∃ x rt, o = .ok x rt ∧ Q x rt := by
  cases o with
  | ok x rt => exact ⟨x, rt, rfl, h⟩
  | ex c fs rt => exact h.elim
  | no => exact h.elim
theorem vS.imp {o : Os} {N' : Sl → List O → Prop} {R' : W → List O → Prop} {B' C' : Sl → List O → Prop} (h : vS o N' R' B' C') (i : ∀ s r, N' s r → N s r) (j : ∀ s r, R' s r → R s r) (k : ∀ s r, B' s r → B s r) (l : ∀ s r, C' s r → C s r) : vS o N R B C := by
  cases o with
  | nx s r => exact i s r h
  | re s r => exact j s r h
  | bk s r => exact k s r h
  | ct s r => exact l s r h
  | ex c fs s r => exact h
  | no => exact h
theorem vE_ok {x : α} : vE (.ok x rt) Q = Q x rt := rfl
theorem vE_no : vE (.no : Ou α) Q = False := rfl
theorem vE_bind {o : Ou β} {k : β → List O → Ou α} : vE (o.bind k) Q = vE o fun x rt => vE (k x rt) Q := by cases o <;> rfl
theorem vE_noex {o : Ou α} : vE o.noex Q = vE o Q := by cases o <;> rfl
theorem vE_ite {c : Prop} [Decidable c] {a b : Ou α} : vE (if c then a else b) Q = if c then vE a Q else vE b Q := by split <;> rfl
theorem vS_seq {o : Ou β} {k : β → List O → Os} : vS (o.seq sl k) N R B C = vE o fun x rt => vS (k x rt) N R B C := by cases o <;> rfl
theorem vS_nx : vS (.nx sl rt) N R B C = N sl rt := rfl
theorem vS_re {x : W} : vS (.re x rt) N R B C = R x rt := rfl
theorem vS_bk : vS (.bk sl rt) N R B C = B sl rt := rfl
theorem vS_ct : vS (.ct sl rt) N R B C = C sl rt := rfl
theorem vS_no : vS .no N R B C = False := rfl
theorem vS_then {o : Os} {k : Sx} : vS (o.andThen k) N R B C = vS o (fun sl rt => vS (k sl rt) N R B C) R B C := by cases o <;> rfl
theorem vS_ite {c : Prop} [Decidable c] {a b : Os} : vS (if c then a else b) N R B C = if c then vS a N R B C else vS b N R B C := by split <;> rfl
end

def obl (P : Bool → Prop) : W → Prop
  | .d (.bl b) => P b
  | _ => False
def oint (P : Int → Prop) : W → Prop
  | .d (.int b) => P b
  | _ => False
theorem obl_bl {P : Bool → Prop} {b : Bool} : obl P (.d (.bl b)) = P b := rfl
theorem oint_int {P : Int → Prop} {b : Int} : oint P (.d (.int b)) = P b := rfl
/-! ### the combinators -/
section
variable {Q : W → List O → Prop} {T : Bool → List O → Prop} {A : List W → List O → Prop} {G : Sl → List O → Prop} {N : Sl → List O → Prop} {R : W → List O → Prop} {B C : Sl → List O → Prop} {sl : Sl} {rt : List O} {m ma mb mc : Ex W} {ms : Ex (List W)} {s t : Sx} {mt nt : Ex Bool} {g : Gx} {i : Nat}
/-- what is still to be done -/
def vKont (t : Sx) (N : Sl → List O → Prop) (R : W → List O → Prop) (B C : Sl → List O → Prop) (sl : Sl) (rt : List O) : Prop := vS (t sl rt) N R B C
theorem vkont : vKont t N R B C sl rt = vS (t sl rt) N R B C := rfl
theorem v_seq : vS (sSeq s t sl rt) N R B C = vS (s sl rt) (vKont t N R B C) R B C := vS_then
/-- an assertion between two statements -/
theorem v_cut (M : Sl → List O → Prop) (h : vS (s sl rt) M R B C) (k : ∀ sl rt, M sl rt → vS (t sl rt) N R B C) : vS (sSeq s t sl rt) N R B C := by
  rw [v_seq]
  exact h.imp k (fun _ _ h => h) (fun _ _ h => h) fun _ _ h => h
theorem v_nil : vS (sNil sl rt) N R B C = N sl rt := rfl
theorem v_set : vS (sSet i m sl rt) N R B C = vE (m sl rt) fun x rt => N (sl.set i (some x)) rt := vS_seq
theorem v_drop : vS (sDrop m sl rt) N R B C = vE (m sl rt) fun _ rt => N sl rt := vS_seq
theorem v_ret : vS (sRet m sl rt) N R B C = vE (m sl rt) fun x rt => R x rt := vS_seq
theorem v_retN : vS (sRetN sl rt) N R B C = R (.d .non) rt := rfl
theorem v_brk : vS (sBrk sl rt) N R B C = B sl rt := rfl
theorem v_cont : vS (sCont sl rt) N R B C = C sl rt := rfl
theorem v_if : vS (sIf mt s t sl rt) N R B C = vE (mt sl rt) fun b rt => if b = true then vS (s sl rt) N R B C else vS (t sl rt) N R B C := by
  show vS ((mt sl rt).seq sl _) N R B C = _
  rw [vS_seq]
  congr 1
  funext b rt
  exact vS_ite
theorem v_asg : vS (sAsg m g sl rt) N R B C = vE (m sl rt) fun x rt => vE (g x sl rt) fun sl rt => N sl rt := by
  show vS ((m sl rt).seq sl _) N R B C = _
  rw [vS_seq]
  congr 1
  funext b rt
  exact vS_seq
theorem v_var {x : W} (h : sl[i]? = some (some x)) : vE (eVar i sl rt) Q = Q x rt := by unfold eVar; rw [h]; rfl
theorem v_c {x : D} : vE (eC x sl rt) Q = Q (.d x) rt := rfl
theorem v_op {f : W → W → List O → Ou W} : vE (eOp f ma mb sl rt) Q = vE (ma sl rt) fun x rt => vE (mb sl rt) fun y rt => vE (f x y rt) Q := by
  show vE ((ma sl rt).bind _) Q = _
  rw [vE_bind]
  congr 1
  funext x rt
  exact vE_bind
theorem v_eB : vE (eB m sl rt) T = vE (m sl rt) fun x rt => obl (fun b => T b rt) x := by
  show vE ((m sl rt).bind _) T = _
  rw [vE_bind]
  congr 1
  funext x rt
  cases x with
  | r n => rfl
  | d x => cases x <;> rfl
theorem v_notT : vE (eNotT mt sl rt) T = vE (mt sl rt) fun b rt => T (!b) rt := vE_bind
theorem v_andT : vE (eAndT mt nt sl rt) T = vE (mt sl rt) fun b rt => if b = true then vE (nt sl rt) T else T false rt := by
  show vE ((mt sl rt).bind _) T = _
  rw [vE_bind]
  congr 1
  funext x rt
  exact vE_ite
theorem v_orT : vE (eOrT mt nt sl rt) T = vE (mt sl rt) fun b rt => if b = true then T true rt else vE (nt sl rt) T := by
  show vE ((mt sl rt).bind _) T = _
  rw [vE_bind]
  congr 1
  funext x rt
  exact vE_ite
theorem v_eAnd : vE (eAnd ma mb sl rt) Q = vE (ma sl rt) fun x rt => obl (fun b => if b = true then vE (mb sl rt) Q else Q (.d (.bl false)) rt) x := by
  show vE ((ma sl rt).bind _) Q = _
  rw [vE_bind]
  congr 1
  funext x rt
  cases x with
  | r n => rfl
  | d x =>
    cases x <;> first | rfl | (rename_i b; cases b <;> rfl)
theorem v_eOr : vE (eOr ma mb sl rt) Q = vE (ma sl rt) fun x rt => obl (fun b => if b = true then Q (.d (.bl true)) rt else vE (mb sl rt) Q) x := by
  show vE ((ma sl rt).bind _) Q = _
  rw [vE_bind]
  congr 1
  funext x rt
  cases x with
  | r n => rfl
  | d x =>
    cases x <;> first | rfl | (rename_i b; cases b <;> rfl)
theorem v_eNot : vE (eNot m sl rt) Q = vE (m sl rt) fun x rt => obl (fun b => Q (.d (.bl (!b))) rt) x := by
  show vE ((m sl rt).bind _) Q = _
  rw [vE_bind]
  congr 1
  funext x rt
  cases x with
  | r n => rfl
  | d x => cases x <;> rfl
theorem v_eNeg : vE (eNeg m sl rt) Q = vE (m sl rt) fun x rt => oint (fun i => Q (.d (.int (-i))) rt) x := by
  show vE ((m sl rt).bind _) Q = _
  rw [vE_bind]
  congr 1
  funext x rt
  cases x with
  | r n => rfl
  | d x => cases x <;> rfl
theorem v_eIf : vE (eIf mt ma mb sl rt) Q = vE (mt sl rt) fun b rt => if b = true then vE (ma sl rt) Q else vE (mb sl rt) Q := by
  show vE ((mt sl rt).bind _) Q = _
  rw [vE_bind]
  congr 1
  funext x rt
  exact vE_ite
theorem v_chain {f f' : W → W → List O → Ou W} : vE (eChain f f' ma mb mc sl rt) Q = vE (ma sl rt) fun x rt => vE (mb sl rt) fun y rt => vE (f x y rt) fun z rt => obl (fun b => if b = true then vE (mc sl rt) fun u rt => vE (f' y u rt) Q else Q (.d (.bl false)) rt) z := by
  show vE ((ma sl rt).bind _) Q = _
  rw [vE_bind]
  congr 1
  funext x rt
  rw [vE_bind]
  congr 1
  funext y rt
  rw [vE_bind]
  congr 1
  funext z rt
  cases z with
  | r n => rfl
  | d x =>
    cases x <;> first | rfl | (rename_i b; cases b <;> first | rfl | exact vE_bind)
theorem v_aNil : vE (aNil sl rt) A = A [] rt := rfl
theorem v_aCons : vE (aCons m ms sl rt) A = vE (m sl rt) fun x rt => vE (ms sl rt) fun xs rt => A (x :: xs) rt := by
  show vE ((m sl rt).bind _) A = _
  rw [vE_bind]
  congr 1
  funext x rt
  exact vE_bind
theorem v_eVal : vE (eVal m sl rt) Q = vE (m sl rt) fun x rt => vE (vOf x rt) fun y rt => Q (.d y) rt := by
  show vE ((m sl rt).bind _) Q = _
  rw [vE_bind]
  congr 1
  funext x rt
  exact vE_bind
theorem v_eFn {f : List W → List O → Ou W} : vE (eFn f ms sl rt) Q = vE (ms sl rt) fun xs rt => vE (f xs rt) Q := vE_bind
theorem v_eMt {ty : W → List O → Bool} {f : W → List W → List O → Ou W} : vE (eMt ty f m ms sl rt) Q = vE (m sl rt) fun x rt => if ty x rt = true then vE (ms sl rt) fun xs rt => vE (f x xs rt) Q else False := by
  show vE ((m sl rt).bind _) Q = _
  rw [vE_bind]
  congr 1
  funext x rt
  rw [vE_ite]
  split
  · exact vE_bind
  · rfl
theorem v_eTup : vE (eTup ms sl rt) Q = vE (ms sl rt) fun ws rt => vE (valsOf ws rt) fun xs rt => vE (mkTup xs rt) Q := by
  show vE ((ms sl rt).bind _) Q = _
  rw [vE_bind]
  congr 1
  funext x rt
  exact vE_bind
theorem v_eLst : vE (eLst ms sl rt) Q = vE (ms sl rt) fun ws rt => vE (valsOf ws rt) fun xs rt => vE (mkLst xs rt) Q := by
  show vE ((ms sl rt).bind _) Q = _
  rw [vE_bind]
  congr 1
  funext x rt
  exact vE_bind
theorem v_oNone {P : Option Int → List O → Prop} : vE (oNone sl rt) P = P none rt := rfl
theorem v_oSome {P : Option Int → List O → Prop} : vE (oSome m sl rt) P = vE (m sl rt) fun x rt => oint (fun i => P (some i) rt) x := by
  show vE ((m sl rt).bind _) P = _
  rw [vE_bind]
  congr 1
  funext x rt
  cases x with
  | r n => rfl
  | d x => cases x <;> rfl
theorem v_eSl {l h : Ex (Option Int)} : vE (eSl m l h sl rt) Q = vE (m sl rt) fun x rt => vE (l sl rt) fun lo rt => vE (h sl rt) fun hi rt => vE (gSl x lo hi rt) Q := by
  show vE ((m sl rt).bind _) Q = _
  rw [vE_bind]
  congr 1
  funext x rt
  rw [vE_bind]
  congr 1
  funext x rt
  exact vE_bind
theorem v_isN : vE (eIsN m sl rt) Q = vE (m sl rt) fun x rt => Q (.d (.bl x.isN)) rt := vE_bind
theorem v_notN : vE (eNotN m sl rt) Q = vE (m sl rt) fun x rt => Q (.d (.bl (!x.isN))) rt := vE_bind
theorem v_gN {x : W} : vE (gN i x sl rt) G = G (sl.set i (some x)) rt := rfl
theorem v_gSb {x : W} : vE (gSb ma mb x sl rt) G = vE (ma sl rt) fun o rt => vE (mb sl rt) fun i rt => vE (vOf x rt) fun y rt => vE (setIx o i y rt) fun _ rt => G sl rt := by
  show vE ((ma sl rt).bind _) G = _
  rw [vE_bind]
  congr 1
  funext o rt
  rw [vE_bind]
  congr 1
  funext o rt
  rw [vE_bind]
  congr 1
  funext o rt
  exact vE_bind
theorem v_gT {n : Nat} {ms : List D → Ex Sl} {xs : List D} : vE (gT n ms (.d (.tup xs)) sl rt) G = if xs.length = n then vE (ms xs sl rt) G else False := by
  show vE (if xs.length = n then _ else _) G = _
  rw [vE_ite]; rfl
theorem v_gNil : vE (gNil' [] sl rt) G = G sl rt := rfl
theorem v_gCons {ms : List D → Ex Sl} {x : D} {xs : List D} : vE (gCons' g ms (x :: xs) sl rt) G = vE (g (.d x) sl rt) fun sl rt => vE (ms xs sl rt) G := by
  show vE ((g (.d x) sl rt).bind _) G = _
  rw [vE_bind]
  congr 1
  funext sl rt
  exact vE_noex
theorem v_call {f : FM} {np : Nat} : vE (eCall f np ms sl rt) Q = vE (ms sl rt) fun ws rt => if ws.length = np then vE (callF f ws rt) Q else False := by
  show vE ((ms sl rt).bind _) Q = _
  rw [vE_bind]
  congr 1
  funext x rt
  exact vE_ite
theorem v_call0 {f : FM} : vE (eCall0 f sl rt) Q = vE (callF f [] rt) Q := vE_noex
theorem v_callF {f : FM} {ws : List W} : vE (callF f ws rt) Q = if okRoots (roots ws) rt = true then vE (f (ws.map (renum (roots ws))) (pk (roots ws) rt (.d .non))) (fun x rs => if allNv rs = true then Q (back (roots ws) rt.length x) (put (roots ws) rs rt ++ rs.drop (roots ws).length) else False) else False := by
  unfold callF
  rw [vE_ite]
  split
  · cases f (ws.map (renum (roots ws))) (pk (roots ws) rt (.d .non)) with
    | ok x rs => exact vE_ite
    | ex c fs rs => show vE (if _ then _ else _) Q = False; rw [vE_ite]; split <;> rfl
    | no => rfl
  · rfl
theorem v_mkF {n : Nat} {b : Sx} {ws : List W} : vE (mkF n b ws rt) Q = vS (b (ws.map some ++ List.replicate (n - ws.length) none) rt) (fun _ rt' => vE (ret rt.length (.d .non) rt') Q) (fun x rt' => vE (ret rt.length x rt') Q) (fun _ _ => False) (fun _ _ => False) := by
  unfold mkF
  cases b (ws.map some ++ List.replicate (n - ws.length) none) rt with
  | ex c fs s r => show vE (if _ then _ else _) Q = False; rw [vE_ite]; split <;> rfl
  | _ => rfl
theorem v_retD {k : Nat} {x : D} : vE (ret k (.d x) rt) Q = if allNv (rt.take k) = true then Q (.d x) (rt.take k) else False := by
  unfold ret
  rw [vE_ite]
  rfl
theorem v_retR {k j : Nat} : vE (ret k (.r j) rt) Q = if allNv (rt.take k) = true then (if j < k then Q (.r j) (rt.take k) else match rt[j]? with | some o => if o.isVw = true then False else Q (.r k) (rt.take k ++ [o]) | none => False) else False := by
  unfold ret
  rw [vE_ite]
  split
  · simp only
    rw [vE_ite]
    split
    · rfl
    · cases rt[j]? with
      | none => rfl
      | some o => exact vE_ite
  · rfl
theorem v_ipA {f : W → W → List O → Ou W} {x : W} (h : sl[i]? = some (some x)) : vS (ipA f i m sl rt) N R B C = vE (m sl rt) fun y rt => vE (f x y rt) fun z rt => N (sl.set i (some z)) rt := by
  unfold ipA
  rw [h]
  show vS ((m sl rt).seq sl _) N R B C = _
  rw [vS_seq]
  congr 1
  funext b rt
  exact vS_seq
theorem v_augS {f : W → W → List O → Ou W} : vS (sAugS f ma mb m sl rt) N R B C = vE (ma sl rt) fun o rt => vE (mb sl rt) fun i rt => vE (gIxA o i rt) fun x rt => vE (m sl rt) fun y rt => vE (f x y rt) fun z rt => vE (vOf z rt) fun z rt => vE (setIx o i z rt) fun _ rt => N sl rt := by
  unfold sAugS
  rw [vS_seq]; congr 1; funext o rt
  rw [vS_seq]; congr 1; funext o rt
  rw [vS_seq]; congr 1; funext o rt
  rw [vS_seq]; congr 1; funext o rt
  rw [vS_seq]; congr 1; funext o rt
  rw [vS_seq]; congr 1; funext o rt
  exact vS_seq
theorem v_itSeq {P : List D → List O → Prop} : vE (itSeq m sl rt) P = vE (m sl rt) fun x rt => vE (vOf x rt) fun y rt => match seqOf y with | some xs => P xs rt | none => False := by
  unfold itSeq
  rw [vE_bind]; congr 1; funext x rt
  rw [vE_bind]; congr 1; funext y rt
  cases seqOf y <;> rfl
end

/-! ### loops -/
section
variable {Q : W → List O → Prop} {N : Sl → List O → Prop} {R : W → List O → Prop} {B C : Sl → List O → Prop} {sl : Sl} {rt : List O} {it : Ex (List D)} {g : Gx} {body : Sx} {ks : List Nat}
/-- behind a turn -/
def gTurn (ks : List Nat) (L : Nat) (P : Sl → List O → Prop) (sl : Sl) (rt : List O) : Prop := tkOk L (gcRt L (kill ks sl) rt) = true ∧ P (gcSl L (kill ks sl)) (gcRt L (kill ks sl) rt)
theorem v_turn {L : Nat} {k : Sl → List O → Os} (h : gTurn ks L (fun sl rt => vS (k sl rt) N R B C) sl rt) : vS (turnEnd ks L k sl rt) N R B C := by
  unfold turnEnd
  rw [if_pos h.1]
  exact h.2
theorem forL_ok {L : Nat} {xs : List D} (Inv : Nat → Sl → List O → Prop)
    (h : ∀ i x sl rt, xs[i]? = some x → Inv i sl rt → vE (g (.d x) sl rt) fun sl rt => vS (body sl rt) (gTurn ks L (Inv (i + 1))) R (gTurn ks L N) (gTurn ks L (Inv (i + 1))))
    (e : ∀ sl rt, Inv xs.length sl rt → N sl rt) : ∀ (n : Nat) (sl : Sl) (rt : List O), n ≤ xs.length → Inv (xs.length - n) sl rt → vS (forL ks L g body (xs.drop (xs.length - n)) sl rt) N R B C
  | 0, sl, rt, _, i0 => by
    rw [Nat.sub_zero, List.drop_length]
    exact e sl rt i0
  | n + 1, sl, rt, hn, i0 => by
    have hk : xs.length - (n + 1) < xs.length := by omega
    have hx : xs[xs.length - (n + 1)]? = some xs[xs.length - (n + 1)] := List.getElem?_eq_getElem hk
    rw [List.drop_eq_getElem_cons hk]
    have e1 : xs.length - (n + 1) + 1 = xs.length - n := by omega
    have h1 := h _ _ sl rt hx i0
    rw [e1] at h1 ⊢
    show vS ((g (.d _) sl rt).noex.seq sl _) N R B C
    rw [vS_seq, vE_noex]
    refine h1.imp fun sl2 rt2 h2 => ?_
    cases hb : body sl2 rt2 with
    | nx s r => rw [hb] at h2; exact v_turn ⟨h2.1, forL_ok Inv h e n _ _ (by omega) h2.2⟩
    | ct s r => rw [hb] at h2; exact v_turn ⟨h2.1, forL_ok Inv h e n _ _ (by omega) h2.2⟩
    | bk s r => rw [hb] at h2; exact v_turn h2
    | re x r => rw [hb] at h2; exact h2
    | ex c fs s r => rw [hb] at h2; exact h2
    | no => rw [hb] at h2; exact h2
theorem v_for (Inv : List D → Nat → Nat → Sl → List O → Prop)
    (h : vE (it sl rt) fun xs rt1 => Inv xs rt1.length 0 sl rt1 ∧
      (∀ i x sl rt, xs[i]? = some x → Inv xs rt1.length i sl rt → vE (g (.d x) sl rt) fun sl rt => vS (body sl rt) (gTurn ks rt1.length (Inv xs rt1.length (i + 1))) R
        (gTurn ks rt1.length N) (gTurn ks rt1.length (Inv xs rt1.length (i + 1)))) ∧
      (∀ sl rt, Inv xs rt1.length xs.length sl rt → N sl rt)) : vS (sFor ks it g body sl rt) N R B C := by
  show vS ((it sl rt).seq sl _) N R B C
  rw [vS_seq]
  refine h.imp fun xs rt1 ⟨h0, h1, h2⟩ => ?_
  have h3 := forL_ok (B := B) (C := C) (xs := xs) (Inv xs rt1.length) h1 h2 xs.length sl rt1 (Nat.le_refl _) (by rw [Nat.sub_self]; exact h0)
  rw [Nat.sub_self, List.drop_zero] at h3
  exact h3
theorem vS_while_aux {c : Ex Bool} {L : Nat} (Inv : Nat → Sl → List O → Prop)
    (h : ∀ n sl rt, Inv n sl rt → vE (c sl rt) fun b rt => if b = true then vS (body sl rt) (gTurn ks L fun sl rt => ∃ m, m < n ∧ Inv m sl rt) R (gTurn ks L N) (gTurn ks L fun sl rt => ∃ m, m < n ∧ Inv m sl rt) else N sl rt) :
    ∀ (f n : Nat) (sl : Sl) (rt : List O), n < f → Inv n sl rt → vS (whileN ks L c body f sl rt) N R B C
  | 0, _, _, _, hf, _ => absurd hf (Nat.not_lt_zero _)
  | f + 1, n, sl, rt, hf, i0 => by
    show vS ((c sl rt).seq sl _) N R B C
    rw [vS_seq]
    refine (h n sl rt i0).imp fun b rt1 h1 => ?_
    cases b with
    | false => exact h1
    | true =>
      rw [if_pos rfl] at h1 ⊢
      cases hb : body sl rt1 with
      | nx s r =>
        rw [hb] at h1
        obtain ⟨hg, m, hm, h1⟩ := h1
        exact v_turn ⟨hg, vS_while_aux Inv h f m _ _ (by omega) h1⟩
      | ct s r =>
        rw [hb] at h1
        obtain ⟨hg, m, hm, h1⟩ := h1
        exact v_turn ⟨hg, vS_while_aux Inv h f m _ _ (by omega) h1⟩
      | bk s r => rw [hb] at h1; exact v_turn h1
      | re x r => rw [hb] at h1; exact h1
      | ex c fs s r => rw [hb] at h1; exact h1
      | no => rw [hb] at h1; exact h1
/-- n: at most so many turns are left -/
theorem v_while {c : Ex Bool} (Inv : Nat → Sl → List O → Prop) (n : Nat) (h0 : Inv n sl rt)
    (h : ∀ n sl' rt', Inv n sl' rt' → vE (c sl' rt') fun b rt' => if b = true then vS (body sl' rt') (gTurn ks rt.length fun sl' rt' => ∃ m, m < n ∧ Inv m sl' rt') R (gTurn ks rt.length N)
      (gTurn ks rt.length fun sl' rt' => ∃ m, m < n ∧ Inv m sl' rt') else N sl' rt') : vS (sWhile ks c body sl rt) N R B C := by
  have h1 := vS_while_aux (B := B) (C := C) Inv h (n + 1) n sl rt (Nat.lt_succ_self _) h0
  show vS (whileX ks rt.length c body sl rt) N R B C
  have h2 : whileN ks rt.length c body (n + 1) sl rt ≠ .no := fun e => by rw [e] at h1; exact h1
  rw [whileX_of rfl h2]
  exact h1
theorem compL_ok {vs : List Nat} {d : Nat} {tt : Ex Bool} {el : Ex W} {xs : List D} {P : Unit → List O → Prop} (Inv : Nat → List O → List D → Prop)
    (h : ∀ i x r acc, xs[i]? = some x → Inv i r acc → r.length = d → vE (g (.d x) (kill vs sl) (r ++ [.lst acc])) fun sl1 rt => vE (tt sl1 rt) fun b rt => if b = true then vE (el sl1 rt) fun y rt => vE (vOf y rt) fun z rt =>
        tkOk (d + 1) (rt.take (d + 1)) = true ∧ ∃ r', rt.take (d + 1) = r' ++ [.lst acc] ∧ r'.length = d ∧ acc.length < 16000000 ∧ Inv (i + 1) r' (acc ++ [z])
      else tkOk (d + 1) (rt.take (d + 1)) = true ∧ ∃ r', rt.take (d + 1) = r' ++ [.lst acc] ∧ r'.length = d ∧ Inv (i + 1) r' acc)
    (e : ∀ r acc, Inv xs.length r acc → r.length = d → P () (r ++ [.lst acc])) : ∀ (n : Nat) (r : List O) (acc : List D), n ≤ xs.length → Inv (xs.length - n) r acc → r.length = d → vE (compL vs d g tt el sl (xs.drop (xs.length - n)) (r ++ [.lst acc])) P
  | 0, r, acc, _, i0, hr => by
    rw [Nat.sub_zero, List.drop_length]
    exact e r acc i0 hr
  | n + 1, r, acc, hn, i0, hr => by
    have hk : xs.length - (n + 1) < xs.length := by omega
    have hx : xs[xs.length - (n + 1)]? = some xs[xs.length - (n + 1)] := List.getElem?_eq_getElem hk
    rw [List.drop_eq_getElem_cons hk]
    have e1 : xs.length - (n + 1) + 1 = xs.length - n := by omega
    have h1 := h _ _ r acc hx i0 hr
    rw [e1] at h1 ⊢
    show vE ((g (.d _) (kill vs sl) (r ++ [.lst acc])).noex.bind _) P
    rw [vE_bind, vE_noex]
    refine h1.imp fun sl2 rt2 h2 => ?_
    rw [vE_bind, vE_noex]
    refine h2.imp fun b rt3 h3 => ?_
    cases b with
    | false =>
      obtain ⟨g0, r', g1, g2, g3⟩ := h3
      rw [if_neg (by decide), if_pos g0, g1]
      exact compL_ok Inv h e n r' acc (by omega) g3 g2
    | true =>
      rw [if_pos rfl] at h3 ⊢
      rw [vE_bind, vE_noex]
      refine h3.imp fun y rt4 h4 => ?_
      rw [vE_bind]
      refine h4.imp fun z rt5 ⟨g0, r', g1, g2, g3, g4⟩ => ?_
      have g5 : rt5[d]? = some (.lst acc) := by
        have : (rt5.take (d + 1))[d]? = some (.lst acc) := by rw [g1, List.getElem?_append_right (by omega), g2, Nat.sub_self]; rfl
        rwa [List.getElem?_take, if_pos (by omega)] at this
      have hlen : d < rt5.length := (List.getElem?_eq_some_iff.mp g5).1
      have g6 : (rt5.set d (.lst (acc ++ [z]))).take (d + 1) = r' ++ [.lst (acc ++ [z])] := by
        have e2 : rt5.take d = r' := by
          have := congrArg (List.take d) g1
          rw [List.take_take, Nat.min_eq_left (by omega), List.take_left' g2] at this
          exact this
        rw [List.take_succ, List.getElem?_set_self hlen, List.take_set_of_le (Nat.le_refl _), e2]
        rfl
      have g7 : tkOk (d + 1) (r' ++ [O.lst (acc ++ [z])]) = true := by
        rw [g1] at g0
        unfold tkOk at g0 ⊢
        rw [List.all_append] at g0 ⊢
        rw [Bool.and_eq_true] at g0
        rw [g0.1]
        rfl
      simp only [g5]
      rw [if_pos ⟨g3, by rw [g6]; exact g7⟩]
      rw [g6]
      exact compL_ok Inv h e n r' (acc ++ [z]) (by omega) g4 g2
theorem v_comp {vs : List Nat} {tt : Ex Bool} {el : Ex W} (Inv : List D → Nat → List O → List D → Prop)
    (h : vE (it sl rt) fun xs rt1 => Inv xs 0 rt1 [] ∧
      (∀ i x r acc, xs[i]? = some x → Inv xs i r acc → r.length = rt1.length → vE (g (.d x) (kill vs sl) (r ++ [.lst acc])) fun sl1 rt => vE (tt sl1 rt) fun b rt => if b = true then vE (el sl1 rt) fun y rt => vE (vOf y rt) fun z rt =>
          tkOk (rt1.length + 1) (rt.take (rt1.length + 1)) = true ∧ ∃ r', rt.take (rt1.length + 1) = r' ++ [.lst acc] ∧ r'.length = rt1.length ∧ acc.length < 16000000 ∧ Inv xs (i + 1) r' (acc ++ [z])
        else tkOk (rt1.length + 1) (rt.take (rt1.length + 1)) = true ∧ ∃ r', rt.take (rt1.length + 1) = r' ++ [.lst acc] ∧ r'.length = rt1.length ∧ Inv xs (i + 1) r' acc) ∧
      ∀ r acc, Inv xs xs.length r acc → r.length = rt1.length → Q (.r rt1.length) (r ++ [.lst acc])) : vE (eComp vs it g tt el sl rt) Q := by
  show vE ((it sl rt).bind _) Q
  rw [vE_bind]
  refine h.imp fun xs rt1 ⟨h0, h1, h2⟩ => ?_
  rw [vE_bind]
  have h3 := compL_ok (sl := sl) (P := fun _ rt' => Q (.r rt1.length) rt') (Inv xs) h1 (fun r acc i e => h2 r acc i e) xs.length rt1 [] (Nat.le_refl _) (by rw [Nat.sub_self]; exact h0) rfl
  rw [Nat.sub_self, List.drop_zero] at h3
  exact h3
end


/-! ### loops over what stays live -/
def vN (o : Nx) (P : W → List O → Prop) (S : Prop) : Prop := match o with
  | .it x rt => P x rt
  | .stop => S
  | .no => False
section
variable {Q : W → List O → Prop} {N : Sl → List O → Prop} {R : W → List O → Prop} {B C : Sl → List O → Prop} {sl : Sl} {rt : List O} {it : Ex (ItM × Nat)} {g : Gx} {body : Sx} {ks : List Nat}
theorem forV_ok {L : Nat} {nx : ItM} {fu : Nat} (Inv : Nat → Sl → List O → Prop)
    (h : ∀ i sl rt, Inv i sl rt → i < fu ∧ vN (nx i rt) (fun x rt => vE (g x sl rt) fun sl rt => vS (body sl rt) (gTurn ks L (Inv (i + 1))) R (gTurn ks L N) (gTurn ks L (Inv (i + 1)))) (N sl rt)) :
    ∀ (n i : Nat) (sl : Sl) (rt : List O), n + i = fu → Inv i sl rt → vS (forV nx ks L g body n i sl rt) N R B C
  | 0, i, sl, rt, hn, i0 => absurd (h i sl rt i0).1 (by omega)
  | n + 1, i, sl, rt, hn, i0 => by
    have h1 := (h i sl rt i0).2
    unfold forV
    cases hx : nx i rt with
    | no => rw [hx] at h1; exact h1
    | stop => rw [hx] at h1; exact h1
    | it x rx =>
      rw [hx] at h1
      show vS ((g x sl rx).noex.seq sl _) N R B C
      rw [vS_seq, vE_noex]
      refine h1.imp fun sl2 rt2 h2 => ?_
      cases hb : body sl2 rt2 with
      | nx s r => rw [hb] at h2; exact v_turn ⟨h2.1, forV_ok Inv h n _ _ _ (by omega) h2.2⟩
      | ct s r => rw [hb] at h2; exact v_turn ⟨h2.1, forV_ok Inv h n _ _ _ (by omega) h2.2⟩
      | bk s r => rw [hb] at h2; exact v_turn h2
      | re x r => rw [hb] at h2; exact h2
      | ex c fs s r => rw [hb] at h2; exact h2
      | no => rw [hb] at h2; exact h2
theorem v_forV (Inv : Nat → Sl → List O → Prop)
    (h : vE (it sl rt) fun q rt1 => Inv 0 sl rt1 ∧
      ∀ i sl rt, Inv i sl rt → i < q.2 ∧ vN (q.1 i rt) (fun x rt => vE (g x sl rt) fun sl rt => vS (body sl rt) (gTurn ks rt1.length (Inv (i + 1))) R (gTurn ks rt1.length N) (gTurn ks rt1.length (Inv (i + 1)))) (N sl rt)) :
    vS (sForV ks it g body sl rt) N R B C := by
  show vS ((it sl rt).seq sl _) N R B C
  rw [vS_seq]
  refine h.imp fun q rt1 ⟨h0, h1⟩ => ?_
  exact forV_ok Inv h1 q.2 0 sl rt1 rfl h0
theorem v_itL {m : Ex W} {P : ItM × Nat → List O → Prop} : vE (itL m sl rt) P = vE (m sl rt) fun x rt => match x with
    | .r n => match rd rt n with
      | some (.lst xs) => P (nxL n, xs.length + 1) rt
      | some (.nst xs) => P (nxL n, xs.length + 1) rt
      | _ => False
    | _ => False := by
  show vE ((m sl rt).bind _) P = _
  rw [vE_bind]
  congr 1
  funext x rt
  cases x with
  | d x => rfl
  | r n =>
    simp only
    cases rd rt n with
    | none => rfl
    | some o => cases o <;> rfl
theorem rd_app {n : Nat} {o : O} {t : List O} (h : rd rt n = some o) : rd (rt ++ t) n = some o := by
  unfold rd at h ⊢
  by_cases hn : n < rt.length
  · rw [List.getElem?_append_left hn]
    cases e : rt[n]? with
    | none => rw [e] at h; cases h
    | some q =>
      rw [e] at h
      cases q <;> simp only at h ⊢ <;> first | exact h | skip
      rename_i m p
      cases e2 : rt[m]? with
      | none => rw [e2] at h; cases h
      | some q =>
        rw [List.getElem?_append_left (List.getElem?_eq_some_iff.mp e2).1, e2]
        rw [e2] at h
        exact h
  · rw [List.getElem?_eq_none (by omega)] at h
    cases h
/-- a comprehension over a live list that it leaves alone -/
theorem compV_ok2 {vs : List Nat} {tt : Ex Bool} {el : Ex W} {xs : List D} {n : Nat} (F : D → Option D) (hr : rd rt n = some (.lst xs)) (ht : tkOk (rt.length + 1) rt = true) (hl : xs.length < 16000000)
    (h : ∀ (i : Nat) x acc, xs[i]? = some x → vE (g (.d x) (kill vs sl) (rt ++ [.lst acc])) fun sl1 rt2 => vE (tt sl1 rt2) fun b rt3 => if b = true then vE (el sl1 rt3) fun y rt4 => vE (vOf y rt4) fun z rt5 => rt5.take (rt.length + 1) = rt ++ [.lst acc] ∧ F x = some z
        else rt3.take (rt.length + 1) = rt ++ [.lst acc] ∧ F x = none) :
    ∀ (k i : Nat) (acc : List D), k + i = xs.length → acc = (xs.take i).filterMap F → acc.length ≤ i → vE (compV (nxL n) vs rt.length g tt el sl (k + 1) i (rt ++ [.lst acc])) fun _ rt' => rt' = rt ++ [.lst (xs.filterMap F)]
  | k, i, acc, hk, ha, hn => by
    unfold compV
    have e : rd (rt ++ [.lst acc]) n = some (.lst xs) := rd_app hr
    have tk : ∀ a : List D, tkOk (rt.length + 1) (rt ++ [.lst a]) = true := fun a => by
      unfold tkOk at ht ⊢
      rw [List.all_append, ht]; rfl
    cases hx : xs[i]? with
    | none =>
      have hi := List.getElem?_eq_none_iff.mp hx
      have : nxL n i (rt ++ [.lst acc]) = .stop := by unfold nxL; simp only [e, hx]
      rw [this]
      show rt ++ [.lst acc] = _
      rw [ha, List.take_of_length_le hi]
    | some x =>
      have hi := (List.getElem?_eq_some_iff.mp hx).1
      have en : nxL n i (rt ++ [.lst acc]) = .it (.d x) (rt ++ [.lst acc]) := by unfold nxL; simp only [e, hx]
      rw [en]
      obtain ⟨k, rfl⟩ : ∃ k', k = k' + 1 := ⟨k - 1, by omega⟩
      have st : (xs.take (i + 1)).filterMap F = acc ++ (match F x with | some z => [z] | none => []) := by
        rw [List.take_succ, hx, List.filterMap_append, ← ha]
        cases hF : F x <;> simp [hF]
      show vE ((g (.d x) (kill vs sl) _).noex.bind _) _
      rw [vE_bind, vE_noex]
      refine (h i x acc hx).imp fun sl1 rt2 h2 => ?_
      rw [vE_bind, vE_noex]
      refine h2.imp fun b rt3 h3 => ?_
      cases b with
      | true =>
        rw [if_pos rfl] at h3 ⊢
        rw [vE_bind, vE_noex]
        refine h3.imp fun y rt4 h4 => ?_
        rw [vE_bind]
        refine h4.imp fun z rt5 ⟨h5, hF⟩ => ?_
        have g5 : rt5[rt.length]? = some (.lst acc) := by
          have : (rt5.take (rt.length + 1))[rt.length]? = some (.lst acc) := by rw [h5, List.getElem?_append_right (Nat.le_refl _), Nat.sub_self]; rfl
          rwa [List.getElem?_take, if_pos (by omega)] at this
        have hlen : rt.length < rt5.length := (List.getElem?_eq_some_iff.mp g5).1
        have g6 : (rt5.set rt.length (.lst (acc ++ [z]))).take (rt.length + 1) = rt ++ [.lst (acc ++ [z])] := by
          have e2 : rt5.take rt.length = rt := by
            have := congrArg (List.take rt.length) h5
            rw [List.take_take, Nat.min_eq_left (by omega), List.take_left' rfl] at this
            exact this
          rw [List.take_succ, List.getElem?_set_self hlen, List.take_set_of_le (Nat.le_refl _), e2]
          rfl
        simp only [g5]
        rw [if_pos ⟨by omega, by rw [g6]; exact tk _⟩, g6]
        exact compV_ok2 F hr ht hl h k (i + 1) (acc ++ [z]) (by omega) (by rw [st, hF]) (by simp; omega)
      | false =>
        rw [if_neg (by decide)] at h3 ⊢
        obtain ⟨h5, hF⟩ := h3
        rw [h5, if_pos (tk _)]
        exact compV_ok2 F hr ht hl h k (i + 1) acc (by omega) (by rw [st, hF]; simp) (by omega)
theorem v_compFV {vs : List Nat} {tt : Ex Bool} {el m : Ex W} (F : D → Option D)
    (h : vE (m sl rt) fun x rt1 => ∃ n xs, x = .r n ∧ rd rt1 n = some (.lst xs) ∧ tkOk (rt1.length + 1) rt1 = true ∧ xs.length < 16000000 ∧
      (∀ (i : Nat) x acc, xs[i]? = some x → vE (g (.d x) (kill vs sl) (rt1 ++ [.lst acc])) fun sl1 rt2 => vE (tt sl1 rt2) fun b rt3 => if b = true then vE (el sl1 rt3) fun y rt4 => vE (vOf y rt4) fun z rt5 => rt5.take (rt1.length + 1) = rt1 ++ [.lst acc] ∧ F x = some z
        else rt3.take (rt1.length + 1) = rt1 ++ [.lst acc] ∧ F x = none) ∧
      Q (.r rt1.length) (rt1 ++ [.lst (xs.filterMap F)])) : vE (eCompV vs (itL m) g tt el sl rt) Q := by
  show vE ((itL m sl rt).bind _) Q
  rw [vE_bind, v_itL]
  refine h.imp fun x rt1 ⟨n, xs, ex, hr, ht, hl, hs, hq⟩ => ?_
  subst ex
  simp only [hr]
  rw [vE_bind]
  refine (compV_ok2 F hr ht hl hs xs.length 0 [] rfl rfl (Nat.le_refl _)).imp fun _ rt' e => ?_
  subst e
  exact hq
end


/-! ### the same, closed: nothing that looks at a goal runs the mirror -/
structure wE {α : Type} (o : Ou α) (Q : α → List O → Prop) : Prop where
  h : vE o Q
structure wS (o : Os) (N : Sl → List O → Prop) (R : W → List O → Prop) (B C : Sl → List O → Prop) : Prop where
  h : vS o N R B C
theorem wE_fun {α : Type} {o : Ou α} {Q : α → List O → Prop} : wE o Q = vE o Q := propext ⟨fun h => h.h, fun h => ⟨h⟩⟩
theorem wS_fun {o : Os} {N : Sl → List O → Prop} {R : W → List O → Prop} {B C : Sl → List O → Prop} : wS o N R B C = vS o N R B C := propext ⟨fun h => h.h, fun h => ⟨h⟩⟩
/-! ### what a mirror answers, by its weakest precondition -/
section
variable {α β : Type} {Q : α → List O → Prop} {N : Sl → List O → Prop} {R : W → List O → Prop} {B C : Sl → List O → Prop} {sl : Sl} {rt : List O}
theorem wE.imp {o : Ou α} {P : α → List O → Prop} (h : wE o P) (i : ∀ x rt, P x rt → Q x rt) : wE o Q := ⟨h.h.imp i⟩
theorem wE.ex {o : Ou α} (h : wE o Q) : ∃ x rt, o = .ok x rt ∧ Q x rt := h.h.ex
theorem wS.imp {o : Os} {N' : Sl → List O → Prop} {R' : W → List O → Prop} {B' C' : Sl → List O → Prop} (h : wS o N' R' B' C') (i : ∀ s r, N' s r → N s r) (j : ∀ s r, R' s r → R s r) (k : ∀ s r, B' s r → B s r) (l : ∀ s r, C' s r → C s r) : wS o N R B C := ⟨h.h.imp i j k l⟩
theorem wE_ok {x : α} : wE (.ok x rt) Q = Q x rt := by
  simp only [wE_fun, wS_fun]
  exact vE_ok
theorem wE_no : wE (.no : Ou α) Q = False := by
  simp only [wE_fun, wS_fun]
  exact vE_no
theorem wE_bind {o : Ou β} {k : β → List O → Ou α} : wE (o.bind k) Q = wE o fun x rt => wE (k x rt) Q := by
  simp only [wE_fun, wS_fun]
  exact vE_bind
theorem wE_noex {o : Ou α} : wE o.noex Q = wE o Q := by
  simp only [wE_fun, wS_fun]
  exact vE_noex
theorem wE_ite {c : Prop} [Decidable c] {a b : Ou α} : wE (if c then a else b) Q = if c then wE a Q else wE b Q := by
  simp only [wE_fun, wS_fun]
  exact vE_ite
theorem wS_seq {o : Ou β} {k : β → List O → Os} : wS (o.seq sl k) N R B C = wE o fun x rt => wS (k x rt) N R B C := by
  simp only [wE_fun, wS_fun]
  exact vS_seq
theorem wS_nx : wS (.nx sl rt) N R B C = N sl rt := by
  simp only [wE_fun, wS_fun]
  exact vS_nx
theorem wS_re {x : W} : wS (.re x rt) N R B C = R x rt := by
  simp only [wE_fun, wS_fun]
  exact vS_re
theorem wS_bk : wS (.bk sl rt) N R B C = B sl rt := by
  simp only [wE_fun, wS_fun]
  exact vS_bk
theorem wS_ct : wS (.ct sl rt) N R B C = C sl rt := by
  simp only [wE_fun, wS_fun]
  exact vS_ct
theorem wS_no : wS .no N R B C = False := by
  simp only [wE_fun, wS_fun]
  exact vS_no
theorem wS_then {o : Os} {k : Sx} : wS (o.andThen k) N R B C = wS o (fun sl rt => wS (k sl rt) N R B C) R B C := by
  simp only [wE_fun, wS_fun]
  exact vS_then
theorem wS_ite {c : Prop} [Decidable c] {a b : Os} : wS (if c then a else b) N R B C = if c then wS a N R B C else wS b N R B C := by
  simp only [wE_fun, wS_fun]
  exact vS_ite
end
/-! ### the combinators -/
section
variable {Q : W → List O → Prop} {T : Bool → List O → Prop} {A : List W → List O → Prop} {G : Sl → List O → Prop} {N : Sl → List O → Prop} {R : W → List O → Prop} {B C : Sl → List O → Prop} {sl : Sl} {rt : List O} {m ma mb mc : Ex W} {ms : Ex (List W)} {s t : Sx} {mt nt : Ex Bool} {g : Gx} {i : Nat}
/-- what is still to be done -/
def Kont (t : Sx) (N : Sl → List O → Prop) (R : W → List O → Prop) (B C : Sl → List O → Prop) (sl : Sl) (rt : List O) : Prop := wS (t sl rt) N R B C
theorem kont : Kont t N R B C sl rt = wS (t sl rt) N R B C := rfl
theorem w_seq : wS (sSeq s t sl rt) N R B C = wS (s sl rt) (Kont t N R B C) R B C := by
  unfold Kont
  simp only [wS_fun]
  exact vS_then
/-- an assertion between two statements -/
theorem w_cut (M : Sl → List O → Prop) (h : wS (s sl rt) M R B C) (k : ∀ sl rt, M sl rt → wS (t sl rt) N R B C) : wS (sSeq s t sl rt) N R B C := by
  rw [w_seq]
  exact h.imp k (fun _ _ h => h) (fun _ _ h => h) fun _ _ h => h
theorem w_nil : wS (sNil sl rt) N R B C = N sl rt := by
  simp only [wE_fun, wS_fun]
  exact v_nil
theorem w_set : wS (sSet i m sl rt) N R B C = wE (m sl rt) fun x rt => N (sl.set i (some x)) rt := by
  simp only [wE_fun, wS_fun]
  exact v_set
theorem w_drop : wS (sDrop m sl rt) N R B C = wE (m sl rt) fun _ rt => N sl rt := by
  simp only [wE_fun, wS_fun]
  exact v_drop
theorem w_ret : wS (sRet m sl rt) N R B C = wE (m sl rt) fun x rt => R x rt := by
  simp only [wE_fun, wS_fun]
  exact v_ret
theorem w_retN : wS (sRetN sl rt) N R B C = R (.d .non) rt := by
  simp only [wE_fun, wS_fun]
  exact v_retN
theorem w_brk : wS (sBrk sl rt) N R B C = B sl rt := by
  simp only [wE_fun, wS_fun]
  exact v_brk
theorem w_cont : wS (sCont sl rt) N R B C = C sl rt := by
  simp only [wE_fun, wS_fun]
  exact v_cont
theorem w_if : wS (sIf mt s t sl rt) N R B C = wE (mt sl rt) fun b rt => if b = true then wS (s sl rt) N R B C else wS (t sl rt) N R B C := by
  simp only [wE_fun, wS_fun]
  exact v_if
theorem w_asg : wS (sAsg m g sl rt) N R B C = wE (m sl rt) fun x rt => wE (g x sl rt) fun sl rt => N sl rt := by
  simp only [wE_fun, wS_fun]
  exact v_asg
theorem w_var {x : W} (h : sl[i]? = some (some x)) : wE (eVar i sl rt) Q = Q x rt := by
  simp only [wE_fun, wS_fun]
  exact v_var h
theorem w_c {x : D} : wE (eC x sl rt) Q = Q (.d x) rt := by
  simp only [wE_fun, wS_fun]
  exact v_c
theorem w_op {f : W → W → List O → Ou W} : wE (eOp f ma mb sl rt) Q = wE (ma sl rt) fun x rt => wE (mb sl rt) fun y rt => wE (f x y rt) Q := by
  simp only [wE_fun, wS_fun]
  exact v_op
theorem w_eB : wE (eB m sl rt) T = wE (m sl rt) fun x rt => obl (fun b => T b rt) x := by
  simp only [wE_fun, wS_fun]
  exact v_eB
theorem w_notT : wE (eNotT mt sl rt) T = wE (mt sl rt) fun b rt => T (!b) rt := by
  simp only [wE_fun, wS_fun]
  exact v_notT
theorem w_andT : wE (eAndT mt nt sl rt) T = wE (mt sl rt) fun b rt => if b = true then wE (nt sl rt) T else T false rt := by
  simp only [wE_fun, wS_fun]
  exact v_andT
theorem w_orT : wE (eOrT mt nt sl rt) T = wE (mt sl rt) fun b rt => if b = true then T true rt else wE (nt sl rt) T := by
  simp only [wE_fun, wS_fun]
  exact v_orT
theorem w_eAnd : wE (eAnd ma mb sl rt) Q = wE (ma sl rt) fun x rt => obl (fun b => if b = true then wE (mb sl rt) Q else Q (.d (.bl false)) rt) x := by
  simp only [wE_fun, wS_fun]
  exact v_eAnd
theorem w_eOr : wE (eOr ma mb sl rt) Q = wE (ma sl rt) fun x rt => obl (fun b => if b = true then Q (.d (.bl true)) rt else wE (mb sl rt) Q) x := by
  simp only [wE_fun, wS_fun]
  exact v_eOr
theorem w_eNot : wE (eNot m sl rt) Q = wE (m sl rt) fun x rt => obl (fun b => Q (.d (.bl (!b))) rt) x := by
  simp only [wE_fun, wS_fun]
  exact v_eNot
theorem w_eNeg : wE (eNeg m sl rt) Q = wE (m sl rt) fun x rt => oint (fun i => Q (.d (.int (-i))) rt) x := by
  simp only [wE_fun, wS_fun]
  exact v_eNeg
theorem w_eIf : wE (eIf mt ma mb sl rt) Q = wE (mt sl rt) fun b rt => if b = true then wE (ma sl rt) Q else wE (mb sl rt) Q := by
  simp only [wE_fun, wS_fun]
  exact v_eIf
theorem w_chain {f f' : W → W → List O → Ou W} : wE (eChain f f' ma mb mc sl rt) Q = wE (ma sl rt) fun x rt => wE (mb sl rt) fun y rt => wE (f x y rt) fun z rt => obl (fun b => if b = true then wE (mc sl rt) fun u rt => wE (f' y u rt) Q else Q (.d (.bl false)) rt) z := by
  simp only [wE_fun, wS_fun]
  exact v_chain
theorem w_aNil : wE (aNil sl rt) A = A [] rt := by
  simp only [wE_fun, wS_fun]
  exact v_aNil
theorem w_aCons : wE (aCons m ms sl rt) A = wE (m sl rt) fun x rt => wE (ms sl rt) fun xs rt => A (x :: xs) rt := by
  simp only [wE_fun, wS_fun]
  exact v_aCons
theorem w_eVal : wE (eVal m sl rt) Q = wE (m sl rt) fun x rt => wE (vOf x rt) fun y rt => Q (.d y) rt := by
  simp only [wE_fun, wS_fun]
  exact v_eVal
theorem w_eFn {f : List W → List O → Ou W} : wE (eFn f ms sl rt) Q = wE (ms sl rt) fun xs rt => wE (f xs rt) Q := by
  simp only [wE_fun, wS_fun]
  exact v_eFn
theorem w_eMt {ty : W → List O → Bool} {f : W → List W → List O → Ou W} : wE (eMt ty f m ms sl rt) Q = wE (m sl rt) fun x rt => if ty x rt = true then wE (ms sl rt) fun xs rt => wE (f x xs rt) Q else False := by
  simp only [wE_fun, wS_fun]
  exact v_eMt
theorem w_eTup : wE (eTup ms sl rt) Q = wE (ms sl rt) fun ws rt => wE (valsOf ws rt) fun xs rt => wE (mkTup xs rt) Q := by
  simp only [wE_fun, wS_fun]
  exact v_eTup
theorem w_eLst : wE (eLst ms sl rt) Q = wE (ms sl rt) fun ws rt => wE (valsOf ws rt) fun xs rt => wE (mkLst xs rt) Q := by
  simp only [wE_fun, wS_fun]
  exact v_eLst
theorem w_oNone {P : Option Int → List O → Prop} : wE (oNone sl rt) P = P none rt := by
  simp only [wE_fun, wS_fun]
  exact v_oNone
theorem w_oSome {P : Option Int → List O → Prop} : wE (oSome m sl rt) P = wE (m sl rt) fun x rt => oint (fun i => P (some i) rt) x := by
  simp only [wE_fun, wS_fun]
  exact v_oSome
theorem w_eSl {l h : Ex (Option Int)} : wE (eSl m l h sl rt) Q = wE (m sl rt) fun x rt => wE (l sl rt) fun lo rt => wE (h sl rt) fun hi rt => wE (gSl x lo hi rt) Q := by
  simp only [wE_fun, wS_fun]
  exact v_eSl
theorem w_isN : wE (eIsN m sl rt) Q = wE (m sl rt) fun x rt => Q (.d (.bl x.isN)) rt := by
  simp only [wE_fun, wS_fun]
  exact v_isN
theorem w_notN : wE (eNotN m sl rt) Q = wE (m sl rt) fun x rt => Q (.d (.bl (!x.isN))) rt := by
  simp only [wE_fun, wS_fun]
  exact v_notN
theorem w_gN {x : W} : wE (gN i x sl rt) G = G (sl.set i (some x)) rt := by
  simp only [wE_fun, wS_fun]
  exact v_gN
theorem w_gSb {x : W} : wE (gSb ma mb x sl rt) G = wE (ma sl rt) fun o rt => wE (mb sl rt) fun i rt => wE (vOf x rt) fun y rt => wE (setIx o i y rt) fun _ rt => G sl rt := by
  simp only [wE_fun, wS_fun]
  exact v_gSb
theorem w_gT {n : Nat} {ms : List D → Ex Sl} {xs : List D} : wE (gT n ms (.d (.tup xs)) sl rt) G = if xs.length = n then wE (ms xs sl rt) G else False := by
  simp only [wE_fun, wS_fun]
  exact v_gT
theorem w_gNil : wE (gNil' [] sl rt) G = G sl rt := by
  simp only [wE_fun, wS_fun]
  exact v_gNil
theorem w_gCons {ms : List D → Ex Sl} {x : D} {xs : List D} : wE (gCons' g ms (x :: xs) sl rt) G = wE (g (.d x) sl rt) fun sl rt => wE (ms xs sl rt) G := by
  simp only [wE_fun, wS_fun]
  exact v_gCons
theorem w_call {f : FM} {np : Nat} : wE (eCall f np ms sl rt) Q = wE (ms sl rt) fun ws rt => if ws.length = np then wE (callF f ws rt) Q else False := by
  simp only [wE_fun, wS_fun]
  exact v_call
theorem w_call0 {f : FM} : wE (eCall0 f sl rt) Q = wE (callF f [] rt) Q := by
  simp only [wE_fun, wS_fun]
  exact v_call0
theorem w_callF {f : FM} {ws : List W} : wE (callF f ws rt) Q = if okRoots (roots ws) rt = true then wE (f (ws.map (renum (roots ws))) (pk (roots ws) rt (.d .non))) (fun x rs => if allNv rs = true then Q (back (roots ws) rt.length x) (put (roots ws) rs rt ++ rs.drop (roots ws).length) else False) else False := by
  simp only [wE_fun, wS_fun]
  exact v_callF
theorem w_mkF {n : Nat} {b : Sx} {ws : List W} : wE (mkF n b ws rt) Q = wS (b (ws.map some ++ List.replicate (n - ws.length) none) rt) (fun _ rt' => wE (ret rt.length (.d .non) rt') Q) (fun x rt' => wE (ret rt.length x rt') Q) (fun _ _ => False) (fun _ _ => False) := by
  simp only [wE_fun, wS_fun]
  exact v_mkF
theorem w_retD {k : Nat} {x : D} : wE (ret k (.d x) rt) Q = if allNv (rt.take k) = true then Q (.d x) (rt.take k) else False := by
  simp only [wE_fun, wS_fun]
  exact v_retD
theorem w_retR {k j : Nat} : wE (ret k (.r j) rt) Q = if allNv (rt.take k) = true then (if j < k then Q (.r j) (rt.take k) else match rt[j]? with | some o => if o.isVw = true then False else Q (.r k) (rt.take k ++ [o]) | none => False) else False := by
  simp only [wE_fun, wS_fun]
  exact v_retR
theorem w_ipA {f : W → W → List O → Ou W} {x : W} (h : sl[i]? = some (some x)) : wS (ipA f i m sl rt) N R B C = wE (m sl rt) fun y rt => wE (f x y rt) fun z rt => N (sl.set i (some z)) rt := by
  simp only [wE_fun, wS_fun]
  exact v_ipA h
theorem w_augS {f : W → W → List O → Ou W} : wS (sAugS f ma mb m sl rt) N R B C = wE (ma sl rt) fun o rt => wE (mb sl rt) fun i rt => wE (gIxA o i rt) fun x rt => wE (m sl rt) fun y rt => wE (f x y rt) fun z rt => wE (vOf z rt) fun z rt => wE (setIx o i z rt) fun _ rt => N sl rt := by
  simp only [wE_fun, wS_fun]
  exact v_augS
theorem w_par {i j : Nat} : wS (sPar i j ms sl rt) N R B C = wE (ms sl rt) fun xs rt => match xs with | [x, y] => N ((sl.set i (some x)).set j (some y)) rt | _ => False := by
  simp only [wE_fun, wS_fun]
  show vS ((ms sl rt).seq sl _) N R B C = _
  rw [vS_seq]
  congr 1
  funext xs rt
  rcases xs with _ | ⟨x, _ | ⟨y, _ | ⟨z, xs⟩⟩⟩ <;> rfl
theorem w_lenSet : wE (eLenSet m sl rt) Q = wE (m sl rt) fun x rt => match (lsOf x rt).bind intsOf with
  | some ns => if ns.length < 64 then Q (.d (.int (firsts ns).length)) rt else False
  | none => False := by
  simp only [wE_fun, wS_fun]
  show vE ((m sl rt).bind _) Q = _
  rw [vE_bind]
  congr 1
  funext x rt
  cases (lsOf x rt).bind intsOf with
  | none => rfl
  | some ns => exact vE_ite
theorem w_dk0 : wE (eDK0 sl rt) Q = Q (.r rt.length) (rt ++ [.dk []]) := by
  simp only [wE_fun]
  rfl
theorem w_dt0 : wE (eDT0 sl rt) Q = Q (.r rt.length) (rt ++ [.dt []]) := by
  simp only [wE_fun]
  rfl
def trP (P : Bool → Prop) : Option Bool → Prop
  | some b => P b
  | none => False
theorem trP_some {P : Bool → Prop} {b : Bool} : trP P (some b) = P b := rfl
theorem w_tr : wE (eTr m sl rt) T = wE (m sl rt) fun x rt => trP (fun b => T b rt) (trD x rt) := by
  simp only [wE_fun]
  show vE ((m sl rt).bind _) T = _
  rw [vE_bind]
  congr 1
  funext x rt
  cases trD x rt <;> rfl
theorem w_eLRg : wE (eLRg m sl rt) Q = wE (m sl rt) fun x rt => oint (fun n => if n ≤ 16000000 ∧ 0 ≤ n then Q (.r rt.length) (rt ++ [.lst (rangeD 0 n.toNat)]) else False) x := by
  simp only [wE_fun, wS_fun]
  show vE ((m sl rt).bind _) Q = _
  rw [vE_bind]
  congr 1
  funext x rt
  cases x with
  | r n => rfl
  | d x => cases x <;> first | rfl | exact vE_ite
theorem w_eRevL : wE (eRevL m sl rt) Q = wE (m sl rt) fun x rt => match lsOf x rt with
  | some xs => Q (.r rt.length) (rt ++ [.lst xs.reverse])
  | none => False := by
  simp only [wE_fun, wS_fun]
  show vE ((m sl rt).bind _) Q = _
  rw [vE_bind]
  congr 1
  funext x rt
  cases lsOf x rt <;> rfl
theorem w_itSeq {P : List D → List O → Prop} : wE (itSeq m sl rt) P = wE (m sl rt) fun x rt => wE (vOf x rt) fun y rt => match seqOf y with | some xs => P xs rt | none => False := by
  simp only [wE_fun, wS_fun]
  exact v_itSeq
end
/-! ### loops -/
section
variable {Q : W → List O → Prop} {N : Sl → List O → Prop} {R : W → List O → Prop} {B C : Sl → List O → Prop} {sl : Sl} {rt : List O} {it : Ex (List D)} {g : Gx} {body : Sx} {ks : List Nat}

theorem w_for (Inv : List D → Nat → Nat → Sl → List O → Prop)
    (h : wE (it sl rt) fun xs rt1 => Inv xs rt1.length 0 sl rt1 ∧
      (∀ i x sl rt, xs[i]? = some x → Inv xs rt1.length i sl rt → wE (g (.d x) sl rt) fun sl rt => wS (body sl rt) (gTurn ks rt1.length (Inv xs rt1.length (i + 1))) R
        (gTurn ks rt1.length N) (gTurn ks rt1.length (Inv xs rt1.length (i + 1)))) ∧
      (∀ sl rt, Inv xs rt1.length xs.length sl rt → N sl rt)) : wS (sFor ks it g body sl rt) N R B C := by
  simp only [wE_fun, wS_fun] at h ⊢
  exact v_for Inv h
theorem w_while {c : Ex Bool} (Inv : Nat → Sl → List O → Prop) (n : Nat) (h0 : Inv n sl rt)
    (h : ∀ n sl' rt', Inv n sl' rt' → wE (c sl' rt') fun b rt' => if b = true then wS (body sl' rt') (gTurn ks rt.length fun sl' rt' => ∃ m, m < n ∧ Inv m sl' rt') R (gTurn ks rt.length N)
      (gTurn ks rt.length fun sl' rt' => ∃ m, m < n ∧ Inv m sl' rt') else N sl' rt') : wS (sWhile ks c body sl rt) N R B C := by
  simp only [wE_fun, wS_fun] at h ⊢
  exact v_while Inv n h0 h
theorem w_comp {vs : List Nat} {tt : Ex Bool} {el : Ex W} (Inv : List D → Nat → List O → List D → Prop)
    (h : wE (it sl rt) fun xs rt1 => Inv xs 0 rt1 [] ∧
      (∀ i x r acc, xs[i]? = some x → Inv xs i r acc → r.length = rt1.length → wE (g (.d x) (kill vs sl) (r ++ [.lst acc])) fun sl1 rt => wE (tt sl1 rt) fun b rt => if b = true then wE (el sl1 rt) fun y rt => wE (vOf y rt) fun z rt =>
          tkOk (rt1.length + 1) (rt.take (rt1.length + 1)) = true ∧ ∃ r', rt.take (rt1.length + 1) = r' ++ [.lst acc] ∧ r'.length = rt1.length ∧ acc.length < 16000000 ∧ Inv xs (i + 1) r' (acc ++ [z])
        else tkOk (rt1.length + 1) (rt.take (rt1.length + 1)) = true ∧ ∃ r', rt.take (rt1.length + 1) = r' ++ [.lst acc] ∧ r'.length = rt1.length ∧ Inv xs (i + 1) r' acc) ∧
      ∀ r acc, Inv xs xs.length r acc → r.length = rt1.length → Q (.r rt1.length) (r ++ [.lst acc])) : wE (eComp vs it g tt el sl rt) Q := by
  simp only [wE_fun, wS_fun] at h ⊢
  exact v_comp Inv h
end
/-- a dict comprehension whose keys and values are plain and change nothing -/
theorem v_dcompF {it : Ex (List D)} {g : Gx} {sl : Sl} {rt : List O} {Q : W → List O → Prop} {vs : List Nat} {tt : Ex Bool} {ek el : Ex W} (F : D → Option (Key × D))
    (h : vE (it sl rt) fun xs rt1 => tkOk (rt1.length + 1) rt1 = true ∧ xs.length < 16000000 ∧
      (∀ (i : Nat) x acc, xs[i]? = some x → vE (g (.d x) (kill vs sl) (rt1 ++ [.dk acc])) fun sl1 rt2 => vE (tt sl1 rt2) fun b rt3 => if b = true then vE (ek sl1 rt3) fun yk rt4 => vE (el sl1 rt4) fun y rt5 => ∃ zk k, yk = .d zk ∧ keyOf zk = some k ∧ vE (vOf y rt5) fun z rt6 => rt6.take (rt1.length + 1) = rt1 ++ [.dk acc] ∧ F x = some (k, z)
        else rt3.take (rt1.length + 1) = rt1 ++ [.dk acc] ∧ F x = none) ∧
      Q (.r rt1.length) (rt1 ++ [.dk ((xs.filterMap F).foldl (fun a kv => dput a kv.1 kv.2) [])])) : vE (eDComp vs it g tt ek el sl rt) Q := by
  obtain ⟨xs, rt1, e, ht, hl, hs, hq⟩ := h.ex
  show vE ((it sl rt).bind _) Q
  rw [vE_bind, e]
  show vE ((dcompL vs rt1.length g tt ek el sl xs (rt1 ++ [.dk []])).bind _) Q
  rw [vE_bind]
  have tk : ∀ a : List (Key × D), tkOk (rt1.length + 1) (rt1 ++ [.dk a]) = true := fun a => by
    unfold tkOk at ht ⊢
    rw [List.all_append, ht]; rfl
  have main : ∀ (n i : Nat) (acc : List (Key × D)), n + i = xs.length → acc.length ≤ i → vE (dcompL vs rt1.length g tt ek el sl (xs.drop i) (rt1 ++ [.dk acc])) fun _ rt' => rt' = rt1 ++ [.dk (((xs.drop i).filterMap F).foldl (fun a kv => dput a kv.1 kv.2) acc)] := by
    intro n
    induction n with
    | zero =>
      intro i acc hi _
      rw [List.drop_eq_nil_of_le (by omega)]
      rfl
    | succ n ih =>
      intro i acc hi hacc
      have hk : i < xs.length := by omega
      rw [List.drop_eq_getElem_cons hk]
      have h1 := hs i xs[i] acc (List.getElem?_eq_getElem hk)
      show vE ((g (.d xs[i]) (kill vs sl) (rt1 ++ [.dk acc])).noex.bind _) _
      rw [vE_bind, vE_noex]
      refine h1.imp fun sl1 rt2 h2 => ?_
      rw [vE_bind, vE_noex]
      refine h2.imp fun b rt3 h3 => ?_
      cases b with
      | true =>
        rw [if_pos rfl] at h3 ⊢
        rw [vE_bind, vE_noex]
        refine h3.imp fun yk rt4 h4 => ?_
        rw [vE_bind, vE_noex]
        refine h4.imp fun y rt5 ⟨zk, k, eyk, ek2, h5⟩ => ?_
        subst eyk
        simp only [ek2]
        rw [vE_bind]
        refine h5.imp fun z rt6 ⟨h6, hF⟩ => ?_
        have g5 : rt6[rt1.length]? = some (.dk acc) := by
          have : (rt6.take (rt1.length + 1))[rt1.length]? = some (.dk acc) := by rw [h6, List.getElem?_append_right (Nat.le_refl _), Nat.sub_self]; rfl
          rwa [List.getElem?_take, if_pos (by omega)] at this
        have hlen : rt1.length < rt6.length := (List.getElem?_eq_some_iff.mp g5).1
        have g6 : (rt6.set rt1.length (.dk (dput acc k z))).take (rt1.length + 1) = rt1 ++ [.dk (dput acc k z)] := by
          have e2 : rt6.take rt1.length = rt1 := by
            have := congrArg (List.take rt1.length) h6
            rw [List.take_take, Nat.min_eq_left (by omega), List.take_left' rfl] at this
            exact this
          rw [List.take_succ, List.getElem?_set_self hlen, List.take_set_of_le (Nat.le_refl _), e2]
          rfl
        have hdl : (dput acc k z).length ≤ acc.length + 1 := by
          unfold dput
          split <;> simp
        simp only [g5]
        rw [if_pos ⟨by omega, by rw [g6]; exact tk _⟩, g6]
        refine (ih (i + 1) _ (by omega) (by omega)).imp fun _ rt' e => ?_
        rw [e, List.filterMap_cons, hF]
        rfl
      | false =>
        rw [if_neg (by decide)] at h3 ⊢
        obtain ⟨h5, hF⟩ := h3
        rw [h5, if_pos (tk _)]
        refine (ih (i + 1) acc (by omega) (by omega)).imp fun _ rt' e => ?_
        rw [e, List.filterMap_cons, hF]
  have := main xs.length 0 [] rfl (Nat.le_refl _)
  rw [List.drop_zero] at this
  refine this.imp fun _ rt' e => ?_
  subst e
  exact hq
theorem w_dcompF {it : Ex (List D)} {g : Gx} {sl : Sl} {rt : List O} {Q : W → List O → Prop} {vs : List Nat} {tt : Ex Bool} {ek el : Ex W} (F : D → Option (Key × D))
    (h : wE (it sl rt) fun xs rt1 => tkOk (rt1.length + 1) rt1 = true ∧ xs.length < 16000000 ∧
      (∀ (i : Nat) x acc, xs[i]? = some x → wE (g (.d x) (kill vs sl) (rt1 ++ [.dk acc])) fun sl1 rt2 => wE (tt sl1 rt2) fun b rt3 => if b = true then wE (ek sl1 rt3) fun yk rt4 => wE (el sl1 rt4) fun y rt5 => ∃ zk k, yk = .d zk ∧ keyOf zk = some k ∧ wE (vOf y rt5) fun z rt6 => rt6.take (rt1.length + 1) = rt1 ++ [.dk acc] ∧ F x = some (k, z)
        else rt3.take (rt1.length + 1) = rt1 ++ [.dk acc] ∧ F x = none) ∧
      Q (.r rt1.length) (rt1 ++ [.dk ((xs.filterMap F).foldl (fun a kv => dput a kv.1 kv.2) [])])) : wE (eDComp vs it g tt ek el sl rt) Q := by
  simp only [wE_fun] at h ⊢
  exact v_dcompF F h
structure wN (o : Nx) (P : W → List O → Prop) (S : Prop) : Prop where
  h : vN o P S
theorem wN_fun {o : Nx} {P : W → List O → Prop} {S : Prop} : wN o P S = vN o P S := propext ⟨fun h => h.h, fun h => ⟨h⟩⟩
theorem wN_it {x : W} {rt : List O} {P : W → List O → Prop} {S : Prop} : wN (.it x rt) P S = P x rt := wN_fun
theorem wN_stop {P : W → List O → Prop} {S : Prop} : wN .stop P S = S := wN_fun
theorem wN_no {P : W → List O → Prop} {S : Prop} : wN .no P S = False := wN_fun
def nxI (rt : List O) : Option D → Nx
  | some x => .it (.d x) rt
  | none => .stop
theorem nxI_some {rt : List O} {x : D} : nxI rt (some x) = .it (.d x) rt := rfl
theorem nxI_none {rt : List O} : nxI rt none = .stop := rfl
def nxV (n i : Nat) (rt : List O) : Option O → Nx
  | some (.d x) => .it (.d x) rt
  | some _ => .it (.r rt.length) (rt ++ [.vw (locR rt n).1 ((locR rt n).2 ++ [.ix i])])
  | none => .stop
theorem nxV_none {n i : Nat} {rt : List O} : nxV n i rt none = .stop := rfl
theorem nxV_d {n i : Nat} {rt : List O} {x : D} : nxV n i rt (some (.d x)) = .it (.d x) rt := rfl
theorem nxV_lst {n i : Nat} {rt : List O} {x : List D} : nxV n i rt (some (.lst x)) = .it (.r rt.length) (rt ++ [.vw (locR rt n).1 ((locR rt n).2 ++ [.ix i])]) := rfl
def nxO (n i : Nat) (rt : List O) : Option O → Nx
  | some (.lst xs) => nxI rt xs[i]?
  | some (.nst xs) => nxV n i rt xs[i]?
  | _ => .no
theorem nxO_lst {n i : Nat} {rt : List O} {xs : List D} : nxO n i rt (some (.lst xs)) = nxI rt xs[i]? := rfl
theorem nxO_nst {n i : Nat} {rt : List O} {xs : List O} : nxO n i rt (some (.nst xs)) = nxV n i rt xs[i]? := rfl
theorem nxL_c {n i : Nat} {rt : List O} : nxL n i rt = nxO n i rt (rd rt n) := by
  unfold nxL nxO
  cases rd rt n with
  | none => rfl
  | some o =>
    cases o <;> simp only <;> first | rfl | skip
section
variable {Q : W → List O → Prop} {N : Sl → List O → Prop} {R : W → List O → Prop} {B C : Sl → List O → Prop} {sl : Sl} {rt : List O} {it : Ex (ItM × Nat)} {g : Gx} {body : Sx} {ks : List Nat}
theorem w_forV (Inv : Nat → Sl → List O → Prop)
    (h : wE (it sl rt) fun q rt1 => Inv 0 sl rt1 ∧
      ∀ i sl rt, Inv i sl rt → i < q.2 ∧ wN (q.1 i rt) (fun x rt => wE (g x sl rt) fun sl rt => wS (body sl rt) (gTurn ks rt1.length (Inv (i + 1))) R (gTurn ks rt1.length N) (gTurn ks rt1.length (Inv (i + 1)))) (N sl rt)) :
    wS (sForV ks it g body sl rt) N R B C := by
  simp only [wE_fun, wS_fun, wN_fun] at h ⊢
  exact v_forV Inv h
def itO (n : Nat) (rt : List O) (P : ItM × Nat → List O → Prop) : Option O → Prop
  | some (.lst xs) => P (nxL n, xs.length + 1) rt
  | some (.nst xs) => P (nxL n, xs.length + 1) rt
  | _ => False
theorem itO_lst {n : Nat} {P : ItM × Nat → List O → Prop} {xs : List D} : itO n rt P (some (.lst xs)) = P (nxL n, xs.length + 1) rt := rfl
theorem itO_nst {n : Nat} {P : ItM × Nat → List O → Prop} {xs : List O} : itO n rt P (some (.nst xs)) = P (nxL n, xs.length + 1) rt := rfl
def ort (P : Nat → Prop) : W → Prop
  | .r n => P n
  | _ => False
theorem ort_r {P : Nat → Prop} {n : Nat} : ort P (.r n) = P n := rfl
theorem w_itL {m : Ex W} {P : ItM × Nat → List O → Prop} : wE (itL m sl rt) P = wE (m sl rt) fun x rt => ort (fun n => itO n rt P (rd rt n)) x := by
  simp only [wE_fun]
  rw [v_itL]
  rfl
theorem w_compFV {vs : List Nat} {tt : Ex Bool} {el m : Ex W} (F : D → Option D)
    (h : wE (m sl rt) fun x rt1 => ort (fun n => ∃ xs, rd rt1 n = some (.lst xs) ∧ tkOk (rt1.length + 1) rt1 = true ∧ xs.length < 16000000 ∧
      (∀ (i : Nat) x acc, xs[i]? = some x → wE (g (.d x) (kill vs sl) (rt1 ++ [.lst acc])) fun sl1 rt2 => wE (tt sl1 rt2) fun b rt3 => if b = true then wE (el sl1 rt3) fun y rt4 => wE (vOf y rt4) fun z rt5 => rt5.take (rt1.length + 1) = rt1 ++ [.lst acc] ∧ F x = some z
        else rt3.take (rt1.length + 1) = rt1 ++ [.lst acc] ∧ F x = none) ∧
      Q (.r rt1.length) (rt1 ++ [.lst (xs.filterMap F)])) x) : wE (eCompV vs (itL m) g tt el sl rt) Q := by
  simp only [wE_fun, wS_fun] at h ⊢
  refine v_compFV F (h.imp fun x rt1 hx => ?_)
  cases x with
  | d x => exact hx.elim
  | r n =>
    obtain ⟨xs, hx⟩ := hx
    exact ⟨n, xs, rfl, hx⟩
end
/-! ### values -/
theorem atI_ofNat {α : Type} {xs : List α} {n : Nat} : atI xs (n : Int) = xs[n]? := by
  unfold atI ixN
  by_cases h : (n : Int) < xs.length
  · rw [if_pos (by omega), if_pos h]
    simp
  · rw [if_pos (by omega), if_neg h]
    rw [List.getElem?_eq_none (by omega)]
    rfl
theorem ixN_nat {n k : Nat} (h : n < k) : ixN k (n : Int) = some n := by
  unfold ixN
  rw [if_pos (by omega), if_pos (by omega)]
  simp
theorem ixN_0 {n : Nat} : ixN (n + 1) 0 = some 0 := by unfold ixN; rw [if_pos (by omega), if_pos (by omega)]; rfl
theorem ixN_1 {n : Nat} : ixN (n + 2) 1 = some 1 := by unfold ixN; rw [if_pos (by omega), if_pos (by omega)]; rfl
theorem ixN_2 {n : Nat} : ixN (n + 3) 2 = some 2 := by unfold ixN; rw [if_pos (by omega), if_pos (by omega)]; rfl
theorem ixN_3 {n : Nat} : ixN (n + 4) 3 = some 3 := by unfold ixN; rw [if_pos (by omega), if_pos (by omega)]; rfl
theorem ixN_4 {n : Nat} : ixN (n + 5) 4 = some 4 := by unfold ixN; rw [if_pos (by omega), if_pos (by omega)]; rfl
theorem ixN_6 {n : Nat} : ixN (n + 7) 6 = some 6 := by unfold ixN; rw [if_pos (by omega), if_pos (by omega)]; rfl
theorem ixN_5 {n : Nat} : ixN (n + 6) 5 = some 5 := by unfold ixN; rw [if_pos (by omega), if_pos (by omega)]; rfl
theorem atI_0 {α : Type} {a : α} {xs : List α} : atI (a :: xs) 0 = some a := by unfold atI; rw [List.length_cons, ixN_0]; rfl
theorem atI_1 {α : Type} {a b : α} {xs : List α} : atI (a :: b :: xs) 1 = some b := by unfold atI; rw [List.length_cons, List.length_cons, ixN_1]; rfl
theorem atI_2 {α : Type} {a b c : α} {xs : List α} : atI (a :: b :: c :: xs) 2 = some c := by unfold atI; rw [List.length_cons, List.length_cons, List.length_cons, ixN_2]; rfl
theorem atI_3 {α : Type} {a b c d : α} {xs : List α} : atI (a :: b :: c :: d :: xs) 3 = some d := by unfold atI; rw [List.length_cons, List.length_cons, List.length_cons, List.length_cons, ixN_3]; rfl
theorem atI_4 {α : Type} {a b c d e : α} {xs : List α} : atI (a :: b :: c :: d :: e :: xs) 4 = some e := by unfold atI; rw [List.length_cons, List.length_cons, List.length_cons, List.length_cons, List.length_cons, ixN_4]; rfl
theorem atI_5 {α : Type} {a b c d e f : α} {xs : List α} : atI (a :: b :: c :: d :: e :: f :: xs) 5 = some f := by unfold atI; rw [List.length_cons, List.length_cons, List.length_cons, List.length_cons, List.length_cons, List.length_cons, ixN_5]; rfl
theorem atI_6 {α : Type} {a b c d e f g : α} {xs : List α} : atI (a :: b :: c :: d :: e :: f :: g :: xs) 6 = some g := by unfold atI; rw [List.length_cons, List.length_cons, List.length_cons, List.length_cons, List.length_cons, List.length_cons, List.length_cons, ixN_6]; rfl
theorem eqD_int {i j : Int} : eqD (.int i) (.int j) = some (decide (i = j)) := by
  simp only [eqD, pyOf]
  rw [if_pos ⟨by rfl, by rfl⟩]
  rfl
theorem eqD_bl {i j : Bool} : eqD (.bl i) (.bl j) = some (i == j) := by
  simp only [eqD, pyOf]
  rw [if_pos ⟨by rfl, by rfl⟩]
  cases i <;> cases j <;> rfl
theorem ite_and {c P : Prop} [Decidable c] : (if c then P else False) = (c ∧ P) := by
  by_cases h : c <;> simp [h]
theorem dec_t {c : Prop} [Decidable c] : (decide c = true) = c := by simp
theorem mulOk_r {i j : Int} (h1 : -18446744073709551616 < j) (h2 : j < 18446744073709551616) : mulOk i j = true := by
  unfold mulOk
  have : (-(2 ^ 64) : Int) < j ∧ j < 2 ^ 64 := ⟨h1, h2⟩
  rw [decide_eq_true this]
  simp
theorem mulOk_l {i j : Int} (h1 : -18446744073709551616 < i) (h2 : i < 18446744073709551616) : mulOk i j = true := by
  unfold mulOk
  have : (-(2 ^ 64) : Int) < i ∧ i < 2 ^ 64 := ⟨h1, h2⟩
  rw [decide_eq_true this]
  simp
theorem divOk_of {j : Int} (h1 : 0 < j) (h2 : j < 18446744073709551616) : divOk j = true := by
  unfold divOk
  refine decide_eq_true ⟨h1, ?_⟩
  have h3 : j.natAbs < 2 ^ 64 := by omega
  have h4 : j.natAbs.log2 < 64 := (Nat.log2_lt (by omega)).mpr h3
  omega
theorem divOk_pos {j : Int} (h : divOk j = true) : 0 < j := (of_decide_eq_true h).1
theorem gMod_int {i j : Int} {rt : List O} : gMod (.d (.int i)) (.d (.int j)) rt = if 0 < j then .ok (.d (.int (i % j))) rt else .no := rfl
theorem gDiv_int {i j : Int} {rt : List O} : gDiv (.d (.int i)) (.d (.int j)) rt = if divOk j = true then .ok (.d (.int (i / j))) rt else .no := rfl
theorem gPow_int {i j : Int} {rt : List O} : gPow (.d (.int i)) (.d (.int j)) rt = if 0 ≤ j ∧ j ≤ 1000000 ∧ i.natAbs < 2 ^ 64 then .ok (.d (.int (i ^ j.toNat))) rt else .no := rfl
theorem pow10_18 : (10 : Int) ^ Int.toNat 18 = 1000000000000000000 := rfl
theorem nab10 : (10 : Int).natAbs < 2 ^ 64 := by decide
theorem vOf_d {x : D} {rt : List O} : vOf (.d x) rt = .ok x rt := rfl
theorem vOf_r {n : Nat} {rt : List O} : vOf (.r n) rt = match rt[n]? with
    | some (.vw m p) => match rt[m]? with
      | some o => if o.isVw = true then .no else match getP o p with
        | some x => .ok x.toD (frz m o rt)
        | none => .no
      | none => .no
    | some o => .ok o.toD (frz n o rt)
    | none => .no := rfl
theorem w_yes {sl : Sl} {rt : List O} {T : Bool → List O → Prop} : wE (eYes sl rt) T = T true rt := wE_ok
theorem lkD_d {x : D} {rt : List O} : lkD (.d x) rt = x := rfl
theorem lkD_r {n : Nat} {rt : List O} : lkD (.r n) rt = ((rd rt n).getD (.d .non)).toD := rfl
theorem tk_nil {L : Nat} : tkOk L [] = true := rfl
theorem tk_lst {L : Nat} {x : List D} {rt : List O} : tkOk L (.lst x :: rt) = tkOk L rt := rfl
theorem tk_d {L : Nat} {x : D} {rt : List O} : tkOk L (.d x :: rt) = tkOk L rt := rfl
theorem tk_dk {L : Nat} {x : List (Key × D)} {rt : List O} : tkOk L (.dk x :: rt) = tkOk L rt := rfl
theorem tk_dt {L : Nat} {x : List (List Key × D)} {rt : List O} : tkOk L (.dt x :: rt) = tkOk L rt := rfl
theorem tk_nst {L : Nat} {x : List O} {rt : List O} : tkOk L (.nst x :: rt) = tkOk L rt := rfl
theorem tk_ndk {L : Nat} {x : List (Key × O)} {rt : List O} : tkOk L (.ndk x :: rt) = tkOk L rt := rfl
theorem tk_ndt {L : Nat} {x : List (List Key × O)} {rt : List O} : tkOk L (.ndt x :: rt) = tkOk L rt := rfl
theorem tk_ins {L : Nat} {C : Addr} {x : List (Str × O)} {rt : List O} : tkOk L (.ins C x :: rt) = tkOk L rt := rfl
theorem tk_vw {L n : Nat} {p : List Sel} {rt : List O} : tkOk L (.vw n p :: rt) = (decide (n < L) && tkOk L rt) := rfl
theorem nv_nil : allNv [] = true := rfl
theorem nv_cons {o : O} {rt : List O} : allNv (o :: rt) = (!o.isVw && allNv rt) := rfl
theorem off_lst {js : List Nat} {x : List D} : offO js (.lst x) = true := rfl
theorem off_d {js : List Nat} {x : D} : offO js (.d x) = true := rfl
theorem off_dk {js : List Nat} {x : List (Key × D)} : offO js (.dk x) = true := rfl
theorem off_dt {js : List Nat} {x : List (List Key × D)} : offO js (.dt x) = true := rfl
theorem off_nst {js : List Nat} {x : List O} : offO js (.nst x) = true := rfl
theorem off_ndk {js : List Nat} {x : List (Key × O)} : offO js (.ndk x) = true := rfl
theorem off_ndt {js : List Nat} {x : List (List Key × O)} : offO js (.ndt x) = true := rfl
theorem off_ins {js : List Nat} {C : Addr} {x : List (Str × O)} : offO js (.ins C x) = true := rfl
theorem off_vw {js : List Nat} {n : Nat} {p : List Sel} : offO js (.vw n p) = !js.contains n := rfl
theorem vfz_lst {n : Nat} {o : O} {x : List D} : vfz n o (.lst x) = .lst x := rfl
theorem vfz_d {n : Nat} {o : O} {x : D} : vfz n o (.d x) = .d x := rfl
theorem vfz_dk {n : Nat} {o : O} {x : List (Key × D)} : vfz n o (.dk x) = .dk x := rfl
theorem vfz_dt {n : Nat} {o : O} {x : List (List Key × D)} : vfz n o (.dt x) = .dt x := rfl
theorem vfz_nst {n : Nat} {o : O} {x : List O} : vfz n o (.nst x) = .nst x := rfl
theorem vfz_ndk {n : Nat} {o : O} {x : List (Key × O)} : vfz n o (.ndk x) = .ndk x := rfl
theorem vfz_ndt {n : Nat} {o : O} {x : List (List Key × O)} : vfz n o (.ndt x) = .ndt x := rfl
theorem vfz_ins {n : Nat} {o : O} {C : Addr} {x : List (Str × O)} : vfz n o (.ins C x) = .ins C x := rfl
theorem vw_lst {x : List D} : (O.lst x).isVw = false := rfl
theorem vw_d {x : D} : (O.d x).isVw = false := rfl
theorem vw_dk {x : List (Key × D)} : (O.dk x).isVw = false := rfl
theorem vw_dt {x : List (List Key × D)} : (O.dt x).isVw = false := rfl
theorem vw_nst {x : List O} : (O.nst x).isVw = false := rfl
theorem vw_ndk {x : List (Key × O)} : (O.ndk x).isVw = false := rfl
theorem vw_ndt {x : List (List Key × O)} : (O.ndt x).isVw = false := rfl
theorem vw_ins {C : Addr} {x : List (Str × O)} : (O.ins C x).isVw = false := rfl
theorem vw_vw {n : Nat} {p : List Sel} : (O.vw n p).isVw = true := rfl
theorem toD_lst {xs : List D} : (O.lst xs).toD = .lst xs := by rw [O.toD]
theorem toD_d {x : D} : (O.d x).toD = x := by rw [O.toD]
theorem toD_dk {x : List (Key × D)} : (O.dk x).toD = .dk x := by rw [O.toD]
theorem toD_dt {x : List (List Key × D)} : (O.dt x).toD = .dt x := by rw [O.toD]
theorem kit_ii : kitB "int" "int" = some true := by decide +kernel
theorem kit_ib : kitB "int" "bool" = some false := by decide +kernel
theorem kit_bb : kitB "bool" "bool" = some true := by decide +kernel
theorem kit_bi : kitB "bool" "int" = some true := by decide +kernel
theorem kit_tt : kitB "tuple" "tuple" = some true := by decide +kernel
theorem kit_nt : kitB "NoneType" "tuple" = some false := by decide +kernel
theorem kit_ll : kitB "list" "list" = some true := by decide +kernel
theorem kit_ss : kitB "str" "str" = some true := by decide +kernel
theorem kit_tl : kitB "tuple" "list" = some false := by decide +kernel
theorem kit_lt : kitB "list" "tuple" = some false := by decide +kernel
theorem kit_is : kitB "int" "str" = some false := by decide +kernel
theorem kit_bs : kitB "bool" "str" = some false := by decide +kernel
theorem kit_ts : kitB "tuple" "str" = some false := by decide +kernel
theorem kit_ti : kitB "tuple" "int" = some false := by decide +kernel
theorem kit_tb : kitB "tuple" "bool" = some false := by decide +kernel
theorem kit_si : kitB "str" "int" = some false := by decide +kernel
theorem kit_sb : kitB "str" "bool" = some false := by decide +kernel
theorem kit_st : kitB "str" "tuple" = some false := by decide +kernel
theorem kit_sl : kitB "str" "list" = some false := by decide +kernel
theorem kit_dd : kitB "dict" "dict" = some true := by decide +kernel
theorem kit_td : kitB "tuple" "dict" = some false := by decide +kernel
theorem kit_ld : kitB "list" "dict" = some false := by decide +kernel
theorem kit_ls : kitB "list" "str" = some false := by decide +kernel
theorem kit_li : kitB "list" "int" = some false := by decide +kernel
theorem kit_lb : kitB "list" "bool" = some false := by decide +kernel
theorem news_nil {L : Nat} : news L [] = [] := rfl
theorem news_none {L : Nat} {sl : Sl} : news L (none :: sl) = news L sl := rfl
theorem news_d {L : Nat} {x : D} {sl : Sl} : news L (some (.d x) :: sl) = news L sl := rfl
theorem news_r {L n : Nat} {sl : Sl} : news L (some (.r n) :: sl) = if n < L ∨ n ∈ news L sl then news L sl else n :: news L sl := rfl
end VE
namespace VE
open PySem PySem.Spec L2
end VE

set_option maxRecDepth 100000
set_option maxHeartbeats 1000000
namespace VE
open PySem PySem.Spec L2
/-! ### plain data of ints, texts, tuples, lists: equality is equality -/
def datD : Nat → D → Bool
  | _, .int _ => true
  | _, .str s => PyData.strOk s
  | _, .non => true
  | n + 1, .tup xs => xs.all (datD n)
  | n + 1, .lst xs => xs.all (datD n)
  | _, _ => false
theorem pyAll_cons {x : D} {xs : List D} {p : PyData} {ps : List PyData} (h1 : pyOf x = some p) (h2 : pyAll xs = some ps) : pyAll (x :: xs) = some (p :: ps) := by
  rw [pyAll, h1, h2]
theorem py_datL {n : Nat} (ih : ∀ x, datD n x = true → ∃ p, pyOf x = some p ∧ p.canLay0 = true ∧ p.depth ≤ n) : ∀ xs : List D, xs.all (datD n) = true → ∃ ps, pyAll xs = some ps ∧ PyData.canLayAll0 ps = true ∧ PyData.depthAll ps ≤ n
  | [], _ => ⟨[], rfl, rfl, Nat.zero_le _⟩
  | x :: xs, h => by
    rw [List.all_cons, Bool.and_eq_true] at h
    obtain ⟨p, h1, h2, h3⟩ := ih x h.1
    obtain ⟨ps, k1, k2, k3⟩ := py_datL ih xs h.2
    refine ⟨p :: ps, pyAll_cons h1 k1, ?_, ?_⟩
    · rw [PyData.canLayAll0, h2, k2]; rfl
    · rw [PyData.depthAll]; omega
theorem py_dat : ∀ (n : Nat) (x : D), datD n x = true → ∃ p, pyOf x = some p ∧ p.canLay0 = true ∧ p.depth ≤ n
  | 0, x, h => by
    cases x <;> simp only [datD] at h <;> first | (cases h; done) | skip
    · exact ⟨_, rfl, rfl, Nat.zero_le _⟩
    · exact ⟨_, rfl, rfl, Nat.zero_le _⟩
    · exact ⟨_, rfl, by rw [PyData.canLay0]; exact h, Nat.zero_le _⟩
  | n + 1, x, h => by
    cases x <;> simp only [datD] at h <;> first | (cases h; done) | skip
    · exact ⟨_, rfl, rfl, Nat.zero_le _⟩
    · exact ⟨_, rfl, rfl, Nat.zero_le _⟩
    · exact ⟨_, rfl, by rw [PyData.canLay0]; exact h, Nat.zero_le _⟩
    · obtain ⟨ps, k1, k2, k3⟩ := py_datL (py_dat n) _ h
      refine ⟨.tuple ps, by rw [pyOf, k1]; rfl, by rw [PyData.canLay0]; exact k2, by rw [PyData.depth]; omega⟩
    · obtain ⟨ps, k1, k2, k3⟩ := py_datL (py_dat n) _ h
      refine ⟨.list ps, by rw [pyOf, k1]; rfl, by rw [PyData.canLay0]; exact k2, by rw [PyData.depth]; omega⟩
theorem eqv_datL {n : Nat} (ih : ∀ (m : Nat) (x y : D) (p q : PyData), datD n x = true → datD m y = true → pyOf x = some p → pyOf y = some q → (PyData.eqv p q = true ↔ x = y)) {m : Nat} : ∀ (xs ys : List D) (ps qs : List PyData), xs.all (datD n) = true → ys.all (datD m) = true → pyAll xs = some ps → pyAll ys = some qs → (PyData.eqvAll ps qs = true ↔ xs = ys)
  | [], [], ps, qs, _, _, e1, e2 => by cases e1; cases e2; simp [PyData.eqvAll]
  | [], y :: ys, ps, qs, _, _, e1, e2 => by
    cases e1
    rw [pyAll] at e2
    split at e2
    · cases e2; simp [PyData.eqvAll]
    · cases e2
  | x :: xs, [], ps, qs, _, _, e1, e2 => by
    cases e2
    rw [pyAll] at e1
    split at e1
    · cases e1; simp [PyData.eqvAll]
    · cases e1
  | x :: xs, y :: ys, ps, qs, h1, h2, e1, e2 => by
    rw [List.all_cons, Bool.and_eq_true] at h1 h2
    rw [pyAll] at e1 e2
    split at e1
    · rename_i p ps' g1 g2
      cases e1
      split at e2
      · rename_i q qs' k1 k2
        cases e2
        rw [PyData.eqvAll, Bool.and_eq_true, ih m x y p q h1.1 h2.1 g1 k1, eqv_datL ih xs ys ps' qs' h1.2 h2.2 g2 k2]
        simp
      · cases e2
    · cases e1
theorem eqv_dat : ∀ (n m : Nat) (x y : D) (p q : PyData), datD n x = true → datD m y = true → pyOf x = some p → pyOf y = some q → (PyData.eqv p q = true ↔ x = y) := by
  intro n
  induction n with
  | zero =>
    intro m x y p q h1 h2 e1 e2
    cases x <;> simp only [datD] at h1 <;> first | (cases h1; done) | skip
    all_goals
      cases e1
      cases m <;> cases y <;> simp only [datD] at h2 <;> first | (cases h2; done) | skip
    all_goals first
      | (cases e2; simp [PyData.eqv]; done)
      | (rw [pyOf] at e2; obtain ⟨qs, _, rfl⟩ := Option.map_eq_some_iff.mp e2; simp [PyData.eqv])
  | succ n ih =>
    intro m x y p q h1 h2 e1 e2
    cases x <;> simp only [datD] at h1 <;> first | (cases h1; done) | skip
    · cases e1
      cases m <;> cases y <;> simp only [datD] at h2 <;> first | (cases h2; done) | skip
      all_goals first
        | (cases e2; simp [PyData.eqv]; done)
        | (rw [pyOf] at e2; obtain ⟨qs, _, rfl⟩ := Option.map_eq_some_iff.mp e2; simp [PyData.eqv])
    · cases e1
      cases m <;> cases y <;> simp only [datD] at h2 <;> first | (cases h2; done) | skip
      all_goals first
        | (cases e2; simp [PyData.eqv]; done)
        | (rw [pyOf] at e2; obtain ⟨qs, _, rfl⟩ := Option.map_eq_some_iff.mp e2; simp [PyData.eqv])
    · cases e1
      cases m <;> cases y <;> simp only [datD] at h2 <;> first | (cases h2; done) | skip
      all_goals first
        | (cases e2; simp [PyData.eqv]; done)
        | (rw [pyOf] at e2; obtain ⟨qs, _, rfl⟩ := Option.map_eq_some_iff.mp e2; simp [PyData.eqv])
    · rw [pyOf] at e1; obtain ⟨ps, g1, rfl⟩ := Option.map_eq_some_iff.mp e1
      cases m <;> cases y <;> simp only [datD] at h2 <;> first | (cases h2; done) | skip
      all_goals first
        | (cases e2; simp [PyData.eqv]; done)
        | (rw [pyOf] at e2; obtain ⟨qs, g2, rfl⟩ := Option.map_eq_some_iff.mp e2; simp only [PyData.eqv]; first | (rw [eqv_datL ih _ _ ps qs h1 h2 g1 g2]; simp; done) | simp)
    · rw [pyOf] at e1; obtain ⟨ps, g1, rfl⟩ := Option.map_eq_some_iff.mp e1
      cases m <;> cases y <;> simp only [datD] at h2 <;> first | (cases h2; done) | skip
      all_goals first
        | (cases e2; simp [PyData.eqv]; done)
        | (rw [pyOf] at e2; obtain ⟨qs, g2, rfl⟩ := Option.map_eq_some_iff.mp e2; simp only [PyData.eqv]; first | (rw [eqv_datL ih _ _ ps qs h1 h2 g1 g2]; simp; done) | simp)
theorem eqD_dat {x y : D} (n m : Nat) (h1 : datD n x = true) (h2 : datD m y = true) (hn : n ≤ 64 := by decide) (hm : m ≤ 64 := by decide) : ∃ b, eqD x y = some b ∧ (b = true ↔ x = y) := by
  obtain ⟨p, p1, p2, p3⟩ := py_dat n x h1
  obtain ⟨q, q1, q2, q3⟩ := py_dat m y h2
  refine ⟨PyData.eqv p q, ?_, eqv_dat n m x y p q h1 h2 p1 q1⟩
  have s1 : SeqAt.shaped p = true := by unfold SeqAt.shaped; rw [p2]; simpa using Nat.le_trans p3 hn
  have s2 : SeqAt.shaped q = true := by unfold SeqAt.shaped; rw [q2]; simpa using Nat.le_trans q3 hm
  unfold eqD
  rw [p1, q1]
  simp only [s1, s2, and_self, if_true]
/-! ### lists of ints -/
theorem ints_map (ts : List Int) : intsOf (ts.map D.int) = some ts := by
  induction ts with
  | nil => rfl
  | cons t ts ih => rw [List.map_cons, intsOf, ih]; rfl
theorem dat_ints {n : Nat} (ts : List Int) : (ts.map D.int).all (datD n) = true := by
  rw [List.all_eq_true]
  intro x hx
  obtain ⟨t, _, rfl⟩ := List.mem_map.mp hx
  cases n <;> rfl
theorem int_inj {xs ys : List Int} : xs.map D.int = ys.map D.int ↔ xs = ys := by
  constructor
  · intro h
    have := congrArg intsOf h
    rw [ints_map, ints_map] at this
    exact Option.some.inj this
  · exact fun h => by rw [h]
theorem eqD_ints {xs ys : List Int} : eqD (.lst (xs.map D.int)) (.lst (ys.map D.int)) = some (decide (xs = ys)) := by
  obtain ⟨b, h1, h2⟩ := eqD_dat (x := .lst (xs.map D.int)) (y := .lst (ys.map D.int)) 1 1 (dat_ints xs) (dat_ints ys)
  rw [h1]
  congr 1
  rw [Bool.eq_iff_iff, h2, decide_eq_true_iff, D.lst.injEq, int_inj]
theorem eqD_intsT {xs ys : List Int} : eqD (.tup (xs.map D.int)) (.tup (ys.map D.int)) = some (decide (xs = ys)) := by
  obtain ⟨b, h1, h2⟩ := eqD_dat (x := .tup (xs.map D.int)) (y := .tup (ys.map D.int)) 1 1 (dat_ints xs) (dat_ints ys)
  rw [h1]
  congr 1
  rw [Bool.eq_iff_iff, h2, decide_eq_true_iff, D.tup.injEq, int_inj]
theorem eqD_pair {a b c d : Int} : eqD (.tup [.int a, .int b]) (.tup [.int c, .int d]) = some (decide (a = c ∧ b = d)) := by
  have := eqD_intsT (xs := [a, b]) (ys := [c, d])
  rw [List.map_cons, List.map_cons, List.map_nil, List.map_cons, List.map_cons, List.map_nil] at this
  rw [this]
  congr 1
  simp
theorem in_ints {k : Int} {ts : List Int} : inDp (.int k) (ts.map D.int) = some (decide (k ∈ ts)) := by
  have e : pyAll (ts.map D.int) = some (ts.map PyData.int) := by
    induction ts with
    | nil => rfl
    | cons t ts ih => rw [List.map_cons, pyAll, ih]; rfl
  have c : PyData.canLayAll0 (ts.map PyData.int) = true ∧ PyData.depthAll (ts.map PyData.int) = 0 := by
    clear e
    induction ts with
    | nil => exact ⟨rfl, rfl⟩
    | cons t ts ih => rw [List.map_cons, PyData.canLayAll0, PyData.depthAll, ih.1, ih.2]; exact ⟨rfl, rfl⟩
  unfold inDp
  rw [e]
  have s1 : SeqAt.shaped (.int k) = true := rfl
  have s2 : SeqAt.shaped (.list (ts.map PyData.int)) = true := by
    unfold SeqAt.shaped
    rw [PyData.canLay0, PyData.depth, c.1, c.2]
    rfl
  simp only [pyOf, s1, s2, and_self, if_true]
  congr 1
  rw [Bool.eq_iff_iff, List.any_eq_true, decide_eq_true_iff]
  constructor
  · rintro ⟨x, hx, he⟩
    obtain ⟨t, ht, rfl⟩ := List.mem_map.mp hx
    simp only [PyData.eqv, beq_iff_eq] at he
    rw [← he]; exact ht
  · intro h
    exact ⟨_, List.mem_map.mpr ⟨k, h, rfl⟩, by simp [PyData.eqv]⟩
theorem gIn_ints {k : Int} {ts : List Int} {rt : List O} : gIn (.d (.int k)) (.d (.lst (ts.map D.int))) rt = .ok (.d (.bl (decide (k ∈ ts)))) rt := by
  unfold gIn
  rw [lkD_d, inW, inD, in_ints]
theorem gNin_ints {k : Int} {ts : List Int} {rt : List O} : gNin (.d (.int k)) (.d (.lst (ts.map D.int))) rt = .ok (.d (.bl (!decide (k ∈ ts)))) rt := by
  unfold gNin
  rw [lkD_d, inW, inD, in_ints]
theorem gNin_intsR {k : Int} {ts : List Int} {rt : List O} {n : Nat} (h : rt[n]? = some (.lst (ts.map D.int))) : gNin (.d (.int k)) (.r n) rt = .ok (.d (.bl (!decide (k ∈ ts)))) rt := by
  have h2 : rd rt n = some (.lst (ts.map D.int)) := by unfold rd; rw [h]
  have e : lkD (.r n) rt = .lst (ts.map D.int) := by rw [lkD_r, h2, Option.getD_some, toD_lst]
  unfold gNin
  rw [lkD_d, inW, h2]
  simp only
  rw [e, inD, in_ints]
theorem atI_ints {ts : List Int} {a : Nat} (h : a < ts.length) : atI (ts.map D.int) (a : Int) = some (.int (ts.getD a 0)) := by
  rw [atI_ofNat, List.getElem?_map, List.getElem?_eq_getElem h, List.getD_eq_getElem?_getD, List.getElem?_eq_getElem h]; rfl
theorem atI_map {α : Type} {f : α → D} {ts : List α} {a : Nat} (h : a < ts.length) : atI (ts.map f) (a : Int) = some (f (ts[a])) := by
  rw [atI_ofNat, List.getElem?_map, List.getElem?_eq_getElem h]; rfl
theorem mem_at {α : Type} {f : α → D} {xs : List α} {i : Nat} {x : D} (h : (xs.map f)[i]? = some x) : ∃ y, xs[i]? = some y ∧ y ∈ xs ∧ x = f y := by
  rw [List.getElem?_map] at h
  obtain ⟨y, h1, h2⟩ := Option.map_eq_some_iff.mp h
  exact ⟨y, h1, List.mem_of_getElem? h1, h2.symm⟩
theorem rangeD_0 {n : Nat} : rangeD 0 n = (List.range n).map fun (i : Nat) => D.int (i : Int) := by
  unfold rangeD
  refine List.map_congr_left fun i _ => ?_
  rw [Int.zero_add]
theorem rangeD_len {lo : Int} {n : Nat} : (rangeD lo n).length = n := by simp [rangeD]
theorem rangeD_at {n i : Nat} {x : D} (h : (rangeD 0 n)[i]? = some x) : i < n ∧ x = .int (i : Int) := by
  rw [rangeD_0] at h
  obtain ⟨y, h1, _, rfl⟩ := mem_at h
  have h2 := (List.getElem?_eq_some_iff.mp h1).1
  rw [List.length_range] at h2
  rw [List.getElem?_range h2] at h1
  cases h1
  exact ⟨h2, rfl⟩
theorem rangeD_at2 {lo : Int} {n i : Nat} {x : D} (h : (rangeD lo n)[i]? = some x) : i < n ∧ x = .int (lo + (i : Int)) := by
  unfold rangeD at h
  obtain ⟨y, h1, _, rfl⟩ := mem_at h
  have h2 := (List.getElem?_eq_some_iff.mp h1).1
  rw [List.length_range] at h2
  rw [List.getElem?_range h2] at h1
  cases h1
  exact ⟨h2, rfl⟩

/-! ### loops, shorter -/
section
variable {Q : W → List O → Prop} {N : Sl → List O → Prop} {R : W → List O → Prop} {B C : Sl → List O → Prop} {sl : Sl} {rt : List O} {it : Ex (List D)} {g : Gx} {body : Sx} {ks : List Nat}
/-- a loop that leaves the slots and the roots as they are -/
theorem w_forS (P : List D → Nat → Prop) (h : wE (it sl rt) fun xs rt1 => rt1 = rt ∧ P xs 0 ∧
    (∀ i x, xs[i]? = some x → P xs i → wE (g (.d x) sl rt) fun sl1 rt2 => wS (body sl1 rt2) (gTurn ks rt.length fun sl2 rt3 => sl2 = sl ∧ rt3 = rt ∧ P xs (i + 1)) R (gTurn ks rt.length N) (gTurn ks rt.length fun sl2 rt3 => sl2 = sl ∧ rt3 = rt ∧ P xs (i + 1))) ∧
    (P xs xs.length → N sl rt)) : wS (sFor ks it g body sl rt) N R B C := by
  refine w_for (fun xs L i sl' rt' => sl' = sl ∧ rt' = rt ∧ L = rt.length ∧ P xs i) ?_
  refine h.imp fun xs rt1 ⟨e, h0, h1, h2⟩ => ?_
  subst e
  refine ⟨⟨rfl, rfl, rfl, h0⟩, fun i x sl' rt' hx ⟨e1, e2, _, hp⟩ => ?_, fun sl' rt' ⟨e1, e2, _, hp⟩ => ?_⟩
  · subst e1 e2
    refine (h1 i x hx hp).imp fun sl1 rt2 hb => ?_
    exact hb.imp (fun s r z => ⟨z.1, z.2.1, z.2.2.1, rfl, z.2.2.2⟩) (fun _ _ z => z) (fun _ _ z => z) fun s r z => ⟨z.1, z.2.1, z.2.2.1, rfl, z.2.2.2⟩
  · subst e1 e2
    exact h2 hp
/-- a comprehension whose elements are plain and change nothing: F x is what x gives, if anything -/
theorem w_compF {vs : List Nat} {tt : Ex Bool} {el : Ex W} (F : D → Option D)
    (h : wE (it sl rt) fun xs rt1 => tkOk (rt1.length + 1) rt1 = true ∧ xs.length < 16000000 ∧
      (∀ (i : Nat) x acc, xs[i]? = some x → wE (g (.d x) (kill vs sl) (rt1 ++ [.lst acc])) fun sl1 rt2 => wE (tt sl1 rt2) fun b rt3 => if b = true then wE (el sl1 rt3) fun y rt4 => wE (vOf y rt4) fun z rt5 => rt5.take (rt1.length + 1) = rt1 ++ [.lst acc] ∧ F x = some z
        else rt3.take (rt1.length + 1) = rt1 ++ [.lst acc] ∧ F x = none) ∧
      Q (.r rt1.length) (rt1 ++ [.lst (xs.filterMap F)])) : wE (eComp vs it g tt el sl rt) Q := by
  obtain ⟨xs, rt1, e, ht, hl, hs, hq⟩ := h.ex
  refine w_comp (fun xs i r acc => r = rt1 ∧ acc = (xs.take i).filterMap F ∧ acc.length ≤ i) ?_
  rw [e, wE_ok]
  refine ⟨⟨rfl, rfl, Nat.zero_le _⟩, ?_, ?_⟩
  · rintro i x r acc hx ⟨rfl, ha, hn⟩ _
    have hi := (List.getElem?_eq_some_iff.mp hx).1
    have tk : tkOk (r.length + 1) (r ++ [.lst acc]) = true := by
      unfold tkOk at ht ⊢
      rw [List.all_append, ht]; rfl
    have st : (xs.take (i + 1)).filterMap F = acc ++ (match F x with | some z => [z] | none => []) := by
      rw [List.take_succ, hx, List.filterMap_append, ← ha]
      cases hF : F x <;> simp [hF]
    refine (hs i x acc hx).imp fun sl1 rt2 h2 => h2.imp fun b rt3 h3 => ?_
    cases b with
    | true =>
      rw [if_pos rfl] at h3 ⊢
      refine h3.imp fun y rt4 h4 => h4.imp fun z rt5 ⟨h5, hF⟩ => ?_
      rw [h5]
      refine ⟨tk, r, rfl, rfl, by omega, rfl, by rw [st, hF], by simp; omega⟩
    | false =>
      rw [if_neg (by decide)] at h3 ⊢
      obtain ⟨h5, hF⟩ := h3
      rw [h5]
      exact ⟨tk, r, rfl, rfl, rfl, by rw [st, hF]; simp, by omega⟩
  · rintro r acc ⟨rfl, ha, _⟩ _
    rw [List.take_length] at ha
    rw [ha]
    exact hq
end
theorem cut_drop {xs : List D} {i : Nat} (h : i ≤ xs.length) : cut xs (some (i : Int)) none = xs.drop i := by
  unfold cut
  rw [HT.sIx_nat, HT.sIx_none, Nat.min_eq_left h]
  exact List.take_of_length_le (by simp)
theorem cut_take {xs : List D} {i : Nat} (h : i ≤ xs.length) : cut xs none (some (i : Int)) = xs.take i := by
  unfold cut
  rw [HT.sIx_nat, HT.sIx_none, Nat.min_eq_left h, List.drop_zero, Nat.sub_zero]
theorem gSl_lst {x : W} {rt : List O} {xs : List D} {lo hi : Option Int} (h : lsOf x rt = some xs) : gSl x lo hi rt = .ok (.r rt.length) (rt ++ [.lst (cut xs lo hi)]) := by
  unfold gSl; rw [h]
theorem gSl_tup {rt : List O} {xs : List D} {lo hi : Option Int} : gSl (.d (.tup xs)) lo hi rt = .ok (.d (.tup (cut xs lo hi))) rt := by
  show (if HT.sIx xs.length 0 lo = 0 ∧ HT.sIx xs.length xs.length hi = xs.length then Ou.ok (W.d (.tup xs)) rt else .ok (.d (.tup (cut xs lo hi))) rt) = _
  split
  · rename_i h
    unfold cut
    rw [h.1, h.2, List.drop_zero, Nat.sub_zero, List.take_length]
  · rfl
end VE

set_option maxRecDepth 100000
set_option maxHeartbeats 1000000
/-! wp rules for what stays live: append, comprehension, d[k] = y, d.get, max with default, xs.count, sorted rows -/
namespace VE
open PySem PySem.Spec L2
section
variable {sl : Sl} {rt : List O} {Q : W → List O → Prop} {x y z w u : W}
theorem v_compNF {it : Ex (List D)} {g : Gx} {vs : List Nat} {tt : Ex Bool} {el : Ex W} (F : D → Option O)
    (h : vE (it sl rt) fun xs rt1 => tkOk (rt1.length + 1) rt1 = true ∧ xs.length < 16000000 ∧
      (∀ (i : Nat) x acc, xs[i]? = some x → acc.length < 16000000 → vE (g (.d x) (kill vs sl) (rt1 ++ [.nst acc])) fun sl1 rt2 => vE (tt sl1 rt2) fun b rt3 => if b = true then vE (el sl1 rt3) fun y rt4 => vE (mAppN (.r rt1.length) [y] rt4) fun _ rt5 => ∃ z, rt5.take (rt1.length + 1) = rt1 ++ [.nst (acc ++ [z])] ∧ F x = some z
        else rt3.take (rt1.length + 1) = rt1 ++ [.nst acc] ∧ F x = none) ∧
      Q (.r rt1.length) (rt1 ++ [.nst (xs.filterMap F)])) : vE (eCompN vs it g tt el sl rt) Q := by
  obtain ⟨xs, rt1, e, ht, hl, hs, hq⟩ := h.ex
  show vE ((it sl rt).bind _) Q
  rw [vE_bind, e]
  show vE ((compNL vs rt1.length g tt el sl xs (rt1 ++ [.nst []])).bind _) Q
  rw [vE_bind]
  have tk : ∀ a : List O, tkOk (rt1.length + 1) (rt1 ++ [.nst a]) = true := fun a => by
    unfold tkOk at ht ⊢
    rw [List.all_append, ht]; rfl
  have main : ∀ (n i : Nat) (acc : List O), n + i = xs.length → acc.length ≤ i → vE (compNL vs rt1.length g tt el sl (xs.drop i) (rt1 ++ [.nst acc])) fun _ rt' => rt' = rt1 ++ [.nst (acc ++ (xs.drop i).filterMap F)] := by
    intro n
    induction n with
    | zero =>
      intro i acc hi _
      rw [List.drop_eq_nil_of_le (by omega)]
      show _ = _
      simp
    | succ n ih =>
      intro i acc hi hacc
      have hk : i < xs.length := by omega
      rw [List.drop_eq_getElem_cons hk]
      have h1 := hs i xs[i] acc (List.getElem?_eq_getElem hk) (by omega)
      show vE ((g (.d xs[i]) (kill vs sl) (rt1 ++ [.nst acc])).noex.bind _) _
      rw [vE_bind, vE_noex]
      refine h1.imp fun sl1 rt2 h2 => ?_
      rw [vE_bind, vE_noex]
      refine h2.imp fun b rt3 h3 => ?_
      cases b with
      | true =>
        rw [if_pos rfl] at h3 ⊢
        rw [vE_bind, vE_noex]
        refine h3.imp fun y rt4 h4 => ?_
        rw [vE_bind, vE_noex]
        refine h4.imp fun _ rt5 ⟨z, h5, hF⟩ => ?_
        rw [h5, if_pos (tk _)]
        refine (ih (i + 1) _ (by omega) (by simp; omega)).imp fun _ rt' e => ?_
        rw [e, List.filterMap_cons, hF]
        simp
      | false =>
        rw [if_neg (by decide)] at h3 ⊢
        obtain ⟨h5, hF⟩ := h3
        rw [h5, if_pos (tk _)]
        refine (ih (i + 1) acc (by omega) (by omega)).imp fun _ rt' e => ?_
        rw [e, List.filterMap_cons, hF]
  have := main xs.length 0 [] (by omega) (Nat.le_refl _)
  rw [List.drop_zero] at this
  refine this.imp fun _ rt' e => ?_
  subst e
  exact hq
/-- a comprehension whose members stay live; what each turn makes is F's, nothing else changes -/
theorem w_compNF {it : Ex (List D)} {g : Gx} {vs : List Nat} {tt : Ex Bool} {el : Ex W} (F : D → Option O)
    (h : wE (it sl rt) fun xs rt1 => tkOk (rt1.length + 1) rt1 = true ∧ xs.length < 16000000 ∧
      (∀ (i : Nat) x acc, xs[i]? = some x → acc.length < 16000000 → wE (g (.d x) (kill vs sl) (rt1 ++ [.nst acc])) fun sl1 rt2 => wE (tt sl1 rt2) fun b rt3 => if b = true then wE (el sl1 rt3) fun y rt4 => wE (mAppN (.r rt1.length) [y] rt4) fun _ rt5 => ∃ z, rt5.take (rt1.length + 1) = rt1 ++ [.nst (acc ++ [z])] ∧ F x = some z
        else rt3.take (rt1.length + 1) = rt1 ++ [.nst acc] ∧ F x = none) ∧
      Q (.r rt1.length) (rt1 ++ [.nst (xs.filterMap F)])) : wE (eCompN vs it g tt el sl rt) Q := by
  simp only [wE_fun] at h ⊢
  exact v_compNF F h
/-! ghosts -/
theorem w_fz {i : Nat} {m : Sx} {N : Sl → List O → Prop} {R : W → List O → Prop} {B C : Sl → List O → Prop} : wS (sFz i m sl rt) N R B C = wS (m sl rt) (fun sl1 rt1 => wE (eVar i sl1 rt1) fun x rt2 => wE (vOf x rt2) fun y rt3 => N (sl1.set i (some (.d y))) rt3) R B C := by
  simp only [wE_fun, wS_fun]
  show vS ((m sl rt).andThen (sFrz i)) N R B C = _
  rw [vS_then]
  congr 1
  funext sl1 rt1
  unfold sFrz eVar
  cases sl1[i]? with
  | none => rfl
  | some o =>
    cases o with
    | none => rfl
    | some x =>
      simp only
      show _ = vE (vOf x rt1) _
      cases vOf x rt1 <;> rfl
theorem w_tidy {ks : List Nat} {m : Sx} {N : Sl → List O → Prop} {R : W → List O → Prop} {B C : Sl → List O → Prop} : wS (sTidy ks m sl rt) N R B C = wS (m sl rt) (gTurn ks rt.length N) R B C := by
  simp only [wS_fun]
  unfold sTidy
  cases m sl rt with
  | nx sl1 rt1 =>
    show vS (turnEnd ks rt.length .nx sl1 rt1) N R B C = gTurn ks rt.length N sl1 rt1
    unfold turnEnd gTurn
    split
    · rename_i h
      simp only [h, true_and]
      rfl
    · rename_i h
      simp only [h, Bool.false_eq_true, false_and]
      rfl
  | _ => rfl
theorem w_revK {m : Ex W} : wE (eRevK m sl rt) Q = wE (m sl rt) fun x rt => wE (okT rt ((tpOf x).map List.reverse)) Q := by
  simp only [wE_fun]
  exact vE_bind
/-! append -/
theorem mAppN_d {n : Nat} {y : D} : mAppN (.r n) [.d y] rt = appD n y rt (rd rt n) := rfl
theorem mAppN_r {n m : Nat} : mAppN (.r n) [.r m] rt = appO n m rt rt[m]? := rfl
theorem appD_lst {n : Nat} {y : D} {zs : List D} : appD n y rt (some (.lst zs)) = if zs.length < 16000000 then .ok (.d .non) (wr rt n (.lst (zs ++ [y]))) else .no := rfl
theorem appD_nst {n : Nat} {y : D} {os : List O} : appD n y rt (some (.nst os)) = if os.length < 16000000 then .ok (.d .non) (wr rt n (.nst (os ++ [.d y]))) else .no := rfl
theorem appO_d {n m : Nat} {y : D} : appO n m rt (some (.d y)) = appD n y rt (rd rt n) := rfl
theorem appO_lst {n m : Nat} {xs : List D} : appO n m rt (some (.lst xs)) = appL n m (.lst xs) rt ((rd rt n).bind osOf) := rfl
theorem appO_nst {n m : Nat} {xs : List O} : appO n m rt (some (.nst xs)) = appL n m (.nst xs) rt ((rd rt n).bind osOf) := rfl
theorem appL_some {n m : Nat} {z : O} {os : List O} : appL n m z rt (some os) = if (locR rt n).1 ≠ m ∧ noVw m rt = true ∧ os.length < 16000000 then .ok (.d .non) ((wr rt n (.nst (os ++ [z]))).set m (.vw (locR rt n).1 ((locR rt n).2 ++ [.ix os.length]))) else .no := rfl
theorem osOf_lst {xs : List D} : osOf (.lst xs) = some (xs.map O.d) := rfl
theorem osOf_nst {xs : List O} : osOf (.nst xs) = some xs := rfl
theorem noVw_nil {m : Nat} : noVw m [] = true := rfl
theorem noVw_lst {m : Nat} {xs : List D} : noVw m (.lst xs :: rt) = noVw m rt := by simp [noVw]
theorem noVw_nst {m : Nat} {xs : List O} : noVw m (.nst xs :: rt) = noVw m rt := by simp [noVw]
theorem noVw_d {m : Nat} {xs : D} : noVw m (.d xs :: rt) = noVw m rt := by simp [noVw]
theorem noVw_dk {m : Nat} {xs : List (Key × D)} : noVw m (.dk xs :: rt) = noVw m rt := by simp [noVw]
theorem noVw_dt {m : Nat} {xs : List (List Key × D)} : noVw m (.dt xs :: rt) = noVw m rt := by simp [noVw]
theorem noVw_ndk {m : Nat} {xs : List (Key × O)} : noVw m (.ndk xs :: rt) = noVw m rt := by simp [noVw]
theorem noVw_ndt {m : Nat} {xs : List (List Key × O)} : noVw m (.ndt xs :: rt) = noVw m rt := by simp [noVw]
theorem noVw_vw {m n : Nat} {p : List Sel} : noVw m (.vw n p :: rt) = (decide (n ≠ m) && noVw m rt) := by simp [noVw]
/-! d[k] = y -/
theorem w_subN {mo mi : Ex W} {T : Sl → List O → Prop} : wE (gSbN mo mi x sl rt) T = wE (mo sl rt) fun o rt => wE (mi sl rt) fun i rt => wE (setIxN o i x rt) fun _ rt => T sl rt := by
  simp only [wE_fun]
  show vE ((mo sl rt).bind _) T = _
  rw [vE_bind]
  congr 1; funext o rt
  rw [vE_bind]
  congr 1; funext i rt
  rw [vE_bind]
  rfl
theorem setIxN_d {o i : W} {y : D} : setIxN o i (.d y) rt = setIx o i y rt := rfl
theorem setIxN_r {n m : Nat} {i : W} : setIxN (.r n) i (.r m) rt = setLO n m i rt rt[m]? := rfl
theorem setLO_d {n m : Nat} {i : W} {y : D} : setLO n m i rt (some (.d y)) = setIx (.r n) i y rt := rfl
theorem setLO_lst {n m : Nat} {i : W} {xs : List D} : setLO n m i rt (some (.lst xs)) = setL n m (.lst xs) i rt (rd rt n) := rfl
theorem setLO_nst {n m : Nat} {i : W} {xs : List O} : setLO n m i rt (some (.nst xs)) = setL n m (.nst xs) i rt (rd rt n) := rfl
theorem setL_dk {n m : Nat} {o : O} {i : W} {kvs : List (Key × D)} : setL n m o i rt (some (.dk kvs)) = setLk n m o i rt (some (kvs.map fun p => (p.1, O.d p.2))) := rfl
theorem setL_ndk {n m : Nat} {o : O} {i : W} {kvs : List (Key × O)} : setL n m o i rt (some (.ndk kvs)) = setLk n m o i rt (some kvs) := rfl
theorem setL_dt {n m : Nat} {o : O} {i : W} {kvs : List (List Key × D)} : setL n m o i rt (some (.dt kvs)) = setLt n m o i rt (some (kvs.map fun p => (p.1, O.d p.2))) := rfl
theorem setL_ndt {n m : Nat} {o : O} {i : W} {kvs : List (List Key × O)} : setL n m o i rt (some (.ndt kvs)) = setLt n m o i rt (some kvs) := rfl
theorem setLt_ii {n m : Nat} {o : O} {a b : Int} {os : List (List Key × O)} : setLt n m o (.d (.tup [.int a, .int b])) rt (some os) = if (aget os [.inl a, .inl b]).isNone = true ∧ (locR rt n).1 ≠ m ∧ noVw m rt = true ∧ os.length < 16000000 then .ok () ((wr rt n (.ndt (os ++ [([.inl a, .inl b], o)]))).set m (.vw (locR rt n).1 ((locR rt n).2 ++ [.keys [.inl a, .inl b]]))) else .no := rfl
theorem setLk_i {n m : Nat} {o : O} {a : Int} {os : List (Key × O)} : setLk n m o (.d (.int a)) rt (some os) = if (aget os (.inl a)).isNone = true ∧ (locR rt n).1 ≠ m ∧ noVw m rt = true ∧ os.length < 16000000 then .ok () ((wr rt n (.ndk (os ++ [(.inl a, o)]))).set m (.vw (locR rt n).1 ((locR rt n).2 ++ [.key (.inl a)]))) else .no := rfl
/-! d.get(k, x) -/
theorem w_get {mo mk mf : Ex W} : wE (eGet mo mk mf sl rt) Q = wE (mo sl rt) fun x rt => if (dcOf x rt).isSome = true then wE (mk sl rt) fun k rt => wE (mf sl rt) fun z rt => wE (gtD k z rt (dcOf x rt)) Q else False := by
  simp only [wE_fun]
  show vE ((mo sl rt).bind _) Q = _
  rw [vE_bind]
  congr 1; funext x rt
  rw [vE_ite]
  congr 1
  rw [vE_bind]
  congr 1; funext k rt
  rw [vE_bind]
theorem dcOf_dt {kvs : List (List Key × D)} : dcOf (.d (.dt kvs)) rt = some (.inr kvs) := rfl
theorem gtD_ii {a b : Int} {kvs : List (List Key × D)} : gtD (.d (.tup [.int a, .int b])) z rt (some (.inr kvs)) = gtO z rt (dget kvs [.inl a, .inl b]) := rfl
theorem gtD_i {a : Int} {kvs : List (Key × D)} : gtD (.d (.int a)) z rt (some (.inl kvs)) = gtO z rt (dget kvs (.inl a)) := rfl
theorem gtO_some {y : D} : gtO z rt (some y) = .ok (.d y) rt := rfl
theorem gtO_none : gtO z rt none = .ok z rt := rfl
/-! max(xs, default=d) -/
theorem w_maxD {ma : Ex (List W)} {md : Ex W} : wE (eMaxD ma md sl rt) Q = wE (ma sl rt) fun xs rt => wE (md sl rt) fun z rt => wE (mxDL z rt xs) Q := by
  simp only [wE_fun]
  show vE ((ma sl rt).bind _) Q = _
  rw [vE_bind]
  congr 1; funext xs rt
  rw [vE_bind]
theorem mxDL_1 : mxDL z rt [x] = mxDO z rt (sqI x rt) := rfl
theorem sqI_tup {xs : List D} : sqI (.d (.tup xs)) rt = intsOf xs := rfl
theorem mxDO_nil : mxDO z rt (some []) = .ok z rt := rfl
theorem mxDO_cons {n : Int} {ns : List Int} : mxDO z rt (some (n :: ns)) = .ok (.d (.int (maxL (n :: ns)))) rt := rfl
/-! xs.count(y), sorted(rows) -/
theorem mCount_1 : mCount x [y] rt = cntO rt ((lsOf x rt).bind fun ds => cntD ds (lkD y rt)) := rfl
theorem cntO_some {n : Nat} : cntO rt (some n) = .ok (.d (.int (n : Int))) rt := rfl
theorem bSortR_1 : bSortR [x] rt = srtO rt ((lsOf x rt).bind rowsOf) := rfl
theorem srtO_some {rows : List (List Int)} : srtO rt (some rows) = if (rows.all fun r => !r.isEmpty) = true then .ok (.r rt.length) (rt ++ [.lst ((srtR rows).map rowD)]) else .no := rfl
end
/-! lending calls, instances -/
section
variable {sl : Sl} {rt : List O} {Q : W → List O → Prop} {f : FM} {fl : List Bool} {ms : Ex (List W)} {mo mi ma mv : Ex W} {js : List Nat} {ws xs : List W} {C : Addr} {mn : Str} {ds : List D}
theorem w_lend : wE (eLend f fl ms sl rt) Q = wE (ms sl rt) fun ws rt => if ws.length = fl.length then wE (callLn fl f ws rt) Q else False := by
  simp only [wE_fun]
  show vE ((ms sl rt).bind _) Q = _
  rw [vE_bind]
  congr 1; funext ws rt
  by_cases h : ws.length = fl.length
  · rw [if_pos h, if_pos h]
  · rw [if_neg h, if_neg h]; rfl
def lendQ (js : List Nat) (rt : List O) (Q : W → List O → Prop) (x : W) (rs : List O) : Prop := if (allNv rs && (immR rs && immW x)) = true then Q (back js rt.length x) (put js rs rt ++ rs.drop js.length) else False
theorem w_callLn : wE (callLn fl f ws rt) Q = wE (lendF (lroots fl ws) rt f (lendW (lroots fl ws) rt fl ws)) Q := rfl
theorem w_lendF : wE (lendF js rt f (some xs)) Q = if okRoots js rt = true then wE (f xs (pk js rt (.d .non))) (lendQ js rt Q) else False := by
  simp only [wE_fun]
  show vE (if okRoots js rt = true then bckR js rt (f xs (pk js rt (.d .non))) else .no) Q = _
  by_cases h : okRoots js rt = true
  · rw [if_pos h, if_pos h]
    cases f xs (pk js rt (.d .non)) with
    | ok x rs =>
      show vE (if _ then _ else _) Q = lendQ js rt Q x rs
      unfold lendQ
      by_cases h2 : (allNv rs && (immR rs && immW x)) = true
      · rw [if_pos h2, if_pos h2]; rfl
      · rw [if_neg h2, if_neg h2]; rfl
    | ex c fs rs => rfl
    | no => rfl
  · rw [if_neg h, if_neg h]; rfl
theorem w_fld {f : Str} : wE (eFld C f mo sl rt) Q = wE (mo sl rt) fun x rt => wE (fldW C f x rt) Q := by
  simp only [wE_fun]
  show vE ((mo sl rt).bind _) Q = _
  rw [vE_bind]
def nonQ (P : List O → Prop) : W → List O → Prop
  | .d .non, rt => P rt
  | _, _ => False
theorem w_make : wE (eMake C f fl ds ms sl rt) Q = wE (ms sl rt) fun ws rt => if ws.length + ds.length + 1 = fl.length then wE (callLn fl f (.r rt.length :: (ws ++ ds.map .d)) (rt ++ [.ins C []])) (nonQ (Q (.r rt.length))) else False := by
  simp only [wE_fun]
  show vE ((ms sl rt).bind _) Q = _
  rw [vE_bind]
  congr 1; funext ws rt
  unfold makeF
  by_cases h : ws.length + ds.length + 1 = fl.length
  · rw [if_pos h, if_pos h]
    cases callLn fl f (.r rt.length :: (ws ++ ds.map .d)) (rt ++ [.ins C []]) with
    | ok x rs =>
      cases x with
      | d x => cases x <;> rfl
      | r n => rfl
    | ex c fs rs => rfl
    | no => rfl
  · rw [if_neg h, if_neg h]; rfl
theorem w_meth : wE (eMeth C mn f fl ds mo ms sl rt) Q = wE (mo sl rt) fun x rt => if insW C mn rt x = true then wE (ms sl rt) fun ws rt => if ws.length + ds.length + 1 = fl.length then wE (callLn fl f (x :: (ws ++ ds.map .d)) rt) Q else False else False := by
  simp only [wE_fun]
  show vE ((mo sl rt).bind _) Q = _
  rw [vE_bind]
  congr 1; funext x rt
  by_cases h : insW C mn rt x = true
  · rw [if_pos h, if_pos h, vE_bind]
    congr 1; funext ws rt
    by_cases h : ws.length + ds.length + 1 = fl.length
    · rw [if_pos h, if_pos h]
    · rw [if_neg h, if_neg h]; rfl
  · rw [if_neg h, if_neg h]; rfl
theorem w_meth0 : wE (eMeth0 C mn f fl ds mo sl rt) Q = wE (mo sl rt) fun x rt => if insW C mn rt x = true ∧ ds.length + 1 = fl.length then wE (callLn fl f (x :: ds.map .d) rt) Q else False := by
  simp only [wE_fun]
  show vE ((mo sl rt).bind _) Q = _
  rw [vE_bind]
  congr 1; funext x rt
  by_cases h : insW C mn rt x = true ∧ ds.length + 1 = fl.length
  · rw [if_pos h, if_pos h]
  · rw [if_neg h, if_neg h]; rfl
theorem w_itm : wE (eItm C f fl mo mi sl rt) Q = wE (mo sl rt) fun x rt => wE (mi sl rt) fun y rt => if insW C "__getitem__" rt x = true then wE (callLn fl f [x, y] rt) Q else False := by
  simp only [wE_fun]
  show vE ((mo sl rt).bind _) Q = _
  rw [vE_bind]
  congr 1; funext x rt
  rw [vE_bind]
  congr 1; funext y rt
  by_cases h : insW C "__getitem__" rt x = true
  · rw [if_pos h, if_pos h]
  · rw [if_neg h, if_neg h]; rfl
theorem w_setC {x : W} {Q : Sl → List O → Prop} : wE (gSetC C f fl mo mi x sl rt) Q = wE (mo sl rt) fun o rt => wE (mi sl rt) fun i rt => if insW C "__setitem__" rt o = true then wE (callLn fl f [o, i, x] rt) (fun _ rt => Q sl rt) else False := by
  simp only [wE_fun]
  show vE ((mo sl rt).bind _) Q = _
  rw [vE_bind]
  congr 1; funext o rt
  rw [vE_bind]
  congr 1; funext i rt
  by_cases h : insW C "__setitem__" rt o = true
  · rw [if_pos h, if_pos h, vE_bind]; rfl
  · rw [if_neg h, if_neg h]; rfl
theorem w_fldS {f : Str} {N : Sl → List O → Prop} {R : W → List O → Prop} {B C' : Sl → List O → Prop} : wS (sFldS C f ma mv sl rt) N R B C' = wE (mv sl rt) fun y rt => wE (ma sl rt) fun x rt => wS (stW C f x y sl rt) N R B C' := by
  unfold sFldS
  rw [wS_seq]
  congr 1; funext y rt
  rw [wS_seq]
theorem lendQ_eq {x : W} {rs : List O} : lendQ js rt Q x rs = if (allNv rs && (immR rs && immW x)) = true then Q (back js rt.length x) (put js rs rt ++ rs.drop js.length) else False := rfl
theorem nonQ_eq {P : List O → Prop} : nonQ P (.d .non) rt = P rt := rfl
theorem immDs_map {α : Type} {g : α → D} (h : ∀ a, immD (g a) = true) : ∀ l : List α, immDs (l.map g) = true
  | [] => rfl
  | a :: l => by simp [immDs, h a, immDs_map h l]
theorem immDs_int (l : List Int) : immDs (l.map D.int) = true := immDs_map (fun _ => rfl) l
theorem immOs_map {α : Type} {g : α → O} (h : ∀ a, immO (g a) = true) : ∀ l : List α, immOs (l.map g) = true
  | [] => rfl
  | a :: l => by simp [immOs, h a, immOs_map h l]
theorem toDs_map {α : Type} {g : α → O} {g' : α → D} (h : ∀ a, (g a).toD = g' a) : ∀ l : List α, O.toDs (l.map g) = l.map g'
  | [] => rfl
  | a :: l => by rw [List.map_cons, List.map_cons, O.toDs, h a, toDs_map h l]
theorem aget_nil {κ α : Type} [DecidableEq κ] {k : κ} : aget ([] : List (κ × α)) k = none := rfl
theorem aget_cons {κ α : Type} [DecidableEq κ] {k k' : κ} {x : α} {xs : List (κ × α)} : aget ((k', x) :: xs) k = if k' = k then some x else aget xs k := rfl
theorem insW_d {x : D} : insW C mn rt (.d x) = hasM C mn (.d x) := rfl
def insO (C : Addr) (mn : Str) : Option O → Bool
  | some o => hasM C mn o
  | none => false
theorem insW_r {n : Nat} : insW C mn rt (.r n) = insO C mn (rd rt n) := by
  unfold insW insO
  cases h : rd rt n <;> simp only [h]
theorem gOwnB_eq {x y : W} : gOwnB C f fl x y rt = if insW C "" rt x = true ∧ insW C "" rt y = true then callLn fl f [x, y] rt else .no := rfl
theorem bIsC_2 {x : W} {a : Addr} : bIsC C [x, .d (.ref a)] rt = if a = C ∧ insW C "" rt x = true then .ok (.d (.bl true)) rt else .no := rfl
end
/-! an expression that only reads; stars; min with default -/
section
variable {sl : Sl} {rt : List O} {Q : W → List O → Prop} {A : List W → List O → Prop} {m ma md : Ex W} {ms : Ex (List W)} {x z : W}
theorem w_bor : wE (eBor m sl rt) Q = wE (m (borSl rt sl) []) (lendQ [] rt Q) := by
  simp only [wE_fun]
  show vE (bckR [] rt (m (borSl rt sl) [])) Q = _
  cases m (borSl rt sl) [] with
  | ok x rs =>
    show vE (if _ then _ else _) Q = lendQ [] rt Q x rs
    unfold lendQ
    by_cases h2 : (allNv rs && (immR rs && immW x)) = true
    · rw [if_pos h2, if_pos h2]; rfl
    · rw [if_neg h2, if_neg h2]; rfl
  | ex c fs rs => rfl
  | no => rfl
theorem borSl_nil : borSl rt [] = [] := rfl
theorem borSl_cons {o : Option W} : borSl rt (o :: sl) = o.bind (lend1 [] rt false) :: borSl rt sl := rfl
def starQ : Option (List D) → (List D → Prop) → Prop
  | some xs, P => P xs
  | none, _ => False
theorem starQ_some {xs : List D} {P : List D → Prop} : starQ (some xs) P = P xs := rfl
theorem w_star : wE (aStar m ms sl rt) A = wE (m sl rt) fun x rt => starQ (seqO x rt) fun xs => wE (ms sl rt) fun ys rt => A (xs.map .d ++ ys) rt := by
  simp only [wE_fun]
  show vE ((m sl rt).bind _) A = _
  rw [vE_bind]
  congr 1; funext x rt
  cases seqO x rt with
  | none => rfl
  | some xs =>
    show vE ((ms sl rt).bind _) A = vE (ms sl rt) _
    rw [vE_bind]
    rfl
theorem seqO_tup {xs : List D} : seqO (.d (.tup xs)) rt = some xs := rfl
theorem seqO_ktup {xs : List D} : seqO (.d (.ktup xs)) rt = some xs := rfl
theorem seqO_lst {xs : List D} : seqO (.d (.lst xs)) rt = some xs := rfl
theorem seqO_r {n : Nat} : seqO (.r n) rt = lsOf (.r n) rt := rfl
theorem valsOf_map {xs : List D} {ys : List W} : valsOf (xs.map .d ++ ys) rt = (valsOf ys rt).bind fun zs rt => .ok (xs ++ zs) rt := by
  induction xs with
  | nil =>
    show valsOf ys rt = _
    cases valsOf ys rt <;> rfl
  | cons x xs ih =>
    show (valsOf (xs.map .d ++ ys) rt).bind _ = _
    rw [ih]
    cases valsOf ys rt <;> rfl
theorem w_minD : wE (eMinD ms md sl rt) Q = wE (ms sl rt) fun xs rt => wE (md sl rt) fun z rt => wE (mnDL z rt xs) Q := by
  simp only [wE_fun]
  show vE ((ms sl rt).bind _) Q = _
  rw [vE_bind]
  congr 1; funext xs rt
  rw [vE_bind]
theorem w_eTRg : wE (eTRg m sl rt) Q = wE (m sl rt) fun x rt => oint (fun n => if n ≤ 16000000 ∧ 0 ≤ n then Q (.d (.tup (rangeD 0 n.toNat))) rt else False) x := by
  simp only [wE_fun]
  show vE ((m sl rt).bind _) Q = _
  rw [vE_bind]
  congr 1; funext x rt
  cases x with
  | r n => rfl
  | d x =>
    cases x <;> first | rfl | (show vE (if _ then _ else _) Q = _; rw [vE_ite]; rfl)
theorem bMinP_1 : bMinP [x] rt = mnPO rt ((lsOf x rt).bind prOf) := rfl
theorem mnPO_cons {p : Int × Int} {ps : List (Int × Int)} : mnPO rt (some (p :: ps)) = .ok (.d (prD (minP (p :: ps)))) rt := rfl
theorem mnDL_1 : mnDL z rt [x] = mnDO z rt (sqI x rt) := rfl
theorem sqI_lst {xs : List D} : sqI (.d (.lst xs)) rt = intsOf xs := rfl
theorem sqI_r {n : Nat} : sqI (.r n) rt = (lsOf (.r n) rt).bind intsOf := rfl
theorem mnDO_nil : mnDO z rt (some []) = .ok z rt := rfl
theorem mnDO_cons {n : Int} {ns : List Int} : mnDO z rt (some (n :: ns)) = .ok (.d (.int (minL (n :: ns)))) rt := rfl
end
end VE
namespace VE
open PySem PySem.Spec L2
end VE

set_option maxHeartbeats 4000000
namespace VL
open PySem PySem.Spec L2 VE
def topS (i : Nat) : Stmt := PySem.Challenge.pw_drawnlayers_k30_whole_no_cheaper_order.main.body.getD i (.Pass ⟨0, 0, 0, 0⟩)
abbrev s__law_bag : Stmt := topS 17
abbrev N__law_bag : List Str := ["script", "cell"]
theorem sc__law_bag : FnScope N__law_bag ["script"] (defScope s__law_bag) := ⟨rfl, rfl, rfl, by decide +kernel, rfl, by decide +kernel, by decide +kernel⟩
abbrev s__law_draw : Stmt := topS 18
abbrev N__law_draw : List Str := ["bag", "many", "cell", "drawn", "first", "second", "third"]
theorem sc__law_draw : FnScope N__law_draw ["bag", "many"] (defScope s__law_draw) := ⟨rfl, rfl, rfl, by decide +kernel, rfl, by decide +kernel, by decide +kernel⟩
abbrev s__law_lifted : Stmt := topS 25
abbrev N__law_lifted : List Str := ["bag", "rows", "size", "a", "b"]
theorem sc__law_lifted : FnScope N__law_lifted ["bag", "rows"] (defScope s__law_lifted) := ⟨rfl, rfl, rfl, by decide +kernel, rfl, by decide +kernel, by decide +kernel⟩
abbrev s__law_cost_rows : Stmt := topS 23
abbrev N__law_cost_rows : List Str := ["bag", "size", "way_of", "rows", "a", "row", "b", "price_here"]
theorem sc__law_cost_rows : FnScope N__law_cost_rows ["bag", "size"] (defScope s__law_cost_rows) := ⟨rfl, rfl, rfl, by decide +kernel, rfl, by decide +kernel, by decide +kernel⟩
abbrev s_Costs___init__ : Stmt := inClass (topS 15) 0
abbrev N_Costs___init__ : List Str := ["self", "size", "rows", "_", "a", "b"]
theorem sc_Costs___init__ : FnScope N_Costs___init__ ["self", "size", "rows"] (defScope s_Costs___init__) := ⟨rfl, rfl, rfl, by decide +kernel, rfl, by decide +kernel, by decide +kernel⟩
abbrev s_Costs_of : Stmt := inClass (topS 15) 8
abbrev N_Costs_of : List Str := ["rows"]
theorem sc_Costs_of : FnScope N_Costs_of ["rows"] (defScope s_Costs_of) := ⟨rfl, rfl, rfl, by decide +kernel, rfl, by decide +kernel, by decide +kernel⟩
abbrev s_Costs_rows : Stmt := inClass (topS 15) 7
abbrev N_Costs_rows : List Str := ["self", "row"]
theorem sc_Costs_rows : FnScope N_Costs_rows ["self"] (defScope s_Costs_rows) := ⟨rfl, rfl, rfl, by decide +kernel, rfl, by decide +kernel, by decide +kernel⟩
abbrev s__subsets : Stmt := topS 4
abbrev N__subsets : List Str := ["size", "found", "number", "subset"]
theorem sc__subsets : FnScope N__subsets ["size"] (defScope s__subsets) := ⟨rfl, rfl, rfl, by decide +kernel, rfl, by decide +kernel, by decide +kernel⟩
abbrev s__without : Stmt := topS 5
abbrev N__without : List Str := ["subset", "place"]
theorem sc__without : FnScope N__without ["subset", "place"] (defScope s__without) := ⟨rfl, rfl, rfl, by decide +kernel, rfl, by decide +kernel, by decide +kernel⟩
abbrev s__price_of : Stmt := topS 6
abbrev N__price_of : List Str := ["rows", "table", "subset", "prices", "place", "last", "others", "other"]
theorem sc__price_of : FnScope N__price_of ["rows", "table", "subset"] (defScope s__price_of) := ⟨rfl, rfl, rfl, by decide +kernel, rfl, by decide +kernel, by decide +kernel⟩
abbrev s_subset_table : Stmt := topS 3
abbrev N_subset_table : List Str := ["costs", "rows", "table", "subset"]
theorem sc_subset_table : FnScope N_subset_table ["costs"] (defScope s_subset_table) := ⟨rfl, rfl, rfl, by decide +kernel, rfl, by decide +kernel, by decide +kernel⟩
abbrev s__best_first : Stmt := topS 7
abbrev N__best_first : List Str := ["rows", "table", "subset", "prices", "place", "first", "others", "other"]
theorem sc__best_first : FnScope N__best_first ["rows", "table", "subset"] (defScope s__best_first) := ⟨rfl, rfl, rfl, by decide +kernel, rfl, by decide +kernel, by decide +kernel⟩
abbrev s_least_order : Stmt := topS 2
abbrev N_least_order : List Str := ["costs", "rows", "table", "left", "price", "order", "place"]
theorem sc_least_order : FnScope N_least_order ["costs"] (defScope s_least_order) := ⟨rfl, rfl, rfl, by decide +kernel, rfl, by decide +kernel, by decide +kernel⟩
abbrev s_Costs__has : Stmt := inClass (topS 15) 9
abbrev N_Costs__has : List Str := ["self", "a", "b"]
theorem sc_Costs__has : FnScope N_Costs__has ["self", "a", "b"] (defScope s_Costs__has) := ⟨rfl, rfl, rfl, by decide +kernel, rfl, by decide +kernel, by decide +kernel⟩
abbrev s_Costs___getitem__ : Stmt := inClass (topS 15) 1
abbrev N_Costs___getitem__ : List Str := ["self", "at", "a", "b"]
theorem sc_Costs___getitem__ : FnScope N_Costs___getitem__ ["self", "at"] (defScope s_Costs___getitem__) := ⟨rfl, rfl, rfl, by decide +kernel, rfl, by decide +kernel, by decide +kernel⟩
abbrev s_pair_bound : Stmt := topS 9
abbrev N_pair_bound : List Str := ["costs", "bound", "b", "a"]
theorem sc_pair_bound : FnScope N_pair_bound ["costs"] (defScope s_pair_bound) := ⟨rfl, rfl, rfl, by decide +kernel, rfl, by decide +kernel, by decide +kernel⟩
abbrev s__law_order_price : Stmt := topS 24
abbrev N__law_order_price : List Str := ["rows", "order", "total", "i", "k"]
theorem sc__law_order_price : FnScope N__law_order_price ["rows", "order"] (defScope s__law_order_price) := ⟨rfl, rfl, rfl, by decide +kernel, rfl, by decide +kernel, by decide +kernel⟩
abbrev s__law_whole : Stmt := topS 20
abbrev N__law_whole : List Str := ["got"]
theorem sc__law_whole : FnScope N__law_whole ["got"] (defScope s__law_whole) := ⟨rfl, rfl, rfl, by decide +kernel, rfl, by decide +kernel, by decide +kernel⟩
abbrev s__law_wholes : Stmt := topS 21
abbrev N__law_wholes : List Str := ["got", "many", "one"]
theorem sc__law_wholes : FnScope N__law_wholes ["got", "many"] (defScope s__law_wholes) := ⟨rfl, rfl, rfl, by decide +kernel, rfl, by decide +kernel, by decide +kernel⟩
abbrev s__law_is_told : Stmt := topS 26
abbrev N__law_is_told : List Str := ["got", "rows"]
theorem sc__law_is_told : FnScope N__law_is_told ["got", "rows"] (defScope s__law_is_told) := ⟨rfl, rfl, rfl, by decide +kernel, rfl, by decide +kernel, by decide +kernel⟩
abbrev s_Costs___add__ : Stmt := inClass (topS 15) 4
abbrev N_Costs___add__ : List Str := ["self", "other", "rows", "mine", "more", "x", "y"]
theorem sc_Costs___add__ : FnScope N_Costs___add__ ["self", "other"] (defScope s_Costs___add__) := ⟨rfl, rfl, rfl, by decide +kernel, rfl, by decide +kernel, by decide +kernel⟩
abbrev s__law_beats : Stmt := topS 27
abbrev N__law_beats : List Str := ["rows", "got", "other", "total"]
theorem sc__law_beats : FnScope N__law_beats ["rows", "got", "other"] (defScope s__law_beats) := ⟨rfl, rfl, rfl, by decide +kernel, rfl, by decide +kernel, by decide +kernel⟩
abbrev s__law_same : Stmt := topS 22
abbrev N__law_same : List Str := ["got", "due", "k", "key"]
theorem sc__law_same : FnScope N__law_same ["got", "due"] (defScope s__law_same) := ⟨rfl, rfl, rfl, by decide +kernel, rfl, by decide +kernel, by decide +kernel⟩
abbrev s__law_stayed : Stmt := topS 31
abbrev N__law_stayed : List Str := ["costs", "rows", "row"]
theorem sc__law_stayed : FnScope N__law_stayed ["costs", "rows"] (defScope s__law_stayed) := ⟨rfl, rfl, rfl, by decide +kernel, rfl, by decide +kernel, by decide +kernel⟩
abbrev s__law_shuffle : Stmt := topS 19
abbrev N__law_shuffle : List Str := ["bag", "things", "rest", "mixed", "k"]
theorem sc__law_shuffle : FnScope N__law_shuffle ["bag", "things"] (defScope s__law_shuffle) := ⟨rfl, rfl, rfl, by decide +kernel, rfl, by decide +kernel, by decide +kernel⟩
abbrev s__law_rivals : Stmt := topS 29
abbrev N__law_rivals : List Str := ["bag", "size", "rivals", "k"]
theorem sc__law_rivals : FnScope N__law_rivals ["bag", "size"] (defScope s__law_rivals) := ⟨rfl, rfl, rfl, by decide +kernel, rfl, by decide +kernel, by decide +kernel⟩
abbrev s__law_near_orders : Stmt := topS 28
abbrev N__law_near_orders : List Str := ["order", "near", "i", "rest", "j", "swapped"]
theorem sc__law_near_orders : FnScope N__law_near_orders ["order"] (defScope s__law_near_orders) := ⟨rfl, rfl, rfl, by decide +kernel, rfl, by decide +kernel, by decide +kernel⟩
abbrev s__law_due_bound : Stmt := topS 30
abbrev N__law_due_bound : List Str := ["rows", "bound", "a", "b"]
theorem sc__law_due_bound : FnScope N__law_due_bound ["rows"] (defScope s__law_due_bound) := ⟨rfl, rfl, rfl, by decide +kernel, rfl, by decide +kernel, by decide +kernel⟩
abbrev s_law : Stmt := topS 32
abbrev N_law : List Str := ["script", "bag", "size", "rows", "more", "turned", "sums", "costs", "other", "got", "second", "third", "behind", "rivals", "rival", "bound", "a", "b", "row"]
theorem sc_law : FnScope N_law ["script"] (defScope s_law) := ⟨rfl, rfl, rfl, by decide +kernel, rfl, by decide +kernel, by decide +kernel⟩
/-- where the own classes stand -/
class CA where
  c_Costs : Addr
abbrev C_Costs [CA] : Addr := CA.c_Costs
structure Txt [CA] (K : PySem.W.Frag) (mg : Str → Option Value) : Prop where
  b_abs : mg "abs" = none
  b_bool : mg "bool" = none
  b_dict : mg "dict" = none
  b_enumerate : mg "enumerate" = none
  b_int : mg "int" = none
  b_isinstance : mg "isinstance" = none
  b_len : mg "len" = none
  b_list : mg "list" = none
  b_min : mg "min" = none
  b_range : mg "range" = none
  b_sorted : mg "sorted" = none
  b_str : mg "str" = none
  b_sum : mg "sum" = none
  b_tuple : mg "tuple" = none
  b_zip : mg "zip" = none
  k_Costs : ClsT K mg C_Costs "Costs"
  n_Costs__rows : NoAttr K C_Costs "_rows"
  n_Costs_size : NoAttr K C_Costs "size"
  sf_Costs : PySem.W.selfFirst K C_Costs = true
section
variable [CA] {P : Program} {w : World} {K : PySem.W.Frag} {mg : Str → Option Value} {base : Heap}
/-! _law_bag -/
noncomputable def b__law_bag_1 : Ex W := (eFn bAbs (aCons (eFn bInt (aCons (eVar 1) aNil)) aNil))
noncomputable def b__law_bag : Sx := (sRet (eLst (aCons (eComp [1] (itSeq (eVar 0)) (gN 1) eYes b__law_bag_1) (aCons (eC (.int 0)) (aCons (eC (.int 0)) (aCons (eC (.int 0)) (aCons (eC (.int 0)) (aCons (eC (.int 0)) aNil))))))))
noncomputable def m__law_bag : FM := mkF 2 b__law_bag
theorem ok__law_bag {f : Addr} {fd : FuncData} (F : Fun K "_law_bag" "_law_bag" s__law_bag f fd) (T : Txt K mg)  : FnOk P w K mg base (L2.CX P w) 2 f fd ["script"] (spV K w m__law_bag 1) :=
  fn_v F sc__law_bag fun cdv A outer s H E hr =>
      (vss_one (vs_ret (vx_lst (va_cons (vx_comp [1] rfl sc__law_bag.nd (vi_seq (vx_var 0)) (blkOk_by (N := N__law_bag) (sc := defScope s__law_bag) (own := [("cell", 1)]) (by decide +kernel)) rfl (fun s2 H2 C2 cl2 fp2 => (vgc_name 1 (by decide) sc__law_bag.nd rfl (by first | exact Or.inl rfl | exact Or.inr rfl))) (fun s2 H2 C2 cl2 fp2 => vts_nil) (fun s2 H2 C2 cl2 fp2 => (vx_callB cv_abs (by rfl) T.b_abs VE.boot_abs (va_cons (vx_callTy cv_int (by rfl) T.b_int VE.boot_int (va_cons (vx_var 1) va_nil)) va_nil)))) (va_cons vx_int (va_cons vx_int (va_cons vx_int (va_cons vx_int (va_cons vx_int va_nil)))))))))
/-! _law_draw -/
noncomputable def b__law_draw : Sx := (sSeq (sIf (eAndT (eB (eOp gEq (eOp gIxV (eVar 0) (eC (.int 2))) (eC (.int 0)))) (eAndT (eB (eOp gEq (eOp gIxV (eVar 0) (eC (.int 5))) (eC (.int 0)))) (eB (eOp gLt (eOp gIxV (eVar 0) (eC (.int 1))) (eFn bLen (aCons (eOp gIxV (eVar 0) (eC (.int 0))) aNil)))))) (sSeq (sSet 2 (eOp gIxV (eOp gIxV (eVar 0) (eC (.int 0))) (eOp gIxV (eVar 0) (eC (.int 1))))) (sSeq (sAsg (eOp gAdd (eOp gIxV (eVar 0) (eC (.int 1))) (eC (.int 1))) (gSb (eVar 0) (eC (.int 1)))) (sIf (eB (eOp gGe (eVar 2) (eOp gPow (eC (.int 10)) (eC (.int 18))))) (sAsg (eVar 2) (gSb (eVar 0) (eC (.int 2)))) (sSeq (sAsg (eOp gMod (eFn bInt (aCons (eOp gAdd (eOp gMul (eOp gIxV (eVar 0) (eC (.int 3))) (eC (.int 31))) (eVar 2)) aNil)) (eC (.int 1000000007))) (gSb (eVar 0) (eC (.int 3)))) (sAsg (eC (.int 5)) (gSb (eVar 0) (eC (.int 5)))))))) sNil) (sSeq (sIf (eB (eOp gGt (eOp gIxV (eVar 0) (eC (.int 2))) (eC (.int 0)))) (sSeq (sSet 3 (eOp gMod (eFn bInt (aCons (eOp gIxV (eVar 0) (eC (.int 2))) aNil)) (eVar 1))) (sSeq (sAsg (eOp gDiv (eOp gIxV (eVar 0) (eC (.int 2))) (eVar 1)) (gSb (eVar 0) (eC (.int 2)))) (sRet (eVar 3)))) sNil) (sSeq (sAsg (eOp gAdd (eOp gIxV (eVar 0) (eC (.int 4))) (eC (.int 1))) (gSb (eVar 0) (eC (.int 4)))) (sSeq (sIf (eB (eOp gGt (eOp gIxV (eVar 0) (eC (.int 5))) (eC (.int 0)))) (sAsg (eOp gDif (eOp gIxV (eVar 0) (eC (.int 5))) (eC (.int 1))) (gSb (eVar 0) (eC (.int 5)))) sNil) (sSeq (sSet 4 (eOp gMod (eFn bInt (aCons (eOp gAdd (eOp gAdd (eOp gMul (eOp gIxV (eVar 0) (eC (.int 3))) (eC (.int 48271))) (eOp gMul (eOp gIxV (eVar 0) (eC (.int 4))) (eC (.int 69621)))) (eC (.int 12345))) aNil)) (eC (.int 2147483647)))) (sSeq (sSet 5 (eOp gMod (eFn bInt (aCons (eOp gAdd (eOp gAdd (eOp gMul (eVar 4) (eVar 4)) (eOp gMul (eOp gIxV (eVar 0) (eC (.int 4))) (eC (.int 3571)))) (eC (.int 40692))) aNil)) (eC (.int 2147483399)))) (sSeq (sSet 6 (eOp gMod (eFn bInt (aCons (eOp gAdd (eOp gMul (eVar 5) (eVar 5)) (eOp gDiv (eVar 5) (eC (.int 97)))) aNil)) (eC (.int 2147483629)))) (sRet (eOp gMod (eFn bInt (aCons (eOp gDiv (eVar 6) (eC (.int 3))) aNil)) (eVar 1))))))))))
noncomputable def m__law_draw : FM := mkF 7 b__law_draw
theorem ok__law_draw {f : Addr} {fd : FuncData} (F : Fun K "_law_draw" "_law_draw" s__law_draw f fd) (T : Txt K mg)  : FnOk P w K mg base (L2.CX P w) 2 f fd ["bag", "many"] (spV K w m__law_draw 2) :=
  fn_v F sc__law_draw fun cdv A outer s H E hr =>
      (vss_cons (vs_if (VW.vt (vw_and (vt_cmp (opv_eq hr.units) (vx_ixv (room1 hr) (vx_var 0) vx_int) vx_int) (vw_and (vt_cmp (opv_eq hr.units) (vx_ixv (room1 hr) (vx_var 0) vx_int) vx_int) (vw_and1 (vt_cmp opv_lt (vx_ixv (room1 hr) (vx_var 0) vx_int) (vx_callB cv_len (by rfl) T.b_len VE.boot_len (va_cons (vx_ixv (room1 hr) (vx_var 0) vx_int) va_nil))))))) (vss_cons (vs_set 2 sc__law_draw.nd rfl (by first | exact Or.inl rfl | exact Or.inr rfl) (vx_ixv (room1 hr) (vx_ixv (room1 hr) (vx_var 0) vx_int) (vx_ixv (room1 hr) (vx_var 0) vx_int)))
      (vss_cons (vs_asg (vx_op opv_add (vx_ixv (room1 hr) (vx_var 0) vx_int) vx_int) (vg_sub (room1 hr) (vx_var 0) vx_int))
      (vss_one (vs_if (vt_cmp opv_ge (vx_var 2) (vx_op opv_pow vx_int vx_int)) (vss_one (vs_asg (vx_var 2) (vg_sub (room1 hr) (vx_var 0) vx_int))) (vss_cons (vs_asg (vx_op opv_mod (vx_callTy cv_int (by rfl) T.b_int VE.boot_int (va_cons (vx_op opv_add (vx_op opv_mul (vx_ixv (room1 hr) (vx_var 0) vx_int) vx_int) (vx_var 2)) va_nil)) vx_int) (vg_sub (room1 hr) (vx_var 0) vx_int))
      (vss_one (vs_asg vx_int (vg_sub (room1 hr) (vx_var 0) vx_int)))))))) vss_nil)
      (vss_cons (vs_if (vt_cmp opv_gt (vx_ixv (room1 hr) (vx_var 0) vx_int) vx_int) (vss_cons (vs_set 3 sc__law_draw.nd rfl (by first | exact Or.inl rfl | exact Or.inr rfl) (vx_op opv_mod (vx_callTy cv_int (by rfl) T.b_int VE.boot_int (va_cons (vx_ixv (room1 hr) (vx_var 0) vx_int) va_nil)) (vx_var 1)))
      (vss_cons (vs_asg (vx_op opv_div (vx_ixv (room1 hr) (vx_var 0) vx_int) (vx_var 1)) (vg_sub (room1 hr) (vx_var 0) vx_int))
      (vss_one (vs_ret (vx_var 3))))) vss_nil)
      (vss_cons (vs_asg (vx_op opv_add (vx_ixv (room1 hr) (vx_var 0) vx_int) vx_int) (vg_sub (room1 hr) (vx_var 0) vx_int))
      (vss_cons (vs_if (vt_cmp opv_gt (vx_ixv (room1 hr) (vx_var 0) vx_int) vx_int) (vss_one (vs_asg (vx_op opv_sub (vx_ixv (room1 hr) (vx_var 0) vx_int) vx_int) (vg_sub (room1 hr) (vx_var 0) vx_int))) vss_nil)
      (vss_cons (vs_set 4 sc__law_draw.nd rfl (by first | exact Or.inl rfl | exact Or.inr rfl) (vx_op opv_mod (vx_callTy cv_int (by rfl) T.b_int VE.boot_int (va_cons (vx_op opv_add (vx_op opv_add (vx_op opv_mul (vx_ixv (room1 hr) (vx_var 0) vx_int) vx_int) (vx_op opv_mul (vx_ixv (room1 hr) (vx_var 0) vx_int) vx_int)) vx_int) va_nil)) vx_int))
      (vss_cons (vs_set 5 sc__law_draw.nd rfl (by first | exact Or.inl rfl | exact Or.inr rfl) (vx_op opv_mod (vx_callTy cv_int (by rfl) T.b_int VE.boot_int (va_cons (vx_op opv_add (vx_op opv_add (vx_op opv_mul (vx_var 4) (vx_var 4)) (vx_op opv_mul (vx_ixv (room1 hr) (vx_var 0) vx_int) vx_int)) vx_int) va_nil)) vx_int))
      (vss_cons (vs_set 6 sc__law_draw.nd rfl (by first | exact Or.inl rfl | exact Or.inr rfl) (vx_op opv_mod (vx_callTy cv_int (by rfl) T.b_int VE.boot_int (va_cons (vx_op opv_add (vx_op opv_mul (vx_var 5) (vx_var 5)) (vx_op opv_div (vx_var 5) vx_int)) va_nil)) vx_int))
      (vss_one (vs_ret (vx_op opv_mod (vx_callTy cv_int (by rfl) T.b_int VE.boot_int (va_cons (vx_op opv_div (vx_var 6) vx_int) va_nil)) (vx_var 1)))))))))))
/-! _law_lifted -/
noncomputable def b__law_lifted_1 : Ex W := (eIf (eB (eOp gNe (eVar 3) (eVar 4))) (eOp gDif (eOp gPow (eC (.int 10)) (eC (.int 9))) (eOp gIxV (eOp gIxV (eVar 1) (eVar 3)) (eVar 4))) (eC (.int 0)))
noncomputable def b__law_lifted_2 : Ex W := (eComp [4] (itRng (aCons (eVar 2) aNil)) (gN 4) eYes b__law_lifted_1)
noncomputable def b__law_lifted : Sx := (sSeq (sIf (eB (eOp gGt (eCall m__law_draw 2 (aCons (eVar 0) (aCons (eC (.int 4)) aNil))) (eC (.int 0)))) (sRet (eVar 1)) sNil) (sSeq (sSet 2 (eFn bLen (aCons (eVar 1) aNil))) (sRet (eComp [3] (itRng (aCons (eVar 2) aNil)) (gN 3) eYes b__law_lifted_2))))
noncomputable def m__law_lifted : FM := mkF 5 b__law_lifted
theorem ok__law_lifted {f : Addr} {fd : FuncData} (F : Fun K "_law_lifted" "_law_lifted" s__law_lifted f fd) (T : Txt K mg) (c__law_draw : Cal P w K mg base 2 "_law_draw" ["bag", "many"] m__law_draw) : FnOk P w K mg base (L2.CX P w) 4 f fd ["bag", "rows"] (spV K w m__law_lifted 2) :=
  fn_v F sc__law_lifted fun cdv A outer s H E hr =>
      (vss_cons (vs_if (vt_cmp opv_gt (vx_fn c__law_draw hr (by decide) (by rfl) (takes_of rfl rfl rfl rfl) (va_cons (vx_var 0) (va_cons vx_int va_nil))) vx_int) (vss_one (vs_ret (vx_var 1))) vss_nil)
      (vss_cons (vs_set 2 sc__law_lifted.nd rfl (by first | exact Or.inl rfl | exact Or.inr rfl) (vx_callB cv_len (by rfl) T.b_len VE.boot_len (va_cons (vx_var 1) va_nil)))
      (vss_one (vs_ret (vx_comp [3] rfl sc__law_lifted.nd (vi_range1 (va_cons (vx_var 2) va_nil) (by rfl) T.b_range) (blkOk_by (N := N__law_lifted) (sc := defScope s__law_lifted) (own := [("a", 3)]) (by decide +kernel)) rfl (fun s2 H2 C2 cl2 fp2 => (vgc_name 3 (by decide) sc__law_lifted.nd rfl (by first | exact Or.inl rfl | exact Or.inr rfl))) (fun s2 H2 C2 cl2 fp2 => vts_nil) (fun s2 H2 C2 cl2 fp2 => (vx_comp [4] rfl sc__law_lifted.nd (vi_range1 (va_cons (vx_var 2) va_nil) (by rfl) T.b_range) (blkOk_by (N := N__law_lifted) (own := [("b", 4)]) (by with_unfolding_all rfl)) rfl (fun s2 H2 C2 cl2 fp2 => (vgc_name 4 (by decide) sc__law_lifted.nd rfl (by first | exact Or.inl rfl | exact Or.inr rfl))) (fun s2 H2 C2 cl2 fp2 => vts_nil) (fun s2 H2 C2 cl2 fp2 => (vx_if (vt_cmp (opv_ne hr.units) (vx_var 3) (vx_var 4)) (vx_op opv_sub (vx_op opv_pow vx_int vx_int) (vx_ixv (room1 hr) (vx_ixv (room1 hr) (vx_var 1) (vx_var 3)) (vx_var 4))) vx_int)))))))))
/-! _law_cost_rows -/
noncomputable def b__law_cost_rows_1 : Sx := (sSeq (sSet 7 (eC (.int 0))) (sSeq (sIf (eAndT (eB (eOp gNe (eVar 4) (eVar 6))) (eB (eOp gEq (eVar 2) (eC (.int 1))))) (sTidy [] (sFz 7 (sSet 7 (eCall m__law_draw 2 (aCons (eVar 0) (aCons (eC (.int 2)) aNil)))))) (sIf (eAndT (eB (eOp gNe (eVar 4) (eVar 6))) (eB (eOp gEq (eVar 2) (eC (.int 2))))) (sTidy [] (sFz 7 (sSet 7 (eCall m__law_draw 2 (aCons (eVar 0) (aCons (eC (.int 10)) aNil)))))) (sIf (eAndT (eB (eOp gNe (eVar 4) (eVar 6))) (eB (eOp gEq (eVar 2) (eC (.int 3))))) (sTidy [] (sFz 7 (sSet 7 (eCall m__law_draw 2 (aCons (eVar 0) (aCons (eC (.int 1000000001)) aNil)))))) (sIf (eAndT (eB (eOp gNe (eVar 4) (eVar 6))) (eB (eOp gEq (eVar 2) (eC (.int 4))))) (sTidy [] (sFz 7 (sSet 7 (eOp gIxV (eLst (aCons (eC (.int 0)) (aCons (eC (.int 0)) (aCons (eC (.int 1)) (aCons (eC (.int 5)) aNil))))) (eCall m__law_draw 2 (aCons (eVar 0) (aCons (eC (.int 4)) aNil))))))) sNil)))) (sTidy [] (sDrop (eMt isLs mAppend (eVar 5) (aCons (eVar 7) aNil))))))
noncomputable def b__law_cost_rows_2 : Sx := (sSeq (sTidy [] (sSet 5 (eLst aNil))) (sSeq (sFor [6, 7] (itRng (aCons (eVar 1) aNil)) (gN 6) b__law_cost_rows_1) (sTidy [] (sDrop (eMt isLsN mAppN (eVar 3) (aCons (eVar 5) aNil))))))
noncomputable def b__law_cost_rows : Sx := (sSeq (sTidy [] (sFz 2 (sSet 2 (eCall m__law_draw 2 (aCons (eVar 0) (aCons (eC (.int 5)) aNil)))))) (sSeq (sTidy [] (sSet 3 (eLst aNil))) (sSeq (sFor [4, 5, 6, 7] (itRng (aCons (eVar 1) aNil)) (gN 4) b__law_cost_rows_2) (sRet (eVar 3)))))
noncomputable def m__law_cost_rows : FM := mkF 8 b__law_cost_rows
theorem ok__law_cost_rows {f : Addr} {fd : FuncData} (F : Fun K "_law_cost_rows" "_law_cost_rows" s__law_cost_rows f fd) (T : Txt K mg) (c__law_draw : Cal P w K mg base 2 "_law_draw" ["bag", "many"] m__law_draw) : FnOk P w K mg base (L2.CX P w) 4 f fd ["bag", "size"] (spV K w m__law_cost_rows 2) :=
  fn_v F sc__law_cost_rows fun cdv A outer s H E hr =>
      (vss_cons (vs_tidy [] (vs_fz 2 (vs_set 2 sc__law_cost_rows.nd rfl (by first | exact Or.inl rfl | exact Or.inr rfl) (vx_fn c__law_draw hr (by decide) (by rfl) (takes_of rfl rfl rfl rfl) (va_cons (vx_var 0) (va_cons vx_int va_nil))))))
      (vss_cons (vs_tidy [] (vs_set 3 sc__law_cost_rows.nd rfl (by first | exact Or.inl rfl | exact Or.inr rfl) (vx_lst va_nil)))
      (vss_cons (vs_for [4, 5, 6, 7] (passes_of rfl) rfl (vi_range1 (va_cons (vx_var 1) va_nil) (by rfl) T.b_range) (vg_name 4 sc__law_cost_rows.nd rfl (by first | exact Or.inl rfl | exact Or.inr rfl)) (vss_cons (vs_tidy [] (vs_set 5 sc__law_cost_rows.nd rfl (by first | exact Or.inl rfl | exact Or.inr rfl) (vx_lst va_nil)))
      (vss_cons (vs_for [6, 7] (passes_of rfl) rfl (vi_range1 (va_cons (vx_var 1) va_nil) (by rfl) T.b_range) (vg_name 6 sc__law_cost_rows.nd rfl (by first | exact Or.inl rfl | exact Or.inr rfl)) (vss_cons (vs_set 7 sc__law_cost_rows.nd rfl (by first | exact Or.inl rfl | exact Or.inr rfl) vx_int)
      (vss_cons (vs_if (VW.vt (vw_and (vt_cmp (opv_ne hr.units) (vx_var 4) (vx_var 6)) (vw_and1 (vt_cmp (opv_eq hr.units) (vx_var 2) vx_int)))) (vss_one (vs_tidy [] (vs_fz 7 (vs_set 7 sc__law_cost_rows.nd rfl (by first | exact Or.inl rfl | exact Or.inr rfl) (vx_fn c__law_draw hr (by decide) (by rfl) (takes_of rfl rfl rfl rfl) (va_cons (vx_var 0) (va_cons vx_int va_nil))))))) (vss_one (vs_if (VW.vt (vw_and (vt_cmp (opv_ne hr.units) (vx_var 4) (vx_var 6)) (vw_and1 (vt_cmp (opv_eq hr.units) (vx_var 2) vx_int)))) (vss_one (vs_tidy [] (vs_fz 7 (vs_set 7 sc__law_cost_rows.nd rfl (by first | exact Or.inl rfl | exact Or.inr rfl) (vx_fn c__law_draw hr (by decide) (by rfl) (takes_of rfl rfl rfl rfl) (va_cons (vx_var 0) (va_cons vx_int va_nil))))))) (vss_one (vs_if (VW.vt (vw_and (vt_cmp (opv_ne hr.units) (vx_var 4) (vx_var 6)) (vw_and1 (vt_cmp (opv_eq hr.units) (vx_var 2) vx_int)))) (vss_one (vs_tidy [] (vs_fz 7 (vs_set 7 sc__law_cost_rows.nd rfl (by first | exact Or.inl rfl | exact Or.inr rfl) (vx_fn c__law_draw hr (by decide) (by rfl) (takes_of rfl rfl rfl rfl) (va_cons (vx_var 0) (va_cons vx_int va_nil))))))) (vss_one (vs_if (VW.vt (vw_and (vt_cmp (opv_ne hr.units) (vx_var 4) (vx_var 6)) (vw_and1 (vt_cmp (opv_eq hr.units) (vx_var 2) vx_int)))) (vss_one (vs_tidy [] (vs_fz 7 (vs_set 7 sc__law_cost_rows.nd rfl (by first | exact Or.inl rfl | exact Or.inr rfl) (vx_ixv (room1 hr) (vx_lst (va_cons vx_int (va_cons vx_int (va_cons vx_int (va_cons vx_int va_nil))))) (vx_fn c__law_draw hr (by decide) (by rfl) (takes_of rfl rfl rfl rfl) (va_cons (vx_var 0) (va_cons vx_int va_nil)))))))) vss_nil)))))))
      (vss_one (vs_tidy [] (vs_expr (vx_mt PySem.F.plainAttrs_list PySem.F.slot_list_append PySem.F.type_list_append mtv_append (vx_var 5) (va_cons (vx_var 7) va_nil))))))))
      (vss_one (vs_tidy [] (vs_expr (vx_mt PySem.F.plainAttrs_list PySem.F.slot_list_append PySem.F.type_list_append mtv_appN (vx_var 3) (va_cons (vx_var 5) va_nil))))))))
      (vss_one (vs_ret (vx_var 3))))))
/-! Costs___init__ -/
noncomputable def b_Costs___init___1 : Ex W := (eOp gMul (eLst (aCons (eC (.int 0)) aNil)) (eVar 1))
noncomputable def b_Costs___init___2 : Ex W := (eIf (eB (eOp gEq (eVar 4) (eVar 5))) (eC (.int 0)) (eOp gIxV (eOp gIxV (eVar 2) (eVar 4)) (eVar 5)))
noncomputable def b_Costs___init___3 : Ex W := (eComp [5] (itRng (aCons (eVar 1) aNil)) (gN 5) eYes b_Costs___init___2)
noncomputable def b_Costs___init__ : Sx := (sSeq (sIf (eB (eIsN (eVar 2))) (sTidy [] (sFz 2 (sSet 2 (eComp [3] (itRng (aCons (eVar 1) aNil)) (gN 3) eYes b_Costs___init___1)))) sNil) (sSeq (sFldS C_Costs "size" (eVar 0) (eVar 1)) (sTidy [] (sFldS C_Costs "_rows" (eVar 0) (eCompN [4] (itRng (aCons (eVar 1) aNil)) (gN 4) eYes b_Costs___init___3)))))
noncomputable def m_Costs___init__ : FM := mkF 6 b_Costs___init__
theorem ok_Costs___init__ {f : Addr} {fd : FuncData} (F : FunD K "__init__" "Costs.__init__" (defArgs s_Costs___init__) (defBody s_Costs___init__) (defScope s_Costs___init__) [.non] [] f fd) (T : Txt K mg)  : FnOk P w K mg base (L2.CX P w) 2 f fd ["self", "size", "rows"] (spV K w m_Costs___init__ 3) :=
  fnD_v (fd0 := fd) F sc_Costs___init__ fun cdv A outer s H E hr =>
      (vss_cons (vs_if (vt_isN (vx_var 2)) (vss_one (vs_tidy [] (vs_fz 2 (vs_set 2 sc_Costs___init__.nd rfl (by first | exact Or.inl rfl | exact Or.inr rfl) (vx_comp [3] rfl sc_Costs___init__.nd (vi_range1 (va_cons (vx_var 1) va_nil) (by rfl) T.b_range) (blkOk_by (N := N_Costs___init__) (sc := defScope s_Costs___init__) (own := [("_", 3)]) (by decide +kernel)) rfl (fun s2 H2 C2 cl2 fp2 => (vgc_name 3 (by decide) sc_Costs___init__.nd rfl (by first | exact Or.inl rfl | exact Or.inr rfl))) (fun s2 H2 C2 cl2 fp2 => vts_nil) (fun s2 H2 C2 cl2 fp2 => (vx_op opv_mul (vx_lst (va_cons vx_int va_nil)) (vx_var 1)))))))) vss_nil)
      (vss_cons (vs_fld T.k_Costs.cl T.n_Costs_size (vx_var 0) (vx_var 1))
      (vss_one (vs_tidy [] (vs_fld T.k_Costs.cl T.n_Costs__rows (vx_var 0) (vx_compN [4] rfl sc_Costs___init__.nd (vi_range1 (va_cons (vx_var 1) va_nil) (by rfl) T.b_range) (blkOk_by (N := N_Costs___init__) (sc := defScope s_Costs___init__) (own := [("a", 4)]) (by decide +kernel)) rfl (fun s2 H2 C2 cl2 fp2 => (vgc_name 4 (by decide) sc_Costs___init__.nd rfl (by first | exact Or.inl rfl | exact Or.inr rfl))) (fun s2 H2 C2 cl2 fp2 => vts_nil) (fun s2 H2 C2 cl2 fp2 => (vx_comp [5] rfl sc_Costs___init__.nd (vi_range1 (va_cons (vx_var 1) va_nil) (by rfl) T.b_range) (blkOk_by (N := N_Costs___init__) (own := [("b", 5)]) (by with_unfolding_all rfl)) rfl (fun s2 H2 C2 cl2 fp2 => (vgc_name 5 (by decide) sc_Costs___init__.nd rfl (by first | exact Or.inl rfl | exact Or.inr rfl))) (fun s2 H2 C2 cl2 fp2 => vts_nil) (fun s2 H2 C2 cl2 fp2 => (vx_if (vt_cmp (opv_eq hr.units) (vx_var 4) (vx_var 5)) vx_int (vx_ixv (room1 hr) (vx_ixv (room1 hr) (vx_var 2) (vx_var 4)) (vx_var 5))))))))))))
/-! Costs_of -/
noncomputable def b_Costs_of : Sx := (sRet (eMake C_Costs m_Costs___init__ [true, false, false] [] (aCons (eFn bLen (aCons (eVar 0) aNil)) (aCons (eVar 0) aNil))))
noncomputable def m_Costs_of : FM := mkF 1 b_Costs_of
theorem ok_Costs_of {f : Addr} {fd : FuncData} (F : Fun K "of" "Costs.of" s_Costs_of f fd) (T : Txt K mg) (c_Costs___init__ : CalI P w K mg base 2 C_Costs [.non] ["self", "size", "rows"] m_Costs___init__) : FnOk P w K mg base (L2.CX P w) 4 f fd ["rows"] (spV K w m_Costs_of 1) :=
  fn_v F sc_Costs_of fun cdv A outer s H E hr =>
      (vss_one (vs_ret (vx_mkC [true, false, false] [] 1 T.k_Costs c_Costs___init__ hr (by decide) (by rfl) (by decide) (fun _ => .nil) (va_cons (vx_callB cv_len (by rfl) T.b_len VE.boot_len (va_cons (vx_var 0) va_nil)) (va_cons (vx_var 0) va_nil)))))
/-! Costs_rows -/
noncomputable def b_Costs_rows_1 : Ex W := (eFn bTuple (aCons (eVar 1) aNil))
noncomputable def b_Costs_rows : Sx := (sRet (eFn bTuple (aCons (eComp [1] (itSeq (eFld C_Costs "_rows" (eVar 0))) (gN 1) eYes b_Costs_rows_1) aNil)))
noncomputable def m_Costs_rows : FM := mkF 2 b_Costs_rows
theorem ok_Costs_rows {f : Addr} {fd : FuncData} (F : Fun K "rows" "Costs.rows" s_Costs_rows f fd) (T : Txt K mg)  : FnOk P w K mg base (L2.CX P w) 2 f fd ["self"] (spV K w m_Costs_rows 1) :=
  fn_v F sc_Costs_rows fun cdv A outer s H E hr =>
      (vss_one (vs_ret (vx_callTy cv_tuple (by rfl) T.b_tuple VE.boot_tuple (va_cons (vx_comp [1] rfl sc_Costs_rows.nd (vi_seq (vx_fld T.k_Costs.cl T.n_Costs__rows (vx_var 0))) (blkOk_by (N := N_Costs_rows) (sc := defScope s_Costs_rows) (own := [("row", 1)]) (by decide +kernel)) rfl (fun s2 H2 C2 cl2 fp2 => (vgc_name 1 (by decide) sc_Costs_rows.nd rfl (by first | exact Or.inl rfl | exact Or.inr rfl))) (fun s2 H2 C2 cl2 fp2 => vts_nil) (fun s2 H2 C2 cl2 fp2 => (vx_callTy cv_tuple (by rfl) T.b_tuple VE.boot_tuple (va_cons (vx_var 1) va_nil)))) va_nil))))
/-! _subsets -/
noncomputable def b__subsets_1 : Ex W := (eTup (aStar (eVar 3) (aCons (eVar 2) aNil)))
noncomputable def b__subsets_2 : Sx := (sTidy [] (sFz 1 (sSet 1 (eOp gAdd (eVar 1) (eComp [3] (itSeq (eVar 1)) (gN 3) eYes b__subsets_1)))))
noncomputable def b__subsets : Sx := (sSeq (sTidy [] (sFz 1 (sSet 1 (eLst (aCons (eTup aNil) aNil))))) (sSeq (sFor [2] (itRng (aCons (eVar 0) aNil)) (gN 2) b__subsets_2) (sRet (eVar 1))))
noncomputable def m__subsets : FM := mkF 4 b__subsets
theorem ok__subsets {f : Addr} {fd : FuncData} (F : Fun K "_subsets" "_subsets" s__subsets f fd) (T : Txt K mg)  : FnOk P w K mg base (L2.CX P w) 2 f fd ["size"] (spV K w m__subsets 1) :=
  fn_v F sc__subsets fun cdv A outer s H E hr =>
      (vss_cons (vs_tidy [] (vs_fz 1 (vs_set 1 sc__subsets.nd rfl (by first | exact Or.inl rfl | exact Or.inr rfl) (vx_lst (va_cons (vx_tup va_nil) va_nil)))))
      (vss_cons (vs_for [2] (passes_of rfl) rfl (vi_range1 (va_cons (vx_var 0) va_nil) (by rfl) T.b_range) (vg_name 2 sc__subsets.nd rfl (by first | exact Or.inl rfl | exact Or.inr rfl)) (vss_one (vs_tidy [] (vs_fz 1 (vs_set 1 sc__subsets.nd rfl (by first | exact Or.inl rfl | exact Or.inr rfl) (vx_op opv_add (vx_var 1) (vx_comp [3] rfl sc__subsets.nd (vi_seq (vx_var 1)) (blkOk_by (N := N__subsets) (sc := defScope s__subsets) (own := [("subset", 3)]) (by decide +kernel)) rfl (fun s2 H2 C2 cl2 fp2 => (vgc_name 3 (by decide) sc__subsets.nd rfl (by first | exact Or.inl rfl | exact Or.inr rfl))) (fun s2 H2 C2 cl2 fp2 => vts_nil) (fun s2 H2 C2 cl2 fp2 => (vx_tup (va_star (vx_var 3) (va_cons (vx_var 2) va_nil)))))))))))
      (vss_one (vs_ret (vx_var 1)))))
/-! _without -/
noncomputable def b__without : Sx := (sRet (eOp gAdd (eSl (eVar 0) oNone (oSome (eVar 1))) (eSl (eVar 0) (oSome (eOp gAdd (eVar 1) (eC (.int 1)))) oNone)))
noncomputable def m__without : FM := mkF 2 b__without
theorem ok__without {f : Addr} {fd : FuncData} (F : Fun K "_without" "_without" s__without f fd) (T : Txt K mg)  : FnOk P w K mg base (L2.CX P w) 2 f fd ["subset", "place"] (spV K w m__without 2) :=
  fn_v F sc__without fun cdv A outer s H E hr =>
      (vss_one (vs_ret (vx_op opv_add (vx_slice (vx_var 0) vo_none (vo_some (vx_var 1))) (vx_slice (vx_var 0) (vo_some (vx_op opv_add (vx_var 1) vx_int)) vo_none))))
/-! _price_of -/
noncomputable def b__price_of_1 : Ex W := (eOp gIxV (eOp gIxV (eVar 0) (eVar 7)) (eVar 5))
noncomputable def b__price_of_2 : Sx := (sSeq (sTidy [] (sFz 6 (sSet 6 (eCall m__without 2 (aCons (eVal (eVar 2)) (aCons (eVal (eVar 4)) aNil)))))) (sTidy [] (sDrop (eMt isLs mAppend (eVar 3) (aCons (eOp gAdd (eOp gIxV (eVar 1) (eVar 6)) (eFn bSum (aCons (eComp [7] (itSeq (eVar 6)) (gN 7) eYes b__price_of_1) aNil))) aNil)))))
noncomputable def b__price_of : Sx := (sSeq (sTidy [] (sSet 3 (eLst aNil))) (sSeq (sFor [4, 5, 6] (itEnumA (aCons (eVar 2) aNil)) (gT 2 (gCons' (gN 4) (gCons' (gN 5) gNil'))) b__price_of_2) (sRet (eMinD (aCons (eVar 3) aNil) (eC (.int 0))))))
noncomputable def m__price_of : FM := mkF 8 b__price_of
theorem ok__price_of {f : Addr} {fd : FuncData} (F : Fun K "_price_of" "_price_of" s__price_of f fd) (T : Txt K mg) (c__without : Cal P w K mg base 2 "_without" ["subset", "place"] m__without) : FnOk P w K mg base (L2.CX P w) 4 f fd ["rows", "table", "subset"] (spV K w m__price_of 3) :=
  fn_v F sc__price_of fun cdv A outer s H E hr =>
      (vss_cons (vs_tidy [] (vs_set 3 sc__price_of.nd rfl (by first | exact Or.inl rfl | exact Or.inr rfl) (vx_lst va_nil)))
      (vss_cons (vs_for [4, 5, 6] (passes_of rfl) rfl (vi_enumA (va_cons (vx_var 2) va_nil) (by rfl) T.b_enumerate) (vg_tup rfl (vgs_cons (vg_name 4 sc__price_of.nd rfl (by first | exact Or.inl rfl | exact Or.inr rfl)) (vgs_cons (vg_name 5 sc__price_of.nd rfl (by first | exact Or.inl rfl | exact Or.inr rfl)) vgs_nil))) (vss_cons (vs_tidy [] (vs_fz 6 (vs_set 6 sc__price_of.nd rfl (by first | exact Or.inl rfl | exact Or.inr rfl) (vx_fn c__without hr (by decide) (by rfl) (takes_of rfl rfl rfl rfl) (va_cons (vx_val (vx_var 2)) (va_cons (vx_val (vx_var 4)) va_nil))))))
      (vss_one (vs_tidy [] (vs_expr (vx_mt PySem.F.plainAttrs_list PySem.F.slot_list_append PySem.F.type_list_append mtv_append (vx_var 3) (va_cons (vx_op opv_add (vx_ixv (room1 hr) (vx_var 1) (vx_var 6)) (vx_callB (cv_sum rfl) (by rfl) T.b_sum VE.boot_sum (va_cons (vx_comp [7] rfl sc__price_of.nd (vi_seq (vx_var 6)) (blkOk_by (N := N__price_of) (sc := defScope s__price_of) (own := [("other", 7)]) (by decide +kernel)) rfl (fun s2 H2 C2 cl2 fp2 => (vgc_name 7 (by decide) sc__price_of.nd rfl (by first | exact Or.inl rfl | exact Or.inr rfl))) (fun s2 H2 C2 cl2 fp2 => vts_nil) (fun s2 H2 C2 cl2 fp2 => (vx_ixv (room1 hr) (vx_ixv (room1 hr) (vx_var 0) (vx_var 7)) (vx_var 5)))) va_nil))) va_nil)))))))
      (vss_one (vs_ret (vx_minD rfl hr.units (by rfl) T.b_min (va_cons (vx_var 3) va_nil) vx_int)))))
/-! subset_table -/
noncomputable def b_subset_table_1 : Sx := (sTidy [] (sAsg (eLend m__price_of [false, false, false] (aCons (eVar 1) (aCons (eVar 2) (aCons (eVar 3) aNil)))) (gSb (eVar 2) (eVar 3))))
noncomputable def b_subset_table : Sx := (sSeq (sTidy [] (sFz 1 (sSet 1 (eMeth0 C_Costs "rows" m_Costs_rows [false] [] (eVar 0))))) (sSeq (sTidy [] (sSet 2 eDT0)) (sSeq (sFor [3] (itSeq (eCall m__subsets 1 (aCons (eVal (eFld C_Costs "size" (eVar 0))) aNil))) (gN 3) b_subset_table_1) (sRet (eVar 2)))))
noncomputable def m_subset_table : FM := mkF 4 b_subset_table
theorem ok_subset_table {f : Addr} {fd : FuncData} (F : Fun K "subset_table" "subset_table" s_subset_table f fd) (T : Txt K mg) (c_Costs_rows : CalM P w K mg base 2 C_Costs "rows" ["self"] m_Costs_rows) (c__subsets : Cal P w K mg base 2 "_subsets" ["size"] m__subsets) (c__price_of : Cal P w K mg base 4 "_price_of" ["rows", "table", "subset"] m__price_of) : FnOk P w K mg base (L2.CX P w) 6 f fd ["costs"] (spV K w m_subset_table 1) :=
  fn_v F sc_subset_table fun cdv A outer s H E hr =>
      (vss_cons (vs_tidy [] (vs_fz 1 (vs_set 1 sc_subset_table.nd rfl (by first | exact Or.inl rfl | exact Or.inr rfl) (vx_m0C [false] T.k_Costs c_Costs_rows hr (by decide) (vx_var 0)))))
      (vss_cons (vs_tidy [] (vs_set 2 sc_subset_table.nd rfl (by first | exact Or.inl rfl | exact Or.inr rfl) vx_dt0))
      (vss_cons (vs_for [3] (passes_of rfl) rfl (vi_seq (vx_fn c__subsets hr (by decide) (by rfl) (takes_of rfl rfl rfl rfl) (va_cons (vx_val (vx_fld T.k_Costs.cl T.n_Costs_size (vx_var 0))) va_nil))) (vg_name 3 sc_subset_table.nd rfl (by first | exact Or.inl rfl | exact Or.inr rfl)) (vss_one (vs_tidy [] (vs_asg (vx_lendC [false, false, false] c__price_of hr (by decide) (by rfl) (va_cons (vx_var 1) (va_cons (vx_var 2) (va_cons (vx_var 3) va_nil)))) (vg_sub (room1 hr) (vx_var 2) (vx_var 3))))))
      (vss_one (vs_ret (vx_var 2))))))
/-! _best_first -/
noncomputable def b__best_first_1 : Ex W := (eOp gIxV (eOp gIxV (eVar 0) (eVar 5)) (eVar 7))
noncomputable def b__best_first_2 : Sx := (sSeq (sTidy [] (sFz 6 (sSet 6 (eCall m__without 2 (aCons (eVal (eVar 2)) (aCons (eVal (eVar 4)) aNil)))))) (sTidy [] (sDrop (eMt isLs mAppend (eVar 3) (aCons (eTup (aCons (eOp gAdd (eOp gIxV (eVar 1) (eVar 6)) (eFn bSum (aCons (eComp [7] (itSeq (eVar 6)) (gN 7) eYes b__best_first_1) aNil))) (aCons (eVar 4) aNil))) aNil)))))
noncomputable def b__best_first : Sx := (sSeq (sTidy [] (sSet 3 (eLst aNil))) (sSeq (sFor [4, 5, 6] (itEnumA (aCons (eVar 2) aNil)) (gT 2 (gCons' (gN 4) (gCons' (gN 5) gNil'))) b__best_first_2) (sRet (eOp gIxV (eFn bMinP (aCons (eVar 3) aNil)) (eC (.int 1))))))
noncomputable def m__best_first : FM := mkF 8 b__best_first
theorem ok__best_first {f : Addr} {fd : FuncData} (F : Fun K "_best_first" "_best_first" s__best_first f fd) (T : Txt K mg) (c__without : Cal P w K mg base 2 "_without" ["subset", "place"] m__without) : FnOk P w K mg base (L2.CX P w) 4 f fd ["rows", "table", "subset"] (spV K w m__best_first 3) :=
  fn_v F sc__best_first fun cdv A outer s H E hr =>
      (vss_cons (vs_tidy [] (vs_set 3 sc__best_first.nd rfl (by first | exact Or.inl rfl | exact Or.inr rfl) (vx_lst va_nil)))
      (vss_cons (vs_for [4, 5, 6] (passes_of rfl) rfl (vi_enumA (va_cons (vx_var 2) va_nil) (by rfl) T.b_enumerate) (vg_tup rfl (vgs_cons (vg_name 4 sc__best_first.nd rfl (by first | exact Or.inl rfl | exact Or.inr rfl)) (vgs_cons (vg_name 5 sc__best_first.nd rfl (by first | exact Or.inl rfl | exact Or.inr rfl)) vgs_nil))) (vss_cons (vs_tidy [] (vs_fz 6 (vs_set 6 sc__best_first.nd rfl (by first | exact Or.inl rfl | exact Or.inr rfl) (vx_fn c__without hr (by decide) (by rfl) (takes_of rfl rfl rfl rfl) (va_cons (vx_val (vx_var 2)) (va_cons (vx_val (vx_var 4)) va_nil))))))
      (vss_one (vs_tidy [] (vs_expr (vx_mt PySem.F.plainAttrs_list PySem.F.slot_list_append PySem.F.type_list_append mtv_append (vx_var 3) (va_cons (vx_tup (va_cons (vx_op opv_add (vx_ixv (room1 hr) (vx_var 1) (vx_var 6)) (vx_callB (cv_sum rfl) (by rfl) T.b_sum VE.boot_sum (va_cons (vx_comp [7] rfl sc__best_first.nd (vi_seq (vx_var 6)) (blkOk_by (N := N__best_first) (sc := defScope s__best_first) (own := [("other", 7)]) (by decide +kernel)) rfl (fun s2 H2 C2 cl2 fp2 => (vgc_name 7 (by decide) sc__best_first.nd rfl (by first | exact Or.inl rfl | exact Or.inr rfl))) (fun s2 H2 C2 cl2 fp2 => vts_nil) (fun s2 H2 C2 cl2 fp2 => (vx_ixv (room1 hr) (vx_ixv (room1 hr) (vx_var 0) (vx_var 5)) (vx_var 7)))) va_nil))) (va_cons (vx_var 4) va_nil))) va_nil)))))))
      (vss_one (vs_ret (vx_ixv (room1 hr) (vx_callB (cv_minP rfl hr.units) (by rfl) T.b_min VE.boot_min (va_cons (vx_var 3) va_nil)) vx_int)))))
/-! least_order -/
noncomputable def b_least_order_1 : Ex Bool := (eB (eOp gGt (eFn bLen (aCons (eVar 3) aNil)) (eC (.int 0))))
noncomputable def b_least_order_2 : Sx := (sSeq (sTidy [] (sFz 6 (sSet 6 (eCall m__best_first 3 (aCons (eVal (eVar 1)) (aCons (eVal (eVar 2)) (aCons (eVal (eVar 3)) aNil))))))) (sSeq (sTidy [] (sDrop (eMt isLs mAppend (eVar 5) (aCons (eOp gIxV (eVar 3) (eVar 6)) aNil)))) (sTidy [] (sFz 3 (sSet 3 (eCall m__without 2 (aCons (eVal (eVar 3)) (aCons (eVal (eVar 6)) aNil))))))))
noncomputable def b_least_order : Sx := (sSeq (sTidy [] (sFz 1 (sSet 1 (eMeth0 C_Costs "rows" m_Costs_rows [false] [] (eVar 0))))) (sSeq (sTidy [] (sFz 2 (sSet 2 (eLend m_subset_table [false] (aCons (eVar 0) aNil))))) (sSeq (sTidy [] (sFz 3 (sSet 3 (eTRg (eFld C_Costs "size" (eVar 0)))))) (sSeq (sSet 4 (eOp gIxV (eVar 2) (eVar 3))) (sSeq (sTidy [] (sSet 5 (eLst aNil))) (sSeq (sWhile [6] b_least_order_1 b_least_order_2) (sRet (eTup (aCons (eVar 4) (aCons (eFn bTuple (aCons (eVar 5) aNil)) aNil))))))))))
noncomputable def m_least_order : FM := mkF 7 b_least_order
theorem ok_least_order {f : Addr} {fd : FuncData} (F : Fun K "least_order" "least_order" s_least_order f fd) (T : Txt K mg) (c_Costs_rows : CalM P w K mg base 2 C_Costs "rows" ["self"] m_Costs_rows) (c_subset_table : Cal P w K mg base 6 "subset_table" ["costs"] m_subset_table) (c__best_first : Cal P w K mg base 4 "_best_first" ["rows", "table", "subset"] m__best_first) (c__without : Cal P w K mg base 2 "_without" ["subset", "place"] m__without) : FnOk P w K mg base (L2.CX P w) 8 f fd ["costs"] (spV K w m_least_order 1) :=
  fn_v F sc_least_order fun cdv A outer s H E hr =>
      (vss_cons (vs_tidy [] (vs_fz 1 (vs_set 1 sc_least_order.nd rfl (by first | exact Or.inl rfl | exact Or.inr rfl) (vx_m0C [false] T.k_Costs c_Costs_rows hr (by decide) (vx_var 0)))))
      (vss_cons (vs_tidy [] (vs_fz 2 (vs_set 2 sc_least_order.nd rfl (by first | exact Or.inl rfl | exact Or.inr rfl) (vx_lendC [false] c_subset_table hr (by decide) (by rfl) (va_cons (vx_var 0) va_nil)))))
      (vss_cons (vs_tidy [] (vs_fz 3 (vs_set 3 sc_least_order.nd rfl (by first | exact Or.inl rfl | exact Or.inr rfl) (vx_trg rfl T.b_tuple T.b_range (vx_fld T.k_Costs.cl T.n_Costs_size (vx_var 0))))))
      (vss_cons (vs_set 4 sc_least_order.nd rfl (by first | exact Or.inl rfl | exact Or.inr rfl) (vx_ixv (room1 hr) (vx_var 2) (vx_var 3)))
      (vss_cons (vs_tidy [] (vs_set 5 sc_least_order.nd rfl (by first | exact Or.inl rfl | exact Or.inr rfl) (vx_lst va_nil)))
      (vss_cons (vs_while [6] (passes_of rfl) (vt_cmp opv_gt (vx_callB cv_len (by rfl) T.b_len VE.boot_len (va_cons (vx_var 3) va_nil)) vx_int) (vss_cons (vs_tidy [] (vs_fz 6 (vs_set 6 sc_least_order.nd rfl (by first | exact Or.inl rfl | exact Or.inr rfl) (vx_fn c__best_first hr (by decide) (by rfl) (takes_of rfl rfl rfl rfl) (va_cons (vx_val (vx_var 1)) (va_cons (vx_val (vx_var 2)) (va_cons (vx_val (vx_var 3)) va_nil)))))))
      (vss_cons (vs_tidy [] (vs_expr (vx_mt PySem.F.plainAttrs_list PySem.F.slot_list_append PySem.F.type_list_append mtv_append (vx_var 5) (va_cons (vx_ixv (room1 hr) (vx_var 3) (vx_var 6)) va_nil))))
      (vss_one (vs_tidy [] (vs_fz 3 (vs_set 3 sc_least_order.nd rfl (by first | exact Or.inl rfl | exact Or.inr rfl) (vx_fn c__without hr (by decide) (by rfl) (takes_of rfl rfl rfl rfl) (va_cons (vx_val (vx_var 3)) (va_cons (vx_val (vx_var 6)) va_nil))))))))))
      (vss_one (vs_ret (vx_tup (va_cons (vx_var 4) (va_cons (vx_callTy cv_tuple (by rfl) T.b_tuple VE.boot_tuple (va_cons (vx_var 5) va_nil)) va_nil)))))))))))
/-! Costs__has -/
noncomputable def b_Costs__has : Sx := (sRet (eAnd (eChain gLe gLt (eC (.int 0)) (eVar 1) (eFld C_Costs "size" (eVar 0))) (eAnd (eChain gLe gLt (eC (.int 0)) (eVar 2) (eFld C_Costs "size" (eVar 0))) (eOp gNe (eVar 1) (eVar 2)))))
noncomputable def m_Costs__has : FM := mkF 3 b_Costs__has
theorem ok_Costs__has {f : Addr} {fd : FuncData} (F : Fun K "_has" "Costs._has" s_Costs__has f fd) (T : Txt K mg)  : FnOk P w K mg base (L2.CX P w) 2 f fd ["self", "a", "b"] (spV K w m_Costs__has 3) :=
  fn_v F sc_Costs__has fun cdv A outer s H E hr =>
      (vss_one (vs_ret (vx_and (vx_chain opv_le opv_lt vx_int (vx_var 1) (vx_fld T.k_Costs.cl T.n_Costs_size (vx_var 0))) (vx_and (vx_chain opv_le opv_lt vx_int (vx_var 2) (vx_fld T.k_Costs.cl T.n_Costs_size (vx_var 0))) (vx_one (vx_cmp (opv_ne hr.units) (vx_var 1) (vx_var 2)))))))
/-! Costs___getitem__ -/
noncomputable def b_Costs___getitem__ : Sx := (sSeq (sAsg (eVar 1) (gT 2 (gCons' (gN 2) (gCons' (gN 3) gNil')))) (sSeq (sIf (eNotT (eB (eMeth C_Costs "_has" m_Costs__has [false, false, false] [] (eVar 0) (aCons (eVar 2) (aCons (eVar 3) aNil))))) sNo sNil) (sRet (eOp gIxV (eOp gIxV (eFld C_Costs "_rows" (eVar 0)) (eVar 2)) (eVar 3)))))
noncomputable def m_Costs___getitem__ : FM := mkF 4 b_Costs___getitem__
theorem ok_Costs___getitem__ {f : Addr} {fd : FuncData} (F : Fun K "__getitem__" "Costs.__getitem__" s_Costs___getitem__ f fd) (T : Txt K mg) (c_Costs__has : CalM P w K mg base 2 C_Costs "_has" ["self", "a", "b"] m_Costs__has) : FnOk P w K mg base (L2.CX P w) 4 f fd ["self", "at"] (spV K w m_Costs___getitem__ 2) :=
  fn_v F sc_Costs___getitem__ fun cdv A outer s H E hr =>
      (vss_cons (vs_asg (vx_var 1) (vg_tup rfl (vgs_cons (vg_name 2 sc_Costs___getitem__.nd rfl (by first | exact Or.inl rfl | exact Or.inr rfl)) (vgs_cons (vg_name 3 sc_Costs___getitem__.nd rfl (by first | exact Or.inl rfl | exact Or.inr rfl)) vgs_nil))))
      (vss_cons (vs_if (vt_not (vt_val (vx_mC [false, false, false] T.k_Costs c_Costs__has hr (by decide) (vx_var 0) (va_cons (vx_var 2) (va_cons (vx_var 3) va_nil))))) (vss_one vs_stuck) vss_nil)
      (vss_one (vs_ret (vx_ixv (room1 hr) (vx_ixv (room1 hr) (vx_fld T.k_Costs.cl T.n_Costs__rows (vx_var 0)) (vx_var 2)) (vx_var 3))))))
/-! pair_bound -/
noncomputable def b_pair_bound_1 : Sx := (ipA gAddI 1 (eFn bMin (aCons (eItm C_Costs m_Costs___getitem__ [false, false] (eVar 0) (eTup (aCons (eVar 3) (aCons (eVar 2) aNil)))) (aCons (eItm C_Costs m_Costs___getitem__ [false, false] (eVar 0) (eTup (aCons (eVar 2) (aCons (eVar 3) aNil)))) aNil))))
noncomputable def b_pair_bound_2 : Sx := (sFor [3] (itRng (aCons (eVar 2) aNil)) (gN 3) b_pair_bound_1)
noncomputable def b_pair_bound : Sx := (sSeq (sSet 1 (eC (.int 0))) (sSeq (sFor [2, 3] (itRng (aCons (eFld C_Costs "size" (eVar 0)) aNil)) (gN 2) b_pair_bound_2) (sRet (eVar 1))))
noncomputable def m_pair_bound : FM := mkF 4 b_pair_bound
theorem ok_pair_bound {f : Addr} {fd : FuncData} (F : Fun K "pair_bound" "pair_bound" s_pair_bound f fd) (T : Txt K mg) (c_Costs___getitem__ : CalM P w K mg base 4 C_Costs "__getitem__" ["self", "at"] m_Costs___getitem__) : FnOk P w K mg base (L2.CX P w) 6 f fd ["costs"] (spV K w m_pair_bound 1) :=
  fn_v F sc_pair_bound fun cdv A outer s H E hr =>
      (vss_cons (vs_set 1 sc_pair_bound.nd rfl (by first | exact Or.inl rfl | exact Or.inr rfl) vx_int)
      (vss_cons (vs_for [2, 3] (passes_of rfl) rfl (vi_range1 (va_cons (vx_fld T.k_Costs.cl T.n_Costs_size (vx_var 0)) va_nil) (by rfl) T.b_range) (vg_name 2 sc_pair_bound.nd rfl (by first | exact Or.inl rfl | exact Or.inr rfl)) (vss_one (vs_for [3] (passes_of rfl) rfl (vi_range1 (va_cons (vx_var 2) va_nil) (by rfl) T.b_range) (vg_name 3 sc_pair_bound.nd rfl (by first | exact Or.inl rfl | exact Or.inr rfl)) (vss_one (vs_aug 1 sc_pair_bound.nd rfl (by first | exact Or.inl rfl | exact Or.inr rfl) (vx_callB (cv_min rfl) (by rfl) T.b_min VE.boot_min (va_cons (vx_itmC [false, false] T.k_Costs c_Costs___getitem__ hr (by decide) (vx_var 0) (vx_tup (va_cons (vx_var 3) (va_cons (vx_var 2) va_nil)))) (va_cons (vx_itmC [false, false] T.k_Costs c_Costs___getitem__ hr (by decide) (vx_var 0) (vx_tup (va_cons (vx_var 2) (va_cons (vx_var 3) va_nil)))) va_nil))) ipv_add)))))
      (vss_one (vs_ret (vx_var 1)))))
/-! _law_order_price -/
noncomputable def b__law_order_price_1 : Sx := (sSet 2 (eOp gAdd (eVar 2) (eOp gIxV (eOp gIxV (eVar 0) (eOp gIxV (eVar 1) (eVar 3))) (eOp gIxV (eVar 1) (eVar 4)))))
noncomputable def b__law_order_price_2 : Sx := (sFor [4] (itRng2 (aCons (eOp gAdd (eVar 3) (eC (.int 1))) (aCons (eFn bLen (aCons (eVar 1) aNil)) aNil))) (gN 4) b__law_order_price_1)
noncomputable def b__law_order_price : Sx := (sSeq (sSet 2 (eC (.int 0))) (sSeq (sFor [3, 4] (itRng (aCons (eFn bLen (aCons (eVar 1) aNil)) aNil)) (gN 3) b__law_order_price_2) (sRet (eVar 2))))
noncomputable def m__law_order_price : FM := mkF 5 b__law_order_price
theorem ok__law_order_price {f : Addr} {fd : FuncData} (F : Fun K "_law_order_price" "_law_order_price" s__law_order_price f fd) (T : Txt K mg)  : FnOk P w K mg base (L2.CX P w) 2 f fd ["rows", "order"] (spV K w m__law_order_price 2) :=
  fn_v F sc__law_order_price fun cdv A outer s H E hr =>
      (vss_cons (vs_set 2 sc__law_order_price.nd rfl (by first | exact Or.inl rfl | exact Or.inr rfl) vx_int)
      (vss_cons (vs_for [3, 4] (passes_of rfl) rfl (vi_range1 (va_cons (vx_callB cv_len (by rfl) T.b_len VE.boot_len (va_cons (vx_var 1) va_nil)) va_nil) (by rfl) T.b_range) (vg_name 3 sc__law_order_price.nd rfl (by first | exact Or.inl rfl | exact Or.inr rfl)) (vss_one (vs_for [4] (passes_of rfl) rfl (vi_range2 (va_cons (vx_op opv_add (vx_var 3) vx_int) (va_cons (vx_callB cv_len (by rfl) T.b_len VE.boot_len (va_cons (vx_var 1) va_nil)) va_nil)) (by rfl) T.b_range) (vg_name 4 sc__law_order_price.nd rfl (by first | exact Or.inl rfl | exact Or.inr rfl)) (vss_one (vs_set 2 sc__law_order_price.nd rfl (by first | exact Or.inl rfl | exact Or.inr rfl) (vx_op opv_add (vx_var 2) (vx_ixv (room1 hr) (vx_ixv (room1 hr) (vx_var 0) (vx_ixv (room1 hr) (vx_var 1) (vx_var 3))) (vx_ixv (room1 hr) (vx_var 1) (vx_var 4)))))))))
      (vss_one (vs_ret (vx_var 2)))))
/-! _law_whole -/
noncomputable def b__law_whole : Sx := (sRet (eAnd (eFn bIsi (aCons (eVar 0) (aCons (eC (.ty "int")) aNil))) (eNot (eFn bIsi (aCons (eVar 0) (aCons (eC (.ty "bool")) aNil))))))
noncomputable def m__law_whole : FM := mkF 1 b__law_whole
theorem ok__law_whole {f : Addr} {fd : FuncData} (F : Fun K "_law_whole" "_law_whole" s__law_whole f fd) (T : Txt K mg)  : FnOk P w K mg base (L2.CX P w) 2 f fd ["got"] (spV K w m__law_whole 1) :=
  fn_v F sc__law_whole fun cdv A outer s H E hr =>
      (vss_one (vs_ret (vx_and (vx_callB cv_isi (by rfl) T.b_isinstance VE.boot_isinstance (va_cons (vx_var 0) (va_cons (vx_ty (by rfl) T.b_int VE.boot_int) va_nil))) (vx_one (vx_not (vx_callB cv_isi (by rfl) T.b_isinstance VE.boot_isinstance (va_cons (vx_var 0) (va_cons (vx_ty (by rfl) T.b_bool VE.boot_bool) va_nil))))))))
/-! _law_wholes -/
noncomputable def b__law_wholes_1 : Sx := (sIf (eNotT (eB (eCall m__law_whole 1 (aCons (eVal (eVar 2)) aNil)))) (sRet (eC (.bl false))) sNil)
noncomputable def b__law_wholes : Sx := (sSeq (sIf (eOrT (eNotT (eB (eFn bIsi (aCons (eVar 0) (aCons (eC (.ty "tuple")) aNil))))) (eB (eOp gNe (eFn bLen (aCons (eVar 0) aNil)) (eVar 1)))) (sRet (eC (.bl false))) sNil) (sSeq (sFor [2] (itSeq (eVar 0)) (gN 2) b__law_wholes_1) (sRet (eC (.bl true)))))
noncomputable def m__law_wholes : FM := mkF 3 b__law_wholes
theorem ok__law_wholes {f : Addr} {fd : FuncData} (F : Fun K "_law_wholes" "_law_wholes" s__law_wholes f fd) (T : Txt K mg) (c__law_whole : Cal P w K mg base 2 "_law_whole" ["got"] m__law_whole) : FnOk P w K mg base (L2.CX P w) 4 f fd ["got", "many"] (spV K w m__law_wholes 2) :=
  fn_v F sc__law_wholes fun cdv A outer s H E hr =>
      (vss_cons (vs_if (VW.vt (vw_or (vt_not (vt_val (vx_callB cv_isi (by rfl) T.b_isinstance VE.boot_isinstance (va_cons (vx_var 0) (va_cons (vx_ty (by rfl) T.b_tuple VE.boot_tuple) va_nil))))) (vw_or1 (vt_cmp (opv_ne hr.units) (vx_callB cv_len (by rfl) T.b_len VE.boot_len (va_cons (vx_var 0) va_nil)) (vx_var 1))))) (vss_one (vs_ret vx_bl)) vss_nil)
      (vss_cons (vs_for [2] (passes_of rfl) rfl (vi_seq (vx_var 0)) (vg_name 2 sc__law_wholes.nd rfl (by first | exact Or.inl rfl | exact Or.inr rfl)) (vss_one (vs_if (vt_not (vt_val (vx_fn c__law_whole hr (by decide) (by rfl) (takes_of rfl rfl rfl rfl) (va_cons (vx_val (vx_var 2)) va_nil)))) (vss_one (vs_ret vx_bl)) vss_nil)))
      (vss_one (vs_ret vx_bl))))
/-! _law_is_told -/
noncomputable def b__law_is_told : Sx := (sSeq (sIf (eOrT (eNotT (eB (eFn bIsi (aCons (eVar 0) (aCons (eC (.ty "tuple")) aNil))))) (eOrT (eB (eOp gNe (eFn bLen (aCons (eVar 0) aNil)) (eC (.int 2)))) (eNotT (eB (eCall m__law_whole 1 (aCons (eOp gIxV (eVar 0) (eC (.int 0))) aNil)))))) (sRet (eC (.bl false))) sNil) (sSeq (sIf (eOrT (eNotT (eB (eCall m__law_wholes 2 (aCons (eOp gIxV (eVar 0) (eC (.int 1))) (aCons (eFn bLen (aCons (eVar 1) aNil)) aNil))))) (eB (eOp gNe (eFn bSortT (aCons (eOp gIxV (eVar 0) (eC (.int 1))) aNil)) (eLRg (eFn bLen (aCons (eVar 1) aNil)))))) (sRet (eC (.bl false))) sNil) (sRet (eOp gEq (eOp gIxV (eVar 0) (eC (.int 0))) (eCall m__law_order_price 2 (aCons (eVal (eVar 1)) (aCons (eOp gIxV (eVar 0) (eC (.int 1))) aNil)))))))
noncomputable def m__law_is_told : FM := mkF 2 b__law_is_told
theorem ok__law_is_told {f : Addr} {fd : FuncData} (F : Fun K "_law_is_told" "_law_is_told" s__law_is_told f fd) (T : Txt K mg) (c__law_whole : Cal P w K mg base 2 "_law_whole" ["got"] m__law_whole) (c__law_wholes : Cal P w K mg base 4 "_law_wholes" ["got", "many"] m__law_wholes) (c__law_order_price : Cal P w K mg base 2 "_law_order_price" ["rows", "order"] m__law_order_price) : FnOk P w K mg base (L2.CX P w) 6 f fd ["got", "rows"] (spV K w m__law_is_told 2) :=
  fn_v F sc__law_is_told fun cdv A outer s H E hr =>
      (vss_cons (vs_if (VW.vt (vw_or (vt_not (vt_val (vx_callB cv_isi (by rfl) T.b_isinstance VE.boot_isinstance (va_cons (vx_var 0) (va_cons (vx_ty (by rfl) T.b_tuple VE.boot_tuple) va_nil))))) (vw_or (vt_cmp (opv_ne hr.units) (vx_callB cv_len (by rfl) T.b_len VE.boot_len (va_cons (vx_var 0) va_nil)) vx_int) (vw_or1 (vt_not (vt_val (vx_fn c__law_whole hr (by decide) (by rfl) (takes_of rfl rfl rfl rfl) (va_cons (vx_ixv (room1 hr) (vx_var 0) vx_int) va_nil)))))))) (vss_one (vs_ret vx_bl)) vss_nil)
      (vss_cons (vs_if (VW.vt (vw_or (vt_not (vt_val (vx_fn c__law_wholes hr (by decide) (by rfl) (takes_of rfl rfl rfl rfl) (va_cons (vx_ixv (room1 hr) (vx_var 0) vx_int) (va_cons (vx_callB cv_len (by rfl) T.b_len VE.boot_len (va_cons (vx_var 1) va_nil)) va_nil))))) (vw_or1 (vt_cmp (opv_ne hr.units) (vx_callB cv_sortedT (by rfl) T.b_sorted VE.boot_sorted (va_cons (vx_ixv (room1 hr) (vx_var 0) vx_int) va_nil)) (vx_lrg rfl T.b_list T.b_range (vx_callB cv_len (by rfl) T.b_len VE.boot_len (va_cons (vx_var 1) va_nil))))))) (vss_one (vs_ret vx_bl)) vss_nil)
      (vss_one (vs_ret (vx_cmp (opv_eq hr.units) (vx_ixv (room1 hr) (vx_var 0) vx_int) (vx_fn c__law_order_price hr (by decide) (by rfl) (takes_of rfl rfl rfl rfl) (va_cons (vx_val (vx_var 1)) (va_cons (vx_ixv (room1 hr) (vx_var 0) vx_int) va_nil))))))))
/-! Costs___add__ -/
noncomputable def b_Costs___add___1 : Ex W := (eOp gAdd (eVar 5) (eVar 6))
noncomputable def b_Costs___add___2 : Ex W := (eComp [5, 6] (itZip (aCons (eVar 3) (aCons (eVar 4) aNil))) (gT 2 (gCons' (gN 5) (gCons' (gN 6) gNil'))) eYes b_Costs___add___1)
noncomputable def b_Costs___add__ : Sx := (sSeq (sIf (eB (eOp gNe (eFld C_Costs "size" (eVar 0)) (eFld C_Costs "size" (eVar 1)))) sNo sNil) (sSeq (sTidy [] (sFz 2 (sSet 2 (eComp [3, 4] (itZip (aCons (eFld C_Costs "_rows" (eVar 0)) (aCons (eFld C_Costs "_rows" (eVar 1)) aNil))) (gT 2 (gCons' (gN 3) (gCons' (gN 4) gNil'))) eYes b_Costs___add___2)))) (sRet (eMake C_Costs m_Costs___init__ [true, false, false] [] (aCons (eFld C_Costs "size" (eVar 0)) (aCons (eVar 2) aNil))))))
noncomputable def m_Costs___add__ : FM := mkF 7 b_Costs___add__
theorem ok_Costs___add__ {f : Addr} {fd : FuncData} (F : Fun K "__add__" "Costs.__add__" s_Costs___add__ f fd) (T : Txt K mg) (c_Costs___init__ : CalI P w K mg base 2 C_Costs [.non] ["self", "size", "rows"] m_Costs___init__) : FnOk P w K mg base (L2.CX P w) 4 f fd ["self", "other"] (spV K w m_Costs___add__ 2) :=
  fn_v F sc_Costs___add__ fun cdv A outer s H E hr =>
      (vss_cons (vs_if (vt_cmp (opv_ne hr.units) (vx_fld T.k_Costs.cl T.n_Costs_size (vx_var 0)) (vx_fld T.k_Costs.cl T.n_Costs_size (vx_var 1))) (vss_one vs_stuck) vss_nil)
      (vss_cons (vs_tidy [] (vs_fz 2 (vs_setComp [3, 4] rfl sc_Costs___add__.nd rfl rfl (sw_true rfl rfl rfl (by decide +kernel)) (vi_zip (va_cons (vx_fld T.k_Costs.cl T.n_Costs__rows (vx_var 0)) (va_cons (vx_fld T.k_Costs.cl T.n_Costs__rows (vx_var 1)) va_nil)) (by rfl) T.b_zip) (blkOk_by (N := N_Costs___add__) (sc := defScope s_Costs___add__) (own := [("mine", 3), ("more", 4)]) (by decide +kernel)) rfl (fun s2 H2 C2 cl2 fp2 => (vgc_tup rfl (vgcs_cons (vgc_name 3 (by decide) sc_Costs___add__.nd rfl (by first | exact Or.inl rfl | exact Or.inr rfl)) (vgcs_cons (vgc_name 4 (by decide) sc_Costs___add__.nd rfl (by first | exact Or.inl rfl | exact Or.inr rfl)) vgcs_nil)))) (fun s2 H2 C2 cl2 fp2 => vts_nil) (fun s2 H2 C2 cl2 fp2 => (vx_comp [5, 6] rfl sc_Costs___add__.nd (vi_zip (va_cons (vx_var 3) (va_cons (vx_var 4) va_nil)) (by rfl) T.b_zip) (blkOk_by (N := N_Costs___add__) (own := [("x", 5), ("y", 6)]) (by with_unfolding_all rfl)) rfl (fun s2 H2 C2 cl2 fp2 => (vgc_tup rfl (vgcs_cons (vgc_name 5 (by decide) sc_Costs___add__.nd rfl (by first | exact Or.inl rfl | exact Or.inr rfl)) (vgcs_cons (vgc_name 6 (by decide) sc_Costs___add__.nd rfl (by first | exact Or.inl rfl | exact Or.inr rfl)) vgcs_nil)))) (fun s2 H2 C2 cl2 fp2 => vts_nil) (fun s2 H2 C2 cl2 fp2 => (vx_op opv_add (vx_var 5) (vx_var 6))))))))
      (vss_one (vs_ret (vx_mkC [true, false, false] [] 1 T.k_Costs c_Costs___init__ hr (by decide) (by rfl) (by decide) (fun _ => .nil) (va_cons (vx_fld T.k_Costs.cl T.n_Costs_size (vx_var 0)) (va_cons (vx_var 2) va_nil)))))))
/-! _law_beats -/
noncomputable def b__law_beats : Sx := (sSeq (sTidy [] (sFz 3 (sSet 3 (eCall m__law_order_price 2 (aCons (eVal (eVar 0)) (aCons (eVal (eVar 2)) aNil)))))) (sRet (eOr (eOp gLt (eVar 3) (eOp gIxV (eVar 1) (eC (.int 0)))) (eAnd (eOp gEq (eVar 3) (eOp gIxV (eVar 1) (eC (.int 0)))) (eOp gLtT (eVar 2) (eOp gIxV (eVar 1) (eC (.int 1))))))))
noncomputable def m__law_beats : FM := mkF 4 b__law_beats
theorem ok__law_beats {f : Addr} {fd : FuncData} (F : Fun K "_law_beats" "_law_beats" s__law_beats f fd) (T : Txt K mg) (c__law_order_price : Cal P w K mg base 2 "_law_order_price" ["rows", "order"] m__law_order_price) : FnOk P w K mg base (L2.CX P w) 4 f fd ["rows", "got", "other"] (spV K w m__law_beats 3) :=
  fn_v F sc__law_beats fun cdv A outer s H E hr =>
      (vss_cons (vs_tidy [] (vs_fz 3 (vs_set 3 sc__law_beats.nd rfl (by first | exact Or.inl rfl | exact Or.inr rfl) (vx_fn c__law_order_price hr (by decide) (by rfl) (takes_of rfl rfl rfl rfl) (va_cons (vx_val (vx_var 0)) (va_cons (vx_val (vx_var 2)) va_nil))))))
      (vss_one (vs_ret (vx_or (vx_cmp opv_lt (vx_var 3) (vx_ixv (room1 hr) (vx_var 1) vx_int)) (vx_one (vx_and (vx_cmp (opv_eq hr.units) (vx_var 3) (vx_ixv (room1 hr) (vx_var 1) vx_int)) (vx_one (vx_cmp (opv_ltT (Nat.lt_of_succ_lt (room1 hr))) (vx_var 2) (vx_ixv (room1 hr) (vx_var 1) vx_int)))))))))
/-! _law_same -/
noncomputable def b__law_same_1 (m__law_same : FM) : Sx := (sIf (eNotT (eB (eCall m__law_same 2 (aCons (eOp gIxV (eVar 0) (eVar 2)) (aCons (eOp gIxV (eVar 1) (eVar 2)) aNil))))) (sRet (eC (.bl false))) sNil)
noncomputable def b__law_same_2 (m__law_same : FM) : Sx := (sSeq (sIf (eB (eOp gNin (eVar 3) (eVar 0))) (sRet (eC (.bl false))) sNil) (sIf (eNotT (eB (eCall m__law_same 2 (aCons (eOp gIxV (eVar 0) (eVar 3)) (aCons (eOp gIxV (eVar 1) (eVar 3)) aNil))))) (sRet (eC (.bl false))) sNil))
noncomputable def b__law_same (m__law_same : FM) : Sx := (sSeq (sIf (eB (eIsN (eVar 1))) (sRet (eIsN (eVar 0))) sNil) (sSeq (sIf (eB (eFn bIsi (aCons (eVar 1) (aCons (eC (.ty "bool")) aNil)))) (sRet (eAnd (eFn bIsi (aCons (eVar 0) (aCons (eC (.ty "bool")) aNil))) (eOp gEq (eVar 0) (eVar 1)))) sNil) (sSeq (sIf (eB (eFn bIsi (aCons (eVar 1) (aCons (eC (.ty "int")) aNil)))) (sRet (eAnd (eCall m__law_whole 1 (aCons (eVal (eVar 0)) aNil)) (eOp gEq (eVar 0) (eVar 1)))) sNil) (sSeq (sIf (eB (eFn bIsi (aCons (eVar 1) (aCons (eC (.ty "str")) aNil)))) (sRet (eAnd (eFn bIsi (aCons (eVar 0) (aCons (eC (.ty "str")) aNil))) (eOp gEq (eVar 0) (eVar 1)))) sNil) (sSeq (sIf (eOrT (eB (eFn bIsi (aCons (eVar 1) (aCons (eC (.ty "tuple")) aNil)))) (eB (eFn bIsi (aCons (eVar 1) (aCons (eC (.ty "list")) aNil))))) (sSeq (sIf (eAndT (eB (eFn bIsi (aCons (eVar 1) (aCons (eC (.ty "tuple")) aNil)))) (eNotT (eB (eFn bIsi (aCons (eVar 0) (aCons (eC (.ty "tuple")) aNil)))))) (sRet (eC (.bl false))) sNil) (sSeq (sIf (eAndT (eB (eFn bIsi (aCons (eVar 1) (aCons (eC (.ty "list")) aNil)))) (eNotT (eB (eFn bIsi (aCons (eVar 0) (aCons (eC (.ty "list")) aNil)))))) (sRet (eC (.bl false))) sNil) (sSeq (sIf (eB (eOp gNe (eFn bLen (aCons (eVar 0) aNil)) (eFn bLen (aCons (eVar 1) aNil)))) (sRet (eC (.bl false))) sNil) (sSeq (sFor [2] (itRng (aCons (eFn bLen (aCons (eVar 1) aNil)) aNil)) (gN 2) (b__law_same_1 m__law_same)) (sRet (eC (.bl true))))))) sNil) (sSeq (sIf (eB (eFn bIsi (aCons (eVar 1) (aCons (eC (.ty "dict")) aNil)))) (sSeq (sIf (eOrT (eNotT (eB (eFn bIsi (aCons (eVar 0) (aCons (eC (.ty "dict")) aNil))))) (eB (eOp gNe (eFn bLen (aCons (eVar 0) aNil)) (eFn bLen (aCons (eVar 1) aNil))))) (sRet (eC (.bl false))) sNil) (sSeq (sFor [3] (itSeq (eVar 1)) (gN 3) (b__law_same_2 m__law_same)) (sRet (eC (.bl true))))) sNil) (sRet (eC (.bl false)))))))))
noncomputable def m__law_same : Nat → FM
  | 0 => mNo
  | n + 1 => mkF 4 (b__law_same (m__law_same n))
theorem ok__law_same {f : Addr} {fd : FuncData} (F : Fun K "_law_same" "_law_same" s__law_same f fd) (T : Txt K mg) (c__law_whole : Cal P w K mg base 2 "_law_whole" ["got"] m__law_whole) (n : Nat) (c__law_same : Cal P w K mg base (3 + n) "_law_same" ["got", "due"] (m__law_same n)) : FnOk P w K mg base (L2.CX P w) (3 + n + 1) f fd ["got", "due"] (spV K w (m__law_same (n + 1)) 2) :=
  fn_v (body := b__law_same (m__law_same n)) F sc__law_same fun cdv A outer s H E hr =>
      (vss_cons (vs_if (vt_isN (vx_var 1)) (vss_one (vs_ret (vx_isN (vx_var 0)))) vss_nil)
      (vss_cons (vs_if (vt_val (vx_callB cv_isi (by rfl) T.b_isinstance VE.boot_isinstance (va_cons (vx_var 1) (va_cons (vx_ty (by rfl) T.b_bool VE.boot_bool) va_nil)))) (vss_one (vs_ret (vx_and (vx_callB cv_isi (by rfl) T.b_isinstance VE.boot_isinstance (va_cons (vx_var 0) (va_cons (vx_ty (by rfl) T.b_bool VE.boot_bool) va_nil))) (vx_one (vx_cmp (opv_eq hr.units) (vx_var 0) (vx_var 1)))))) vss_nil)
      (vss_cons (vs_if (vt_val (vx_callB cv_isi (by rfl) T.b_isinstance VE.boot_isinstance (va_cons (vx_var 1) (va_cons (vx_ty (by rfl) T.b_int VE.boot_int) va_nil)))) (vss_one (vs_ret (vx_and (vx_fn c__law_whole hr (by omega) (by rfl) (takes_of rfl rfl rfl rfl) (va_cons (vx_val (vx_var 0)) va_nil)) (vx_one (vx_cmp (opv_eq hr.units) (vx_var 0) (vx_var 1)))))) vss_nil)
      (vss_cons (vs_if (vt_val (vx_callB cv_isi (by rfl) T.b_isinstance VE.boot_isinstance (va_cons (vx_var 1) (va_cons (vx_ty (by rfl) T.b_str VE.boot_str) va_nil)))) (vss_one (vs_ret (vx_and (vx_callB cv_isi (by rfl) T.b_isinstance VE.boot_isinstance (va_cons (vx_var 0) (va_cons (vx_ty (by rfl) T.b_str VE.boot_str) va_nil))) (vx_one (vx_cmp (opv_eq hr.units) (vx_var 0) (vx_var 1)))))) vss_nil)
      (vss_cons (vs_if (VW.vt (vw_or (vt_val (vx_callB cv_isi (by rfl) T.b_isinstance VE.boot_isinstance (va_cons (vx_var 1) (va_cons (vx_ty (by rfl) T.b_tuple VE.boot_tuple) va_nil)))) (vw_or1 (vt_val (vx_callB cv_isi (by rfl) T.b_isinstance VE.boot_isinstance (va_cons (vx_var 1) (va_cons (vx_ty (by rfl) T.b_list VE.boot_list) va_nil))))))) (vss_cons (vs_if (VW.vt (vw_and (vt_val (vx_callB cv_isi (by rfl) T.b_isinstance VE.boot_isinstance (va_cons (vx_var 1) (va_cons (vx_ty (by rfl) T.b_tuple VE.boot_tuple) va_nil)))) (vw_and1 (vt_not (vt_val (vx_callB cv_isi (by rfl) T.b_isinstance VE.boot_isinstance (va_cons (vx_var 0) (va_cons (vx_ty (by rfl) T.b_tuple VE.boot_tuple) va_nil)))))))) (vss_one (vs_ret vx_bl)) vss_nil)
      (vss_cons (vs_if (VW.vt (vw_and (vt_val (vx_callB cv_isi (by rfl) T.b_isinstance VE.boot_isinstance (va_cons (vx_var 1) (va_cons (vx_ty (by rfl) T.b_list VE.boot_list) va_nil)))) (vw_and1 (vt_not (vt_val (vx_callB cv_isi (by rfl) T.b_isinstance VE.boot_isinstance (va_cons (vx_var 0) (va_cons (vx_ty (by rfl) T.b_list VE.boot_list) va_nil)))))))) (vss_one (vs_ret vx_bl)) vss_nil)
      (vss_cons (vs_if (vt_cmp (opv_ne hr.units) (vx_callB cv_len (by rfl) T.b_len VE.boot_len (va_cons (vx_var 0) va_nil)) (vx_callB cv_len (by rfl) T.b_len VE.boot_len (va_cons (vx_var 1) va_nil))) (vss_one (vs_ret vx_bl)) vss_nil)
      (vss_cons (vs_for [2] (passes_of rfl) rfl (vi_range1 (va_cons (vx_callB cv_len (by rfl) T.b_len VE.boot_len (va_cons (vx_var 1) va_nil)) va_nil) (by rfl) T.b_range) (vg_name 2 sc__law_same.nd rfl (by first | exact Or.inl rfl | exact Or.inr rfl)) (vss_one (vs_if (vt_not (vt_val (vx_fn c__law_same hr (by omega) (by rfl) (takes_of rfl rfl rfl rfl) (va_cons (vx_ixv (room1 hr) (vx_var 0) (vx_var 2)) (va_cons (vx_ixv (room1 hr) (vx_var 1) (vx_var 2)) va_nil))))) (vss_one (vs_ret vx_bl)) vss_nil)))
      (vss_one (vs_ret vx_bl)))))) vss_nil)
      (vss_cons (vs_if (vt_val (vx_callB cv_isi (by rfl) T.b_isinstance VE.boot_isinstance (va_cons (vx_var 1) (va_cons (vx_ty (by rfl) T.b_dict VE.boot_dict) va_nil)))) (vss_cons (vs_if (VW.vt (vw_or (vt_not (vt_val (vx_callB cv_isi (by rfl) T.b_isinstance VE.boot_isinstance (va_cons (vx_var 0) (va_cons (vx_ty (by rfl) T.b_dict VE.boot_dict) va_nil))))) (vw_or1 (vt_cmp (opv_ne hr.units) (vx_callB cv_len (by rfl) T.b_len VE.boot_len (va_cons (vx_var 0) va_nil)) (vx_callB cv_len (by rfl) T.b_len VE.boot_len (va_cons (vx_var 1) va_nil)))))) (vss_one (vs_ret vx_bl)) vss_nil)
      (vss_cons (vs_for [3] (passes_of rfl) rfl (vi_seq (vx_var 1)) (vg_name 3 sc__law_same.nd rfl (by first | exact Or.inl rfl | exact Or.inr rfl)) (vss_cons (vs_if (vt_cmp (opv_nin (room65 hr)) (vx_var 3) (vx_var 0) (by with_unfolding_all rfl)) (vss_one (vs_ret vx_bl)) vss_nil)
      (vss_one (vs_if (vt_not (vt_val (vx_fn c__law_same hr (by omega) (by rfl) (takes_of rfl rfl rfl rfl) (va_cons (vx_ixv (room1 hr) (vx_var 0) (vx_var 3)) (va_cons (vx_ixv (room1 hr) (vx_var 1) (vx_var 3)) va_nil))))) (vss_one (vs_ret vx_bl)) vss_nil))))
      (vss_one (vs_ret vx_bl)))) vss_nil)
      (vss_one (vs_ret vx_bl))))))))
/-! _law_stayed -/
noncomputable def b__law_stayed_1 : Ex W := (eFn bTuple (aCons (eVar 2) aNil))
noncomputable def b__law_stayed : Sx := (sRet (eCall (m__law_same 12) 2 (aCons (eVal (eMeth0 C_Costs "rows" m_Costs_rows [false] [] (eVar 0))) (aCons (eFn bTuple (aCons (eComp [2] (itSeq (eVar 1)) (gN 2) eYes b__law_stayed_1) aNil)) aNil))))
noncomputable def m__law_stayed : FM := mkF 3 b__law_stayed
theorem ok__law_stayed {f : Addr} {fd : FuncData} (F : Fun K "_law_stayed" "_law_stayed" s__law_stayed f fd) (T : Txt K mg) (c__law_same : Cal P w K mg base 15 "_law_same" ["got", "due"] (m__law_same 12)) (c_Costs_rows : CalM P w K mg base 2 C_Costs "rows" ["self"] m_Costs_rows) : FnOk P w K mg base (L2.CX P w) 17 f fd ["costs", "rows"] (spV K w m__law_stayed 2) :=
  fn_v F sc__law_stayed fun cdv A outer s H E hr =>
      (vss_one (vs_ret (vx_fn c__law_same hr (by decide) (by rfl) (takes_of rfl rfl rfl rfl) (va_cons (vx_val (vx_m0C [false] T.k_Costs c_Costs_rows hr (by decide) (vx_var 0))) (va_cons (vx_callTy cv_tuple (by rfl) T.b_tuple VE.boot_tuple (va_cons (vx_comp [2] rfl sc__law_stayed.nd (vi_seq (vx_var 1)) (blkOk_by (N := N__law_stayed) (sc := defScope s__law_stayed) (own := [("row", 2)]) (by decide +kernel)) rfl (fun s2 H2 C2 cl2 fp2 => (vgc_name 2 (by decide) sc__law_stayed.nd rfl (by first | exact Or.inl rfl | exact Or.inr rfl))) (fun s2 H2 C2 cl2 fp2 => vts_nil) (fun s2 H2 C2 cl2 fp2 => (vx_callTy cv_tuple (by rfl) T.b_tuple VE.boot_tuple (va_cons (vx_var 2) va_nil)))) va_nil)) va_nil)))))
/-! _law_shuffle -/
noncomputable def b__law_shuffle_1 : Sx := (sDrop (eMt isLs mAppend (eVar 3) (aCons (eMt isLs mPop (eVar 2) (aCons (eCall m__law_draw 2 (aCons (eVar 0) (aCons (eFn bLen (aCons (eVar 2) aNil)) aNil))) aNil)) aNil)))
noncomputable def b__law_shuffle : Sx := (sSeq (sSet 2 (eFn bList (aCons (eVar 1) aNil))) (sSeq (sSet 3 (eLst aNil)) (sSeq (sFor [4] (itRng (aCons (eFn bLen (aCons (eVar 1) aNil)) aNil)) (gN 4) b__law_shuffle_1) (sRet (eVar 3)))))
noncomputable def m__law_shuffle : FM := mkF 5 b__law_shuffle
theorem ok__law_shuffle {f : Addr} {fd : FuncData} (F : Fun K "_law_shuffle" "_law_shuffle" s__law_shuffle f fd) (T : Txt K mg) (c__law_draw : Cal P w K mg base 2 "_law_draw" ["bag", "many"] m__law_draw) : FnOk P w K mg base (L2.CX P w) 4 f fd ["bag", "things"] (spV K w m__law_shuffle 2) :=
  fn_v F sc__law_shuffle fun cdv A outer s H E hr =>
      (vss_cons (vs_set 2 sc__law_shuffle.nd rfl (by first | exact Or.inl rfl | exact Or.inr rfl) (vx_callTy cv_list (by rfl) T.b_list VE.boot_list (va_cons (vx_var 1) va_nil)))
      (vss_cons (vs_set 3 sc__law_shuffle.nd rfl (by first | exact Or.inl rfl | exact Or.inr rfl) (vx_lst va_nil))
      (vss_cons (vs_for [4] (passes_of rfl) rfl (vi_range1 (va_cons (vx_callB cv_len (by rfl) T.b_len VE.boot_len (va_cons (vx_var 1) va_nil)) va_nil) (by rfl) T.b_range) (vg_name 4 sc__law_shuffle.nd rfl (by first | exact Or.inl rfl | exact Or.inr rfl)) (vss_one (vs_expr (vx_mt PySem.F.plainAttrs_list PySem.F.slot_list_append PySem.F.type_list_append mtv_append (vx_var 3) (va_cons (vx_mt PySem.F.plainAttrs_list PySem.F.slot_list_pop PySem.F.type_list_pop mtv_pop (vx_var 2) (va_cons (vx_fn c__law_draw hr (by decide) (by rfl) (takes_of rfl rfl rfl rfl) (va_cons (vx_var 0) (va_cons (vx_callB cv_len (by rfl) T.b_len VE.boot_len (va_cons (vx_var 2) va_nil)) va_nil))) va_nil)) va_nil)))))
      (vss_one (vs_ret (vx_var 3))))))
/-! _law_rivals -/
noncomputable def b__law_rivals_1 : Sx := (sTidy [] (sDrop (eMt isLs mAppend (eVar 2) (aCons (eFn bTuple (aCons (eCall m__law_shuffle 2 (aCons (eVar 0) (aCons (eVal (eLRg (eVar 1))) aNil))) aNil)) aNil))))
noncomputable def b__law_rivals : Sx := (sSeq (sTidy [] (sSet 2 (eLst (aCons (eTRg (eVar 1)) (aCons (eFn bTuple (aCons (eRevL (eLRg (eVar 1))) aNil)) aNil))))) (sSeq (sFor [3] (itRng (aCons (eC (.int 6)) aNil)) (gN 3) b__law_rivals_1) (sRet (eVar 2))))
noncomputable def m__law_rivals : FM := mkF 4 b__law_rivals
theorem ok__law_rivals {f : Addr} {fd : FuncData} (F : Fun K "_law_rivals" "_law_rivals" s__law_rivals f fd) (T : Txt K mg) (c__law_shuffle : Cal P w K mg base 4 "_law_shuffle" ["bag", "things"] m__law_shuffle) : FnOk P w K mg base (L2.CX P w) 6 f fd ["bag", "size"] (spV K w m__law_rivals 2) :=
  fn_v F sc__law_rivals fun cdv A outer s H E hr =>
      (vss_cons (vs_tidy [] (vs_set 2 sc__law_rivals.nd rfl (by first | exact Or.inl rfl | exact Or.inr rfl) (vx_lst (va_cons (vx_trg rfl T.b_tuple T.b_range (vx_var 1)) (va_cons (vx_callTy cv_tuple (by rfl) T.b_tuple VE.boot_tuple (va_cons (vx_revL (vx_lrg rfl T.b_list T.b_range (vx_var 1))) va_nil)) va_nil)))))
      (vss_cons (vs_for [3] (passes_of rfl) rfl (vi_range1 (va_cons vx_int va_nil) (by rfl) T.b_range) (vg_name 3 sc__law_rivals.nd rfl (by first | exact Or.inl rfl | exact Or.inr rfl)) (vss_one (vs_tidy [] (vs_expr (vx_mt PySem.F.plainAttrs_list PySem.F.slot_list_append PySem.F.type_list_append mtv_append (vx_var 2) (va_cons (vx_callTy cv_tuple (by rfl) T.b_tuple VE.boot_tuple (va_cons (vx_fn c__law_shuffle hr (by decide) (by rfl) (takes_of rfl rfl rfl rfl) (va_cons (vx_var 0) (va_cons (vx_val (vx_lrg rfl T.b_list T.b_range (vx_var 1))) va_nil))) va_nil)) va_nil))))))
      (vss_one (vs_ret (vx_var 2)))))
/-! _law_near_orders -/
noncomputable def b__law_near_orders_1 : Sx := (sSeq (sTidy [] (sDrop (eMt isLs mAppend (eVar 1) (aCons (eOp gAdd (eOp gAdd (eSl (eVar 3) oNone (oSome (eVar 4))) (eTup (aCons (eOp gIxV (eVar 0) (eVar 2)) aNil))) (eSl (eVar 3) (oSome (eVar 4)) oNone)) aNil)))) (sSeq (sTidy [] (sSet 5 (eFn bList (aCons (eVar 0) aNil)))) (sSeq (sAsg (eOp gIxV (eVar 0) (eVar 4)) (gSb (eVar 5) (eVar 2))) (sSeq (sAsg (eOp gIxV (eVar 0) (eVar 2)) (gSb (eVar 5) (eVar 4))) (sTidy [] (sDrop (eMt isLs mAppend (eVar 1) (aCons (eFn bTuple (aCons (eVar 5) aNil)) aNil))))))))
noncomputable def b__law_near_orders_2 : Sx := (sSeq (sTidy [] (sFz 3 (sSet 3 (eOp gAdd (eSl (eVar 0) oNone (oSome (eVar 2))) (eSl (eVar 0) (oSome (eOp gAdd (eVar 2) (eC (.int 1)))) oNone))))) (sFor [4, 5] (itRng (aCons (eFn bLen (aCons (eVar 0) aNil)) aNil)) (gN 4) b__law_near_orders_1))
noncomputable def b__law_near_orders : Sx := (sSeq (sTidy [] (sSet 1 (eLst aNil))) (sSeq (sFor [2, 3, 4, 5] (itRng (aCons (eFn bLen (aCons (eVar 0) aNil)) aNil)) (gN 2) b__law_near_orders_2) (sRet (eVar 1))))
noncomputable def m__law_near_orders : FM := mkF 6 b__law_near_orders
theorem ok__law_near_orders {f : Addr} {fd : FuncData} (F : Fun K "_law_near_orders" "_law_near_orders" s__law_near_orders f fd) (T : Txt K mg)  : FnOk P w K mg base (L2.CX P w) 2 f fd ["order"] (spV K w m__law_near_orders 1) :=
  fn_v F sc__law_near_orders fun cdv A outer s H E hr =>
      (vss_cons (vs_tidy [] (vs_set 1 sc__law_near_orders.nd rfl (by first | exact Or.inl rfl | exact Or.inr rfl) (vx_lst va_nil)))
      (vss_cons (vs_for [2, 3, 4, 5] (passes_of rfl) rfl (vi_range1 (va_cons (vx_callB cv_len (by rfl) T.b_len VE.boot_len (va_cons (vx_var 0) va_nil)) va_nil) (by rfl) T.b_range) (vg_name 2 sc__law_near_orders.nd rfl (by first | exact Or.inl rfl | exact Or.inr rfl)) (vss_cons (vs_tidy [] (vs_fz 3 (vs_set 3 sc__law_near_orders.nd rfl (by first | exact Or.inl rfl | exact Or.inr rfl) (vx_op opv_add (vx_slice (vx_var 0) vo_none (vo_some (vx_var 2))) (vx_slice (vx_var 0) (vo_some (vx_op opv_add (vx_var 2) vx_int)) vo_none)))))
      (vss_one (vs_for [4, 5] (passes_of rfl) rfl (vi_range1 (va_cons (vx_callB cv_len (by rfl) T.b_len VE.boot_len (va_cons (vx_var 0) va_nil)) va_nil) (by rfl) T.b_range) (vg_name 4 sc__law_near_orders.nd rfl (by first | exact Or.inl rfl | exact Or.inr rfl)) (vss_cons (vs_tidy [] (vs_expr (vx_mt PySem.F.plainAttrs_list PySem.F.slot_list_append PySem.F.type_list_append mtv_append (vx_var 1) (va_cons (vx_op opv_add (vx_op opv_add (vx_slice (vx_var 3) vo_none (vo_some (vx_var 4))) (vx_tup (va_cons (vx_ixv (room1 hr) (vx_var 0) (vx_var 2)) va_nil))) (vx_slice (vx_var 3) (vo_some (vx_var 4)) vo_none)) va_nil))))
      (vss_cons (vs_tidy [] (vs_set 5 sc__law_near_orders.nd rfl (by first | exact Or.inl rfl | exact Or.inr rfl) (vx_callTy cv_list (by rfl) T.b_list VE.boot_list (va_cons (vx_var 0) va_nil))))
      (vss_cons (vs_asg (vx_ixv (room1 hr) (vx_var 0) (vx_var 4)) (vg_sub (room1 hr) (vx_var 5) (vx_var 2)))
      (vss_cons (vs_asg (vx_ixv (room1 hr) (vx_var 0) (vx_var 2)) (vg_sub (room1 hr) (vx_var 5) (vx_var 4)))
      (vss_one (vs_tidy [] (vs_expr (vx_mt PySem.F.plainAttrs_list PySem.F.slot_list_append PySem.F.type_list_append mtv_append (vx_var 1) (va_cons (vx_callTy cv_tuple (by rfl) T.b_tuple VE.boot_tuple (va_cons (vx_var 5) va_nil)) va_nil)))))))))))))
      (vss_one (vs_ret (vx_var 1)))))
/-! _law_due_bound -/
noncomputable def b__law_due_bound_1 : Ex W := (eFn bMin (aCons (eOp gIxV (eOp gIxV (eVar 0) (eVar 2)) (eVar 3)) (aCons (eOp gIxV (eOp gIxV (eVar 0) (eVar 3)) (eVar 2)) aNil)))
noncomputable def b__law_due_bound_2 : Sx := (sTidy [] (sFz 1 (sSet 1 (eOp gAdd (eVar 1) (eFn bSum (aCons (eComp [3] (itRng2 (aCons (eOp gAdd (eVar 2) (eC (.int 1))) (aCons (eFn bLen (aCons (eVar 0) aNil)) aNil))) (gN 3) eYes b__law_due_bound_1) aNil))))))
noncomputable def b__law_due_bound : Sx := (sSeq (sSet 1 (eC (.int 0))) (sSeq (sFor [2] (itRng (aCons (eFn bLen (aCons (eVar 0) aNil)) aNil)) (gN 2) b__law_due_bound_2) (sRet (eVar 1))))
noncomputable def m__law_due_bound : FM := mkF 4 b__law_due_bound
theorem ok__law_due_bound {f : Addr} {fd : FuncData} (F : Fun K "_law_due_bound" "_law_due_bound" s__law_due_bound f fd) (T : Txt K mg)  : FnOk P w K mg base (L2.CX P w) 2 f fd ["rows"] (spV K w m__law_due_bound 1) :=
  fn_v F sc__law_due_bound fun cdv A outer s H E hr =>
      (vss_cons (vs_set 1 sc__law_due_bound.nd rfl (by first | exact Or.inl rfl | exact Or.inr rfl) vx_int)
      (vss_cons (vs_for [2] (passes_of rfl) rfl (vi_range1 (va_cons (vx_callB cv_len (by rfl) T.b_len VE.boot_len (va_cons (vx_var 0) va_nil)) va_nil) (by rfl) T.b_range) (vg_name 2 sc__law_due_bound.nd rfl (by first | exact Or.inl rfl | exact Or.inr rfl)) (vss_one (vs_tidy [] (vs_fz 1 (vs_set 1 sc__law_due_bound.nd rfl (by first | exact Or.inl rfl | exact Or.inr rfl) (vx_op opv_add (vx_var 1) (vx_callB (cv_sum rfl) (by rfl) T.b_sum VE.boot_sum (va_cons (vx_comp [3] rfl sc__law_due_bound.nd (vi_range2 (va_cons (vx_op opv_add (vx_var 2) vx_int) (va_cons (vx_callB cv_len (by rfl) T.b_len VE.boot_len (va_cons (vx_var 0) va_nil)) va_nil)) (by rfl) T.b_range) (blkOk_by (N := N__law_due_bound) (sc := defScope s__law_due_bound) (own := [("b", 3)]) (by decide +kernel)) rfl (fun s2 H2 C2 cl2 fp2 => (vgc_name 3 (by decide) sc__law_due_bound.nd rfl (by first | exact Or.inl rfl | exact Or.inr rfl))) (fun s2 H2 C2 cl2 fp2 => vts_nil) (fun s2 H2 C2 cl2 fp2 => (vx_callB (cv_min rfl) (by rfl) T.b_min VE.boot_min (va_cons (vx_ixv (room1 hr) (vx_ixv (room1 hr) (vx_var 0) (vx_var 2)) (vx_var 3)) (va_cons (vx_ixv (room1 hr) (vx_ixv (room1 hr) (vx_var 0) (vx_var 3)) (vx_var 2)) va_nil))))) va_nil))))))))
      (vss_one (vs_ret (vx_var 1)))))
/-! law -/
noncomputable def b_law_1 : Ex W := (eOp gIxV (eOp gIxV (eVar 3) (eVar 17)) (eVar 16))
noncomputable def b_law_2 : Ex W := (eComp [17] (itRng (aCons (eVar 2) aNil)) (gN 17) eYes b_law_1)
noncomputable def b_law_3 : Ex W := (eOp gAdd (eOp gIxV (eOp gIxV (eVar 3) (eVar 16)) (eVar 17)) (eOp gIxV (eOp gIxV (eVar 4) (eVar 16)) (eVar 17)))
noncomputable def b_law_4 : Ex W := (eComp [17] (itRng (aCons (eVar 2) aNil)) (gN 17) eYes b_law_3)
noncomputable def b_law_5 : Ex W := (eFn bList (aCons (eVar 18) aNil))
noncomputable def b_law_6 : Ex W := (eFn bList (aCons (eVar 18) aNil))
noncomputable def b_law_7 : Ex W := (eFn bList (aCons (eVar 18) aNil))
noncomputable def b_law_8 : Sx := (sIf (eB (eCall m__law_beats 3 (aCons (eVal (eVar 3)) (aCons (eVal (eVar 9)) (aCons (eVal (eVar 14)) aNil))))) (sRet (eC (.bl false))) sNil)
noncomputable def b_law : Sx := (sSeq (sTidy [] (sSet 1 (eCall m__law_bag 1 (aCons (eVal (eVar 0)) aNil)))) (sSeq (sTidy [] (sFz 2 (sSet 2 (eCall m__law_draw 2 (aCons (eVar 1) (aCons (eC (.int 5)) aNil)))))) (sSeq (sIf (eB (eOp gEq (eCall m__law_draw 2 (aCons (eVar 1) (aCons (eC (.int 4)) aNil))) (eC (.int 0)))) (sTidy [] (sFz 2 (sSet 2 (eCall m__law_draw 2 (aCons (eVar 1) (aCons (eC (.int 9)) aNil)))))) sNil) (sSeq (sTidy [] (sFz 3 (sSet 3 (eCall m__law_lifted 2 (aCons (eVar 1) (aCons (eVal (eCall m__law_cost_rows 2 (aCons (eVar 1) (aCons (eVal (eVar 2)) aNil)))) aNil)))))) (sSeq (sTidy [] (sFz 4 (sSet 4 (eCall m__law_cost_rows 2 (aCons (eVar 1) (aCons (eVal (eVar 2)) aNil)))))) (sSeq (sTidy [] (sFz 5 (sSet 5 (eComp [16] (itRng (aCons (eVar 2) aNil)) (gN 16) eYes b_law_2)))) (sSeq (sTidy [] (sFz 6 (sSet 6 (eComp [16] (itRng (aCons (eVar 2) aNil)) (gN 16) eYes b_law_4)))) (sSeq (sTidy [] (sFz 7 (sSet 7 (eLend m_Costs_of [false] (aCons (eComp [18] (itSeq (eVar 3)) (gN 18) eYes b_law_5) aNil))))) (sSeq (sTidy [] (sFz 8 (sSet 8 (eLend m_Costs_of [false] (aCons (eComp [18] (itSeq (eVar 4)) (gN 18) eYes b_law_6) aNil))))) (sSeq (sTidy [] (sFz 9 (sSet 9 (eLend m_least_order [false] (aCons (eVar 7) aNil))))) (sSeq (sIf (eNotT (eB (eCall m__law_is_told 2 (aCons (eVal (eVar 9)) (aCons (eVal (eVar 3)) aNil))))) (sRet (eC (.bl false))) sNil) (sSeq (sTidy [] (sFz 10 (sSet 10 (eLend m_least_order [false] (aCons (eVar 8) aNil))))) (sSeq (sTidy [] (sFz 11 (sSet 11 (eLend m_least_order [false] (aCons (eOp (gOwnB C_Costs m_Costs___add__ [false, false]) (eVar 7) (eVar 8)) aNil))))) (sSeq (sTidy [] (sFz 12 (sSet 12 (eLend m_least_order [false] (aCons (eLend m_Costs_of [false] (aCons (eComp [18] (itSeq (eVar 5)) (gN 18) eYes b_law_7) aNil)) aNil))))) (sSeq (sIf (eOrT (eNotT (eB (eCall m__law_is_told 2 (aCons (eVal (eVar 10)) (aCons (eVal (eVar 4)) aNil))))) (eOrT (eNotT (eB (eCall m__law_is_told 2 (aCons (eVal (eVar 11)) (aCons (eVal (eVar 6)) aNil))))) (eNotT (eB (eCall m__law_is_told 2 (aCons (eVal (eVar 12)) (aCons (eVal (eVar 5)) aNil))))))) (sRet (eC (.bl false))) sNil) (sSeq (sTidy [] (sFz 13 (sSet 13 (eOp gAdd (eOp gAdd (eCall m__law_rivals 2 (aCons (eVar 1) (aCons (eVal (eVar 2)) aNil))) (eCall m__law_near_orders 1 (aCons (eOp gIxV (eVar 9) (eC (.int 1))) aNil))) (eLst (aCons (eOp gIxV (eVar 10) (eC (.int 1))) (aCons (eOp gIxV (eVar 11) (eC (.int 1))) (aCons (eRevK (eOp gIxV (eVar 12) (eC (.int 1)))) aNil)))))))) (sSeq (sFor [14] (itSeq (eVar 13)) (gN 14) b_law_8) (sSeq (sIf (eOrT (eB (eOp gNe (eOp gIxV (eVar 12) (eC (.int 0))) (eOp gIxV (eVar 9) (eC (.int 0))))) (eB (eOp gLt (eOp gIxV (eVar 11) (eC (.int 0))) (eOp gAdd (eOp gIxV (eVar 9) (eC (.int 0))) (eOp gIxV (eVar 10) (eC (.int 0))))))) (sRet (eC (.bl false))) sNil) (sSeq (sTidy [] (sFz 15 (sSet 15 (eLend m_pair_bound [false] (aCons (eVar 7) aNil))))) (sSeq (sIf (eOrT (eNotT (eB (eCall (m__law_same 12) 2 (aCons (eVal (eVar 15)) (aCons (eVal (eCall m__law_due_bound 1 (aCons (eVal (eVar 3)) aNil))) aNil))))) (eB (eOp gGt (eVar 15) (eOp gIxV (eVar 9) (eC (.int 0)))))) (sRet (eC (.bl false))) sNil) (sSeq (sIf (eNotT (eB (eCall (m__law_same 12) 2 (aCons (eVal (eLend m_pair_bound [false] (aCons (eOp (gOwnB C_Costs m_Costs___add__ [false, false]) (eVar 7) (eVar 8)) aNil))) (aCons (eVal (eCall m__law_due_bound 1 (aCons (eVal (eVar 6)) aNil))) aNil))))) (sRet (eC (.bl false))) sNil) (sRet (eAnd (eLend m__law_stayed [false, false] (aCons (eVar 7) (aCons (eVar 3) aNil))) (eLend m__law_stayed [false, false] (aCons (eVar 8) (aCons (eVar 4) aNil))))))))))))))))))))))))))
noncomputable def m_law : FM := mkF 19 b_law
theorem ok_law {f : Addr} {fd : FuncData} (F : Fun K "law" "law" s_law f fd) (T : Txt K mg) (c__law_bag : Cal P w K mg base 2 "_law_bag" ["script"] m__law_bag) (c__law_draw : Cal P w K mg base 2 "_law_draw" ["bag", "many"] m__law_draw) (c__law_lifted : Cal P w K mg base 4 "_law_lifted" ["bag", "rows"] m__law_lifted) (c__law_cost_rows : Cal P w K mg base 4 "_law_cost_rows" ["bag", "size"] m__law_cost_rows) (c_Costs_of : CalS P w K mg base 4 C_Costs "of" ["rows"] m_Costs_of) (c_least_order : Cal P w K mg base 8 "least_order" ["costs"] m_least_order) (c__law_is_told : Cal P w K mg base 6 "_law_is_told" ["got", "rows"] m__law_is_told) (c_Costs___add__ : CalM P w K mg base 4 C_Costs "__add__" ["self", "other"] m_Costs___add__) (c__law_rivals : Cal P w K mg base 6 "_law_rivals" ["bag", "size"] m__law_rivals) (c__law_near_orders : Cal P w K mg base 2 "_law_near_orders" ["order"] m__law_near_orders) (c__law_beats : Cal P w K mg base 4 "_law_beats" ["rows", "got", "other"] m__law_beats) (c_pair_bound : Cal P w K mg base 6 "pair_bound" ["costs"] m_pair_bound) (c__law_same : Cal P w K mg base 15 "_law_same" ["got", "due"] (m__law_same 12)) (c__law_due_bound : Cal P w K mg base 2 "_law_due_bound" ["rows"] m__law_due_bound) (c__law_stayed : Cal P w K mg base 17 "_law_stayed" ["costs", "rows"] m__law_stayed) : FnOk P w K mg base (L2.CX P w) 19 f fd ["script"] (spV K w m_law 1) :=
  fn_v F sc_law fun cdv A outer s H E hr =>
      (vss_cons (vs_tidy [] (vs_set 1 sc_law.nd rfl (by first | exact Or.inl rfl | exact Or.inr rfl) (vx_fn c__law_bag hr (by decide) (by rfl) (takes_of rfl rfl rfl rfl) (va_cons (vx_val (vx_var 0)) va_nil))))
      (vss_cons (vs_tidy [] (vs_fz 2 (vs_set 2 sc_law.nd rfl (by first | exact Or.inl rfl | exact Or.inr rfl) (vx_fn c__law_draw hr (by decide) (by rfl) (takes_of rfl rfl rfl rfl) (va_cons (vx_var 1) (va_cons vx_int va_nil))))))
      (vss_cons (vs_if (vt_cmp (opv_eq hr.units) (vx_fn c__law_draw hr (by decide) (by rfl) (takes_of rfl rfl rfl rfl) (va_cons (vx_var 1) (va_cons vx_int va_nil))) vx_int) (vss_one (vs_tidy [] (vs_fz 2 (vs_set 2 sc_law.nd rfl (by first | exact Or.inl rfl | exact Or.inr rfl) (vx_fn c__law_draw hr (by decide) (by rfl) (takes_of rfl rfl rfl rfl) (va_cons (vx_var 1) (va_cons vx_int va_nil))))))) vss_nil)
      (vss_cons (vs_tidy [] (vs_fz 3 (vs_set 3 sc_law.nd rfl (by first | exact Or.inl rfl | exact Or.inr rfl) (vx_fn c__law_lifted hr (by decide) (by rfl) (takes_of rfl rfl rfl rfl) (va_cons (vx_var 1) (va_cons (vx_val (vx_fn c__law_cost_rows hr (by decide) (by rfl) (takes_of rfl rfl rfl rfl) (va_cons (vx_var 1) (va_cons (vx_val (vx_var 2)) va_nil)))) va_nil))))))
      (vss_cons (vs_tidy [] (vs_fz 4 (vs_set 4 sc_law.nd rfl (by first | exact Or.inl rfl | exact Or.inr rfl) (vx_fn c__law_cost_rows hr (by decide) (by rfl) (takes_of rfl rfl rfl rfl) (va_cons (vx_var 1) (va_cons (vx_val (vx_var 2)) va_nil))))))
      (vss_cons (vs_tidy [] (vs_fz 5 (vs_setComp [16] rfl sc_law.nd rfl rfl (sw_true rfl rfl rfl (by decide +kernel)) (vi_range1 (va_cons (vx_var 2) va_nil) (by rfl) T.b_range) (blkOk_by (N := N_law) (sc := defScope s_law) (own := [("a", 16)]) (by decide +kernel)) rfl (fun s2 H2 C2 cl2 fp2 => (vgc_name 16 (by decide) sc_law.nd rfl (by first | exact Or.inl rfl | exact Or.inr rfl))) (fun s2 H2 C2 cl2 fp2 => vts_nil) (fun s2 H2 C2 cl2 fp2 => (vx_comp [17] rfl sc_law.nd (vi_range1 (va_cons (vx_var 2) va_nil) (by rfl) T.b_range) (blkOk_by (N := N_law) (own := [("b", 17)]) (by with_unfolding_all rfl)) rfl (fun s2 H2 C2 cl2 fp2 => (vgc_name 17 (by decide) sc_law.nd rfl (by first | exact Or.inl rfl | exact Or.inr rfl))) (fun s2 H2 C2 cl2 fp2 => vts_nil) (fun s2 H2 C2 cl2 fp2 => (vx_ixv (room1 hr) (vx_ixv (room1 hr) (vx_var 3) (vx_var 17)) (vx_var 16))))))))
      (vss_cons (vs_tidy [] (vs_fz 6 (vs_setComp [16] rfl sc_law.nd rfl rfl (sw_true rfl rfl rfl (by decide +kernel)) (vi_range1 (va_cons (vx_var 2) va_nil) (by rfl) T.b_range) (blkOk_by (N := N_law) (sc := defScope s_law) (own := [("a", 16)]) (by decide +kernel)) rfl (fun s2 H2 C2 cl2 fp2 => (vgc_name 16 (by decide) sc_law.nd rfl (by first | exact Or.inl rfl | exact Or.inr rfl))) (fun s2 H2 C2 cl2 fp2 => vts_nil) (fun s2 H2 C2 cl2 fp2 => (vx_comp [17] rfl sc_law.nd (vi_range1 (va_cons (vx_var 2) va_nil) (by rfl) T.b_range) (blkOk_by (N := N_law) (own := [("b", 17)]) (by with_unfolding_all rfl)) rfl (fun s2 H2 C2 cl2 fp2 => (vgc_name 17 (by decide) sc_law.nd rfl (by first | exact Or.inl rfl | exact Or.inr rfl))) (fun s2 H2 C2 cl2 fp2 => vts_nil) (fun s2 H2 C2 cl2 fp2 => (vx_op opv_add (vx_ixv (room1 hr) (vx_ixv (room1 hr) (vx_var 3) (vx_var 16)) (vx_var 17)) (vx_ixv (room1 hr) (vx_ixv (room1 hr) (vx_var 4) (vx_var 16)) (vx_var 17)))))))))
      (vss_cons (vs_tidy [] (vs_fz 7 (vs_set 7 sc_law.nd rfl (by first | exact Or.inl rfl | exact Or.inr rfl) (vx_sC [false] T.k_Costs c_Costs_of hr (by decide) (by rfl) (va_cons (vx_comp [18] rfl sc_law.nd (vi_seq (vx_var 3)) (blkOk_by (N := N_law) (sc := defScope s_law) (own := [("row", 18)]) (by decide +kernel)) rfl (fun s2 H2 C2 cl2 fp2 => (vgc_name 18 (by decide) sc_law.nd rfl (by first | exact Or.inl rfl | exact Or.inr rfl))) (fun s2 H2 C2 cl2 fp2 => vts_nil) (fun s2 H2 C2 cl2 fp2 => (vx_callTy cv_list (by rfl) T.b_list VE.boot_list (va_cons (vx_var 18) va_nil)))) va_nil)))))
      (vss_cons (vs_tidy [] (vs_fz 8 (vs_set 8 sc_law.nd rfl (by first | exact Or.inl rfl | exact Or.inr rfl) (vx_sC [false] T.k_Costs c_Costs_of hr (by decide) (by rfl) (va_cons (vx_comp [18] rfl sc_law.nd (vi_seq (vx_var 4)) (blkOk_by (N := N_law) (sc := defScope s_law) (own := [("row", 18)]) (by decide +kernel)) rfl (fun s2 H2 C2 cl2 fp2 => (vgc_name 18 (by decide) sc_law.nd rfl (by first | exact Or.inl rfl | exact Or.inr rfl))) (fun s2 H2 C2 cl2 fp2 => vts_nil) (fun s2 H2 C2 cl2 fp2 => (vx_callTy cv_list (by rfl) T.b_list VE.boot_list (va_cons (vx_var 18) va_nil)))) va_nil)))))
      (vss_cons (vs_tidy [] (vs_fz 9 (vs_set 9 sc_law.nd rfl (by first | exact Or.inl rfl | exact Or.inr rfl) (vx_lendC [false] c_least_order hr (by decide) (by rfl) (va_cons (vx_var 7) va_nil)))))
      (vss_cons (vs_if (vt_not (vt_val (vx_fn c__law_is_told hr (by decide) (by rfl) (takes_of rfl rfl rfl rfl) (va_cons (vx_val (vx_var 9)) (va_cons (vx_val (vx_var 3)) va_nil))))) (vss_one (vs_ret vx_bl)) vss_nil)
      (vss_cons (vs_tidy [] (vs_fz 10 (vs_set 10 sc_law.nd rfl (by first | exact Or.inl rfl | exact Or.inr rfl) (vx_lendC [false] c_least_order hr (by decide) (by rfl) (va_cons (vx_var 8) va_nil)))))
      (vss_cons (vs_tidy [] (vs_fz 11 (vs_set 11 sc_law.nd rfl (by first | exact Or.inl rfl | exact Or.inr rfl) (vx_lendC [false] c_least_order hr (by decide) (by rfl) (va_cons (vx_op (opv_addC [false, false] T.sf_Costs c_Costs___add__ hr (by decide)) (vx_var 7) (vx_var 8)) va_nil)))))
      (vss_cons (vs_tidy [] (vs_fz 12 (vs_set 12 sc_law.nd rfl (by first | exact Or.inl rfl | exact Or.inr rfl) (vx_lendC [false] c_least_order hr (by decide) (by rfl) (va_cons (vx_sC [false] T.k_Costs c_Costs_of hr (by decide) (by rfl) (va_cons (vx_comp [18] rfl sc_law.nd (vi_seq (vx_var 5)) (blkOk_by (N := N_law) (sc := defScope s_law) (own := [("row", 18)]) (by decide +kernel)) rfl (fun s2 H2 C2 cl2 fp2 => (vgc_name 18 (by decide) sc_law.nd rfl (by first | exact Or.inl rfl | exact Or.inr rfl))) (fun s2 H2 C2 cl2 fp2 => vts_nil) (fun s2 H2 C2 cl2 fp2 => (vx_callTy cv_list (by rfl) T.b_list VE.boot_list (va_cons (vx_var 18) va_nil)))) va_nil)) va_nil)))))
      (vss_cons (vs_if (VW.vt (vw_or (vt_not (vt_val (vx_fn c__law_is_told hr (by decide) (by rfl) (takes_of rfl rfl rfl rfl) (va_cons (vx_val (vx_var 10)) (va_cons (vx_val (vx_var 4)) va_nil))))) (vw_or (vt_not (vt_val (vx_fn c__law_is_told hr (by decide) (by rfl) (takes_of rfl rfl rfl rfl) (va_cons (vx_val (vx_var 11)) (va_cons (vx_val (vx_var 6)) va_nil))))) (vw_or1 (vt_not (vt_val (vx_fn c__law_is_told hr (by decide) (by rfl) (takes_of rfl rfl rfl rfl) (va_cons (vx_val (vx_var 12)) (va_cons (vx_val (vx_var 5)) va_nil))))))))) (vss_one (vs_ret vx_bl)) vss_nil)
      (vss_cons (vs_tidy [] (vs_fz 13 (vs_set 13 sc_law.nd rfl (by first | exact Or.inl rfl | exact Or.inr rfl) (vx_op opv_add (vx_op opv_add (vx_fn c__law_rivals hr (by decide) (by rfl) (takes_of rfl rfl rfl rfl) (va_cons (vx_var 1) (va_cons (vx_val (vx_var 2)) va_nil))) (vx_fn c__law_near_orders hr (by decide) (by rfl) (takes_of rfl rfl rfl rfl) (va_cons (vx_ixv (room1 hr) (vx_var 9) vx_int) va_nil))) (vx_lst (va_cons (vx_ixv (room1 hr) (vx_var 10) vx_int) (va_cons (vx_ixv (room1 hr) (vx_var 11) vx_int) (va_cons (vx_revK (vx_ixv (room1 hr) (vx_var 12) vx_int)) va_nil))))))))
      (vss_cons (vs_for [14] (passes_of rfl) rfl (vi_seq (vx_var 13)) (vg_name 14 sc_law.nd rfl (by first | exact Or.inl rfl | exact Or.inr rfl)) (vss_one (vs_if (vt_val (vx_fn c__law_beats hr (by decide) (by rfl) (takes_of rfl rfl rfl rfl) (va_cons (vx_val (vx_var 3)) (va_cons (vx_val (vx_var 9)) (va_cons (vx_val (vx_var 14)) va_nil))))) (vss_one (vs_ret vx_bl)) vss_nil)))
      (vss_cons (vs_if (VW.vt (vw_or (vt_cmp (opv_ne hr.units) (vx_ixv (room1 hr) (vx_var 12) vx_int) (vx_ixv (room1 hr) (vx_var 9) vx_int)) (vw_or1 (vt_cmp opv_lt (vx_ixv (room1 hr) (vx_var 11) vx_int) (vx_op opv_add (vx_ixv (room1 hr) (vx_var 9) vx_int) (vx_ixv (room1 hr) (vx_var 10) vx_int)))))) (vss_one (vs_ret vx_bl)) vss_nil)
      (vss_cons (vs_tidy [] (vs_fz 15 (vs_set 15 sc_law.nd rfl (by first | exact Or.inl rfl | exact Or.inr rfl) (vx_lendC [false] c_pair_bound hr (by decide) (by rfl) (va_cons (vx_var 7) va_nil)))))
      (vss_cons (vs_if (VW.vt (vw_or (vt_not (vt_val (vx_fn c__law_same hr (by decide) (by rfl) (takes_of rfl rfl rfl rfl) (va_cons (vx_val (vx_var 15)) (va_cons (vx_val (vx_fn c__law_due_bound hr (by decide) (by rfl) (takes_of rfl rfl rfl rfl) (va_cons (vx_val (vx_var 3)) va_nil))) va_nil))))) (vw_or1 (vt_cmp opv_gt (vx_var 15) (vx_ixv (room1 hr) (vx_var 9) vx_int))))) (vss_one (vs_ret vx_bl)) vss_nil)
      (vss_cons (vs_if (vt_not (vt_val (vx_fn c__law_same hr (by decide) (by rfl) (takes_of rfl rfl rfl rfl) (va_cons (vx_val (vx_lendC [false] c_pair_bound hr (by decide) (by rfl) (va_cons (vx_op (opv_addC [false, false] T.sf_Costs c_Costs___add__ hr (by decide)) (vx_var 7) (vx_var 8)) va_nil))) (va_cons (vx_val (vx_fn c__law_due_bound hr (by decide) (by rfl) (takes_of rfl rfl rfl rfl) (va_cons (vx_val (vx_var 6)) va_nil))) va_nil))))) (vss_one (vs_ret vx_bl)) vss_nil)
      (vss_one (vs_ret (vx_and (vx_lendC [false, false] c__law_stayed hr (by decide) (by rfl) (va_cons (vx_var 7) (va_cons (vx_var 3) va_nil))) (vx_one (vx_lendC [false, false] c__law_stayed hr (by decide) (by rfl) (va_cons (vx_var 8) (va_cons (vx_var 4) va_nil))))))))))))))))))))))))))))
end
theorem all_mk {w : World} {K : PySem.W.Frag} {h : Heap} {mg : Str → Option Value} {fa : Addr} (X : K.In h) (G : h.Ns mainGlobals mg) (hfa : mg "law" = some (.ref fa))
    {A_Costs : Addr} (a_Costs : PySem.W.nsIn K mainGlobals "Costs" = some (some (.ref A_Costs))) (pg_Costs : PySem.W.plainGet K A_Costs Str.empty = true) (hd_Costs : PySem.W.hasDictIn K A_Costs = true) (po_Costs : PySem.W.plainOver K A_Costs = true)
    (sa_Costs : PySem.W.findIn K (.ref A_Costs) "__setattr__" = some (some (.builtin "object.__setattr__"))) (mk_Costs : PySem.W.makesIn K A_Costs = true) (kc_Costs : PySem.W.keepIn K (.ref A_Costs) = true) (ns_Costs : PySem.W.noSeq K A_Costs = true)
    (ha_Costs : PySem.W.findIn K (.ref A_Costs) "__class__" = some (some (.builtin "object.__class__"))) (hn_Costs : PySem.W.specialIn K (.builtin "object.__class__") "__get__" = some (some (.builtin "getset_descriptor.__get__"))) (tk_Costs : PySem.W.takesIn K (.builtin "object.__class__") = some true)
    (hm_Costs : PySem.W.mroIn K A_Costs (.type "object") = some true)
    (n_Costs__rows : PySem.W.findIn K (.ref A_Costs) "_rows" = some none)
    (n_Costs_size : PySem.W.findIn K (.ref A_Costs) "size" = some none)
    (sf_Costs : PySem.W.selfFirst K A_Costs = true)
    (rd_Costs : PySem.W.readsIn K A_Costs (.type "type") = true) (ga_Costs : PySem.W.specialIn K (.ref A_Costs) "__getattribute__" = some (some (.builtin "type.__getattribute__")))
    {f0 : Addr} {od0 an0 : Option Addr} {sl0 : Array (Option Value)} {oc0 kV0 dc0 pm0 cd0 ct0 : Value}
    (a0 : PySem.W.nsIn K mainGlobals "_law_bag" = some (some (.ref f0)))
    (l0 : K.lookup f0 = some ⟨oc0, od0, .func (PySem.W.fnOf "_law_bag" "_law_bag" (defArgs s__law_bag) (defBody s__law_bag) (defScope s__law_bag) .none kV0 dc0 pm0 an0 cd0 ct0), sl0⟩) (c0 : PySem.W.codeIn K cd0 "_law_bag" = true) (k0 : PySem.W.keepIn K (.ref f0) = true)
    {f1 : Addr} {od1 an1 : Option Addr} {sl1 : Array (Option Value)} {oc1 kV1 dc1 pm1 cd1 ct1 : Value}
    (a1 : PySem.W.nsIn K mainGlobals "_law_draw" = some (some (.ref f1)))
    (l1 : K.lookup f1 = some ⟨oc1, od1, .func (PySem.W.fnOf "_law_draw" "_law_draw" (defArgs s__law_draw) (defBody s__law_draw) (defScope s__law_draw) .none kV1 dc1 pm1 an1 cd1 ct1), sl1⟩) (c1 : PySem.W.codeIn K cd1 "_law_draw" = true) (k1 : PySem.W.keepIn K (.ref f1) = true)
    {f2 : Addr} {od2 an2 : Option Addr} {sl2 : Array (Option Value)} {oc2 kV2 dc2 pm2 cd2 ct2 : Value}
    (a2 : PySem.W.nsIn K mainGlobals "_law_lifted" = some (some (.ref f2)))
    (l2 : K.lookup f2 = some ⟨oc2, od2, .func (PySem.W.fnOf "_law_lifted" "_law_lifted" (defArgs s__law_lifted) (defBody s__law_lifted) (defScope s__law_lifted) .none kV2 dc2 pm2 an2 cd2 ct2), sl2⟩) (c2 : PySem.W.codeIn K cd2 "_law_lifted" = true) (k2 : PySem.W.keepIn K (.ref f2) = true)
    {f3 : Addr} {od3 an3 : Option Addr} {sl3 : Array (Option Value)} {oc3 kV3 dc3 pm3 cd3 ct3 : Value}
    (a3 : PySem.W.nsIn K mainGlobals "_law_cost_rows" = some (some (.ref f3)))
    (l3 : K.lookup f3 = some ⟨oc3, od3, .func (PySem.W.fnOf "_law_cost_rows" "_law_cost_rows" (defArgs s__law_cost_rows) (defBody s__law_cost_rows) (defScope s__law_cost_rows) .none kV3 dc3 pm3 an3 cd3 ct3), sl3⟩) (c3 : PySem.W.codeIn K cd3 "_law_cost_rows" = true) (k3 : PySem.W.keepIn K (.ref f3) = true)
    {f4 : Addr} {od4 an4 : Option Addr} {sl4 : Array (Option Value)} {oc4 kV4 dc4 pm4 cd4 ct4 : Value}
    (a4 : PySem.W.findIn K (.ref A_Costs) "__init__" = some (some (.ref f4))) (i4 : PySem.W.isFn K (.ref f4) = true) (j4 : PySem.W.fnIn K f4 = true)
    {T4 : Addr} {to4 : Value} {td4 : Option Addr} {tn4 : Nat} {ts4 : Array (Option Value)}
    (l4 : K.lookup f4 = some ⟨oc4, od4, .func (PySem.W.fnOf "__init__" "Costs.__init__" (defArgs s_Costs___init__) (defBody s_Costs___init__) (defScope s_Costs___init__) (.ref T4) kV4 dc4 pm4 an4 cd4 ct4), sl4⟩) (c4 : PySem.W.codeIn K cd4 "Costs.__init__" = true) (k4 : PySem.W.keepIn K (.ref f4) = true)
    (lt4 : K.lookup T4 = some ⟨to4, td4, .seq #[.none] tn4, ts4⟩)
    {f5 : Addr} {od5 an5 : Option Addr} {sl5 : Array (Option Value)} {oc5 kV5 dc5 pm5 cd5 ct5 : Value}
    {p5 : Addr} {r5 : List Value} (a5 : PySem.W.findCls K (.ref A_Costs) (.type "type") "of" = some (.get (.builtin "staticmethod.__get__") (.ref p5) .none (.ref A_Costs))) (b5 : PySem.W.recIn K p5 "staticmethod" = some (.ref f5 :: r5))
    (l5 : K.lookup f5 = some ⟨oc5, od5, .func (PySem.W.fnOf "of" "Costs.of" (defArgs s_Costs_of) (defBody s_Costs_of) (defScope s_Costs_of) .none kV5 dc5 pm5 an5 cd5 ct5), sl5⟩) (c5 : PySem.W.codeIn K cd5 "Costs.of" = true) (k5 : PySem.W.keepIn K (.ref f5) = true)
    {f6 : Addr} {od6 an6 : Option Addr} {sl6 : Array (Option Value)} {oc6 kV6 dc6 pm6 cd6 ct6 : Value}
    (a6 : PySem.W.findIn K (.ref A_Costs) "rows" = some (some (.ref f6))) (i6 : PySem.W.isFn K (.ref f6) = true) (j6 : PySem.W.fnIn K f6 = true)
    (l6 : K.lookup f6 = some ⟨oc6, od6, .func (PySem.W.fnOf "rows" "Costs.rows" (defArgs s_Costs_rows) (defBody s_Costs_rows) (defScope s_Costs_rows) .none kV6 dc6 pm6 an6 cd6 ct6), sl6⟩) (c6 : PySem.W.codeIn K cd6 "Costs.rows" = true) (k6 : PySem.W.keepIn K (.ref f6) = true)
    {f7 : Addr} {od7 an7 : Option Addr} {sl7 : Array (Option Value)} {oc7 kV7 dc7 pm7 cd7 ct7 : Value}
    (a7 : PySem.W.nsIn K mainGlobals "_subsets" = some (some (.ref f7)))
    (l7 : K.lookup f7 = some ⟨oc7, od7, .func (PySem.W.fnOf "_subsets" "_subsets" (defArgs s__subsets) (defBody s__subsets) (defScope s__subsets) .none kV7 dc7 pm7 an7 cd7 ct7), sl7⟩) (c7 : PySem.W.codeIn K cd7 "_subsets" = true) (k7 : PySem.W.keepIn K (.ref f7) = true)
    {f8 : Addr} {od8 an8 : Option Addr} {sl8 : Array (Option Value)} {oc8 kV8 dc8 pm8 cd8 ct8 : Value}
    (a8 : PySem.W.nsIn K mainGlobals "_without" = some (some (.ref f8)))
    (l8 : K.lookup f8 = some ⟨oc8, od8, .func (PySem.W.fnOf "_without" "_without" (defArgs s__without) (defBody s__without) (defScope s__without) .none kV8 dc8 pm8 an8 cd8 ct8), sl8⟩) (c8 : PySem.W.codeIn K cd8 "_without" = true) (k8 : PySem.W.keepIn K (.ref f8) = true)
    {f9 : Addr} {od9 an9 : Option Addr} {sl9 : Array (Option Value)} {oc9 kV9 dc9 pm9 cd9 ct9 : Value}
    (a9 : PySem.W.nsIn K mainGlobals "_price_of" = some (some (.ref f9)))
    (l9 : K.lookup f9 = some ⟨oc9, od9, .func (PySem.W.fnOf "_price_of" "_price_of" (defArgs s__price_of) (defBody s__price_of) (defScope s__price_of) .none kV9 dc9 pm9 an9 cd9 ct9), sl9⟩) (c9 : PySem.W.codeIn K cd9 "_price_of" = true) (k9 : PySem.W.keepIn K (.ref f9) = true)
    {f10 : Addr} {od10 an10 : Option Addr} {sl10 : Array (Option Value)} {oc10 kV10 dc10 pm10 cd10 ct10 : Value}
    (a10 : PySem.W.nsIn K mainGlobals "subset_table" = some (some (.ref f10)))
    (l10 : K.lookup f10 = some ⟨oc10, od10, .func (PySem.W.fnOf "subset_table" "subset_table" (defArgs s_subset_table) (defBody s_subset_table) (defScope s_subset_table) .none kV10 dc10 pm10 an10 cd10 ct10), sl10⟩) (c10 : PySem.W.codeIn K cd10 "subset_table" = true) (k10 : PySem.W.keepIn K (.ref f10) = true)
    {f11 : Addr} {od11 an11 : Option Addr} {sl11 : Array (Option Value)} {oc11 kV11 dc11 pm11 cd11 ct11 : Value}
    (a11 : PySem.W.nsIn K mainGlobals "_best_first" = some (some (.ref f11)))
    (l11 : K.lookup f11 = some ⟨oc11, od11, .func (PySem.W.fnOf "_best_first" "_best_first" (defArgs s__best_first) (defBody s__best_first) (defScope s__best_first) .none kV11 dc11 pm11 an11 cd11 ct11), sl11⟩) (c11 : PySem.W.codeIn K cd11 "_best_first" = true) (k11 : PySem.W.keepIn K (.ref f11) = true)
    {f12 : Addr} {od12 an12 : Option Addr} {sl12 : Array (Option Value)} {oc12 kV12 dc12 pm12 cd12 ct12 : Value}
    (a12 : PySem.W.nsIn K mainGlobals "least_order" = some (some (.ref f12)))
    (l12 : K.lookup f12 = some ⟨oc12, od12, .func (PySem.W.fnOf "least_order" "least_order" (defArgs s_least_order) (defBody s_least_order) (defScope s_least_order) .none kV12 dc12 pm12 an12 cd12 ct12), sl12⟩) (c12 : PySem.W.codeIn K cd12 "least_order" = true) (k12 : PySem.W.keepIn K (.ref f12) = true)
    {f13 : Addr} {od13 an13 : Option Addr} {sl13 : Array (Option Value)} {oc13 kV13 dc13 pm13 cd13 ct13 : Value}
    (a13 : PySem.W.findIn K (.ref A_Costs) "_has" = some (some (.ref f13))) (i13 : PySem.W.isFn K (.ref f13) = true) (j13 : PySem.W.fnIn K f13 = true)
    (l13 : K.lookup f13 = some ⟨oc13, od13, .func (PySem.W.fnOf "_has" "Costs._has" (defArgs s_Costs__has) (defBody s_Costs__has) (defScope s_Costs__has) .none kV13 dc13 pm13 an13 cd13 ct13), sl13⟩) (c13 : PySem.W.codeIn K cd13 "Costs._has" = true) (k13 : PySem.W.keepIn K (.ref f13) = true)
    {f14 : Addr} {od14 an14 : Option Addr} {sl14 : Array (Option Value)} {oc14 kV14 dc14 pm14 cd14 ct14 : Value}
    (a14 : PySem.W.findIn K (.ref A_Costs) "__getitem__" = some (some (.ref f14))) (i14 : PySem.W.isFn K (.ref f14) = true) (j14 : PySem.W.fnIn K f14 = true)
    (l14 : K.lookup f14 = some ⟨oc14, od14, .func (PySem.W.fnOf "__getitem__" "Costs.__getitem__" (defArgs s_Costs___getitem__) (defBody s_Costs___getitem__) (defScope s_Costs___getitem__) .none kV14 dc14 pm14 an14 cd14 ct14), sl14⟩) (c14 : PySem.W.codeIn K cd14 "Costs.__getitem__" = true) (k14 : PySem.W.keepIn K (.ref f14) = true)
    {f15 : Addr} {od15 an15 : Option Addr} {sl15 : Array (Option Value)} {oc15 kV15 dc15 pm15 cd15 ct15 : Value}
    (a15 : PySem.W.nsIn K mainGlobals "pair_bound" = some (some (.ref f15)))
    (l15 : K.lookup f15 = some ⟨oc15, od15, .func (PySem.W.fnOf "pair_bound" "pair_bound" (defArgs s_pair_bound) (defBody s_pair_bound) (defScope s_pair_bound) .none kV15 dc15 pm15 an15 cd15 ct15), sl15⟩) (c15 : PySem.W.codeIn K cd15 "pair_bound" = true) (k15 : PySem.W.keepIn K (.ref f15) = true)
    {f16 : Addr} {od16 an16 : Option Addr} {sl16 : Array (Option Value)} {oc16 kV16 dc16 pm16 cd16 ct16 : Value}
    (a16 : PySem.W.nsIn K mainGlobals "_law_order_price" = some (some (.ref f16)))
    (l16 : K.lookup f16 = some ⟨oc16, od16, .func (PySem.W.fnOf "_law_order_price" "_law_order_price" (defArgs s__law_order_price) (defBody s__law_order_price) (defScope s__law_order_price) .none kV16 dc16 pm16 an16 cd16 ct16), sl16⟩) (c16 : PySem.W.codeIn K cd16 "_law_order_price" = true) (k16 : PySem.W.keepIn K (.ref f16) = true)
    {f17 : Addr} {od17 an17 : Option Addr} {sl17 : Array (Option Value)} {oc17 kV17 dc17 pm17 cd17 ct17 : Value}
    (a17 : PySem.W.nsIn K mainGlobals "_law_whole" = some (some (.ref f17)))
    (l17 : K.lookup f17 = some ⟨oc17, od17, .func (PySem.W.fnOf "_law_whole" "_law_whole" (defArgs s__law_whole) (defBody s__law_whole) (defScope s__law_whole) .none kV17 dc17 pm17 an17 cd17 ct17), sl17⟩) (c17 : PySem.W.codeIn K cd17 "_law_whole" = true) (k17 : PySem.W.keepIn K (.ref f17) = true)
    {f18 : Addr} {od18 an18 : Option Addr} {sl18 : Array (Option Value)} {oc18 kV18 dc18 pm18 cd18 ct18 : Value}
    (a18 : PySem.W.nsIn K mainGlobals "_law_wholes" = some (some (.ref f18)))
    (l18 : K.lookup f18 = some ⟨oc18, od18, .func (PySem.W.fnOf "_law_wholes" "_law_wholes" (defArgs s__law_wholes) (defBody s__law_wholes) (defScope s__law_wholes) .none kV18 dc18 pm18 an18 cd18 ct18), sl18⟩) (c18 : PySem.W.codeIn K cd18 "_law_wholes" = true) (k18 : PySem.W.keepIn K (.ref f18) = true)
    {f19 : Addr} {od19 an19 : Option Addr} {sl19 : Array (Option Value)} {oc19 kV19 dc19 pm19 cd19 ct19 : Value}
    (a19 : PySem.W.nsIn K mainGlobals "_law_is_told" = some (some (.ref f19)))
    (l19 : K.lookup f19 = some ⟨oc19, od19, .func (PySem.W.fnOf "_law_is_told" "_law_is_told" (defArgs s__law_is_told) (defBody s__law_is_told) (defScope s__law_is_told) .none kV19 dc19 pm19 an19 cd19 ct19), sl19⟩) (c19 : PySem.W.codeIn K cd19 "_law_is_told" = true) (k19 : PySem.W.keepIn K (.ref f19) = true)
    {f20 : Addr} {od20 an20 : Option Addr} {sl20 : Array (Option Value)} {oc20 kV20 dc20 pm20 cd20 ct20 : Value}
    (a20 : PySem.W.findIn K (.ref A_Costs) "__add__" = some (some (.ref f20))) (i20 : PySem.W.isFn K (.ref f20) = true) (j20 : PySem.W.fnIn K f20 = true)
    (l20 : K.lookup f20 = some ⟨oc20, od20, .func (PySem.W.fnOf "__add__" "Costs.__add__" (defArgs s_Costs___add__) (defBody s_Costs___add__) (defScope s_Costs___add__) .none kV20 dc20 pm20 an20 cd20 ct20), sl20⟩) (c20 : PySem.W.codeIn K cd20 "Costs.__add__" = true) (k20 : PySem.W.keepIn K (.ref f20) = true)
    {f21 : Addr} {od21 an21 : Option Addr} {sl21 : Array (Option Value)} {oc21 kV21 dc21 pm21 cd21 ct21 : Value}
    (a21 : PySem.W.nsIn K mainGlobals "_law_beats" = some (some (.ref f21)))
    (l21 : K.lookup f21 = some ⟨oc21, od21, .func (PySem.W.fnOf "_law_beats" "_law_beats" (defArgs s__law_beats) (defBody s__law_beats) (defScope s__law_beats) .none kV21 dc21 pm21 an21 cd21 ct21), sl21⟩) (c21 : PySem.W.codeIn K cd21 "_law_beats" = true) (k21 : PySem.W.keepIn K (.ref f21) = true)
    {f22 : Addr} {od22 an22 : Option Addr} {sl22 : Array (Option Value)} {oc22 kV22 dc22 pm22 cd22 ct22 : Value}
    (a22 : PySem.W.nsIn K mainGlobals "_law_same" = some (some (.ref f22)))
    (l22 : K.lookup f22 = some ⟨oc22, od22, .func (PySem.W.fnOf "_law_same" "_law_same" (defArgs s__law_same) (defBody s__law_same) (defScope s__law_same) .none kV22 dc22 pm22 an22 cd22 ct22), sl22⟩) (c22 : PySem.W.codeIn K cd22 "_law_same" = true) (k22 : PySem.W.keepIn K (.ref f22) = true)
    {f23 : Addr} {od23 an23 : Option Addr} {sl23 : Array (Option Value)} {oc23 kV23 dc23 pm23 cd23 ct23 : Value}
    (a23 : PySem.W.nsIn K mainGlobals "_law_stayed" = some (some (.ref f23)))
    (l23 : K.lookup f23 = some ⟨oc23, od23, .func (PySem.W.fnOf "_law_stayed" "_law_stayed" (defArgs s__law_stayed) (defBody s__law_stayed) (defScope s__law_stayed) .none kV23 dc23 pm23 an23 cd23 ct23), sl23⟩) (c23 : PySem.W.codeIn K cd23 "_law_stayed" = true) (k23 : PySem.W.keepIn K (.ref f23) = true)
    {f24 : Addr} {od24 an24 : Option Addr} {sl24 : Array (Option Value)} {oc24 kV24 dc24 pm24 cd24 ct24 : Value}
    (a24 : PySem.W.nsIn K mainGlobals "_law_shuffle" = some (some (.ref f24)))
    (l24 : K.lookup f24 = some ⟨oc24, od24, .func (PySem.W.fnOf "_law_shuffle" "_law_shuffle" (defArgs s__law_shuffle) (defBody s__law_shuffle) (defScope s__law_shuffle) .none kV24 dc24 pm24 an24 cd24 ct24), sl24⟩) (c24 : PySem.W.codeIn K cd24 "_law_shuffle" = true) (k24 : PySem.W.keepIn K (.ref f24) = true)
    {f25 : Addr} {od25 an25 : Option Addr} {sl25 : Array (Option Value)} {oc25 kV25 dc25 pm25 cd25 ct25 : Value}
    (a25 : PySem.W.nsIn K mainGlobals "_law_rivals" = some (some (.ref f25)))
    (l25 : K.lookup f25 = some ⟨oc25, od25, .func (PySem.W.fnOf "_law_rivals" "_law_rivals" (defArgs s__law_rivals) (defBody s__law_rivals) (defScope s__law_rivals) .none kV25 dc25 pm25 an25 cd25 ct25), sl25⟩) (c25 : PySem.W.codeIn K cd25 "_law_rivals" = true) (k25 : PySem.W.keepIn K (.ref f25) = true)
    {f26 : Addr} {od26 an26 : Option Addr} {sl26 : Array (Option Value)} {oc26 kV26 dc26 pm26 cd26 ct26 : Value}
    (a26 : PySem.W.nsIn K mainGlobals "_law_near_orders" = some (some (.ref f26)))
    (l26 : K.lookup f26 = some ⟨oc26, od26, .func (PySem.W.fnOf "_law_near_orders" "_law_near_orders" (defArgs s__law_near_orders) (defBody s__law_near_orders) (defScope s__law_near_orders) .none kV26 dc26 pm26 an26 cd26 ct26), sl26⟩) (c26 : PySem.W.codeIn K cd26 "_law_near_orders" = true) (k26 : PySem.W.keepIn K (.ref f26) = true)
    {f27 : Addr} {od27 an27 : Option Addr} {sl27 : Array (Option Value)} {oc27 kV27 dc27 pm27 cd27 ct27 : Value}
    (a27 : PySem.W.nsIn K mainGlobals "_law_due_bound" = some (some (.ref f27)))
    (l27 : K.lookup f27 = some ⟨oc27, od27, .func (PySem.W.fnOf "_law_due_bound" "_law_due_bound" (defArgs s__law_due_bound) (defBody s__law_due_bound) (defScope s__law_due_bound) .none kV27 dc27 pm27 an27 cd27 ct27), sl27⟩) (c27 : PySem.W.codeIn K cd27 "_law_due_bound" = true) (k27 : PySem.W.keepIn K (.ref f27) = true)
    {f28 : Addr} {od28 an28 : Option Addr} {sl28 : Array (Option Value)} {oc28 kV28 dc28 pm28 cd28 ct28 : Value}
    (a28 : PySem.W.nsIn K mainGlobals "law" = some (some (.ref f28)))
    (l28 : K.lookup f28 = some ⟨oc28, od28, .func (PySem.W.fnOf "law" "law" (defArgs s_law) (defBody s_law) (defScope s_law) .none kV28 dc28 pm28 an28 cd28 ct28), sl28⟩) (c28 : PySem.W.codeIn K cd28 "law" = true) (k28 : PySem.W.keepIn K (.ref f28) = true)
    (z_abs : PySem.W.nsIn K mainGlobals "abs" = some none)
    (z_bool : PySem.W.nsIn K mainGlobals "bool" = some none)
    (z_dict : PySem.W.nsIn K mainGlobals "dict" = some none)
    (z_enumerate : PySem.W.nsIn K mainGlobals "enumerate" = some none)
    (z_int : PySem.W.nsIn K mainGlobals "int" = some none)
    (z_isinstance : PySem.W.nsIn K mainGlobals "isinstance" = some none)
    (z_len : PySem.W.nsIn K mainGlobals "len" = some none)
    (z_list : PySem.W.nsIn K mainGlobals "list" = some none)
    (z_min : PySem.W.nsIn K mainGlobals "min" = some none)
    (z_range : PySem.W.nsIn K mainGlobals "range" = some none)
    (z_sorted : PySem.W.nsIn K mainGlobals "sorted" = some none)
    (z_str : PySem.W.nsIn K mainGlobals "str" = some none)
    (z_sum : PySem.W.nsIn K mainGlobals "sum" = some none)
    (z_tuple : PySem.W.nsIn K mainGlobals "tuple" = some none)
    (z_zip : PySem.W.nsIn K mainGlobals "zip" = some none)
    : ∃ fd : FuncData, (∀ (s : Shared) (v : Value), BindsTo s fd ⟨[v], []⟩ [("script", v)]) ∧ ∀ base : Heap, K.In base → base.Ns mainGlobals mg → FnOk PySem.Challenge.pw_drawnlayers_k30_whole_no_cheaper_order w K mg base (L2.CX PySem.Challenge.pw_drawnlayers_k30_whole_no_cheaper_order w) 19 fa fd ["script"] (fun vs H Q E => ∀ ca : CA, spV K w (@m_law ca) 1 vs H Q E) := by
  have e := hfa.symm.trans (PySem.W.mg_of X G a28)
  cases e
  letI ca : CA := ⟨A_Costs⟩
  have T : Txt K mg := ⟨PySem.W.mg_none_of X G z_abs, PySem.W.mg_none_of X G z_bool, PySem.W.mg_none_of X G z_dict, PySem.W.mg_none_of X G z_enumerate, PySem.W.mg_none_of X G z_int, PySem.W.mg_none_of X G z_isinstance, PySem.W.mg_none_of X G z_len, PySem.W.mg_none_of X G z_list, PySem.W.mg_none_of X G z_min, PySem.W.mg_none_of X G z_range, PySem.W.mg_none_of X G z_sorted, PySem.W.mg_none_of X G z_str, PySem.W.mg_none_of X G z_sum, PySem.W.mg_none_of X G z_tuple, PySem.W.mg_none_of X G z_zip, ⟨⟨pg_Costs, hd_Costs, po_Costs, sa_Costs⟩, PySem.W.mg_of X G a_Costs, ns_Costs, mk_Costs, kc_Costs, ⟨⟨pg_Costs, hd_Costs, po_Costs, sa_Costs⟩, ha_Costs, hn_Costs, tk_Costs, hm_Costs, kit_self⟩⟩, n_Costs__rows, n_Costs_size, sf_Costs⟩
  have F0 := fun_mk (st := s__law_bag) l0 c0 k0
  have F1 := fun_mk (st := s__law_draw) l1 c1 k1
  have F2 := fun_mk (st := s__law_lifted) l2 c2 k2
  have F3 := fun_mk (st := s__law_cost_rows) l3 c3 k3
  have F4 : FunD K "__init__" "Costs.__init__" (defArgs s_Costs___init__) (defBody s_Costs___init__) (defScope s_Costs___init__) [.non] [] f4 _ := ⟨⟨oc4, od4, .ref T4, kV4, dc4, pm4, an4, cd4, ct4, sl4, rfl, l4, c4, .inr ⟨by simp, T4, _, [.none], tn4, rfl, lt4, rfl, .cons rfl (.nil)⟩, .inl rfl⟩, k4⟩
  have F5 := fun_mk (st := s_Costs_of) l5 c5 k5
  have F6 := fun_mk (st := s_Costs_rows) l6 c6 k6
  have F7 := fun_mk (st := s__subsets) l7 c7 k7
  have F8 := fun_mk (st := s__without) l8 c8 k8
  have F9 := fun_mk (st := s__price_of) l9 c9 k9
  have F10 := fun_mk (st := s_subset_table) l10 c10 k10
  have F11 := fun_mk (st := s__best_first) l11 c11 k11
  have F12 := fun_mk (st := s_least_order) l12 c12 k12
  have F13 := fun_mk (st := s_Costs__has) l13 c13 k13
  have F14 := fun_mk (st := s_Costs___getitem__) l14 c14 k14
  have F15 := fun_mk (st := s_pair_bound) l15 c15 k15
  have F16 := fun_mk (st := s__law_order_price) l16 c16 k16
  have F17 := fun_mk (st := s__law_whole) l17 c17 k17
  have F18 := fun_mk (st := s__law_wholes) l18 c18 k18
  have F19 := fun_mk (st := s__law_is_told) l19 c19 k19
  have F20 := fun_mk (st := s_Costs___add__) l20 c20 k20
  have F21 := fun_mk (st := s__law_beats) l21 c21 k21
  have F22 := fun_mk (st := s__law_same) l22 c22 k22
  have F23 := fun_mk (st := s__law_stayed) l23 c23 k23
  have F24 := fun_mk (st := s__law_shuffle) l24 c24 k24
  have F25 := fun_mk (st := s__law_rivals) l25 c25 k25
  have F26 := fun_mk (st := s__law_near_orders) l26 c26 k26
  have F27 := fun_mk (st := s__law_due_bound) l27 c27 k27
  have F28 := fun_mk (st := s_law) l28 c28 k28
  refine ⟨PySem.W.fnOf "law" "law" (defArgs s_law) (defBody s_law) (defScope s_law) .none kV28 dc28 pm28 an28 cd28 ct28, fun s v => .of_eq rfl, fun base _ _ => ?_⟩
  have c__law_bag : Cal PySem.Challenge.pw_drawnlayers_k30_whole_no_cheaper_order w K mg base 2 "_law_bag" ["script"] m__law_bag := ⟨f0, _, ok__law_bag F0 T , PySem.W.mg_of X G a0, k0, F0.binds (ps := ["script"]) fun _ _ _ _ _ _ us hl => match us, hl with | [_], _ => rfl⟩
  have c__law_draw : Cal PySem.Challenge.pw_drawnlayers_k30_whole_no_cheaper_order w K mg base 2 "_law_draw" ["bag", "many"] m__law_draw := ⟨f1, _, ok__law_draw F1 T , PySem.W.mg_of X G a1, k1, F1.binds (ps := ["bag", "many"]) fun _ _ _ _ _ _ us hl => match us, hl with | [_, _], _ => rfl⟩
  have c__law_lifted : Cal PySem.Challenge.pw_drawnlayers_k30_whole_no_cheaper_order w K mg base 4 "_law_lifted" ["bag", "rows"] m__law_lifted := ⟨f2, _, ok__law_lifted F2 T c__law_draw, PySem.W.mg_of X G a2, k2, F2.binds (ps := ["bag", "rows"]) fun _ _ _ _ _ _ us hl => match us, hl with | [_, _], _ => rfl⟩
  have c__law_cost_rows : Cal PySem.Challenge.pw_drawnlayers_k30_whole_no_cheaper_order w K mg base 4 "_law_cost_rows" ["bag", "size"] m__law_cost_rows := ⟨f3, _, ok__law_cost_rows F3 T c__law_draw, PySem.W.mg_of X G a3, k3, F3.binds (ps := ["bag", "size"]) fun _ _ _ _ _ _ us hl => match us, hl with | [_, _], _ => rfl⟩
  have c_Costs___init__ : CalI PySem.Challenge.pw_drawnlayers_k30_whole_no_cheaper_order w K mg base 2 C_Costs [.non] ["self", "size", "rows"] m_Costs___init__ := ⟨f4, _, ok_Costs___init__ F4 T , ⟨mk_Costs, a4, i4, kc_Costs⟩, fun j hj => match j, hj with | 0, _ => F4.binds1 2 0 (by simp) rfl (fun T kV doc pm an cdv ct us its hu hi => match us, its, hu, hi with | [_, _], [_], _, _ => ⟨_, rfl, rfl⟩) | 1, _ => F4.binds1 3 1 (by simp) rfl (fun T kV doc pm an cdv ct us its hu hi => match us, its, hu, hi with | [_, _, _], [_], _, _ => ⟨_, rfl, rfl⟩) | n + 2, h => absurd h (by simp)⟩
  have c_Costs_of : CalS PySem.Challenge.pw_drawnlayers_k30_whole_no_cheaper_order w K mg base 4 C_Costs "of" ["rows"] m_Costs_of := ⟨f5, _, ok_Costs_of F5 T c_Costs___init__, ⟨rd_Costs, ga_Costs, ⟨p5, r5, a5, b5⟩, k5⟩, F5.binds (ps := ["rows"]) fun _ _ _ _ _ _ us hl => match us, hl with | [_], _ => rfl⟩
  have c_Costs_rows : CalM PySem.Challenge.pw_drawnlayers_k30_whole_no_cheaper_order w K mg base 2 C_Costs "rows" ["self"] m_Costs_rows := ⟨f6, _, ok_Costs_rows F6 T , ⟨a6, i6, k6⟩, j6, F6.binds (ps := ["self"]) fun _ _ _ _ _ _ us hl => match us, hl with | [_], _ => rfl⟩
  have c__subsets : Cal PySem.Challenge.pw_drawnlayers_k30_whole_no_cheaper_order w K mg base 2 "_subsets" ["size"] m__subsets := ⟨f7, _, ok__subsets F7 T , PySem.W.mg_of X G a7, k7, F7.binds (ps := ["size"]) fun _ _ _ _ _ _ us hl => match us, hl with | [_], _ => rfl⟩
  have c__without : Cal PySem.Challenge.pw_drawnlayers_k30_whole_no_cheaper_order w K mg base 2 "_without" ["subset", "place"] m__without := ⟨f8, _, ok__without F8 T , PySem.W.mg_of X G a8, k8, F8.binds (ps := ["subset", "place"]) fun _ _ _ _ _ _ us hl => match us, hl with | [_, _], _ => rfl⟩
  have c__price_of : Cal PySem.Challenge.pw_drawnlayers_k30_whole_no_cheaper_order w K mg base 4 "_price_of" ["rows", "table", "subset"] m__price_of := ⟨f9, _, ok__price_of F9 T c__without, PySem.W.mg_of X G a9, k9, F9.binds (ps := ["rows", "table", "subset"]) fun _ _ _ _ _ _ us hl => match us, hl with | [_, _, _], _ => rfl⟩
  have c_subset_table : Cal PySem.Challenge.pw_drawnlayers_k30_whole_no_cheaper_order w K mg base 6 "subset_table" ["costs"] m_subset_table := ⟨f10, _, ok_subset_table F10 T c_Costs_rows c__subsets c__price_of, PySem.W.mg_of X G a10, k10, F10.binds (ps := ["costs"]) fun _ _ _ _ _ _ us hl => match us, hl with | [_], _ => rfl⟩
  have c__best_first : Cal PySem.Challenge.pw_drawnlayers_k30_whole_no_cheaper_order w K mg base 4 "_best_first" ["rows", "table", "subset"] m__best_first := ⟨f11, _, ok__best_first F11 T c__without, PySem.W.mg_of X G a11, k11, F11.binds (ps := ["rows", "table", "subset"]) fun _ _ _ _ _ _ us hl => match us, hl with | [_, _, _], _ => rfl⟩
  have c_least_order : Cal PySem.Challenge.pw_drawnlayers_k30_whole_no_cheaper_order w K mg base 8 "least_order" ["costs"] m_least_order := ⟨f12, _, ok_least_order F12 T c_Costs_rows c_subset_table c__best_first c__without, PySem.W.mg_of X G a12, k12, F12.binds (ps := ["costs"]) fun _ _ _ _ _ _ us hl => match us, hl with | [_], _ => rfl⟩
  have c_Costs__has : CalM PySem.Challenge.pw_drawnlayers_k30_whole_no_cheaper_order w K mg base 2 C_Costs "_has" ["self", "a", "b"] m_Costs__has := ⟨f13, _, ok_Costs__has F13 T , ⟨a13, i13, k13⟩, j13, F13.binds (ps := ["self", "a", "b"]) fun _ _ _ _ _ _ us hl => match us, hl with | [_, _, _], _ => rfl⟩
  have c_Costs___getitem__ : CalM PySem.Challenge.pw_drawnlayers_k30_whole_no_cheaper_order w K mg base 4 C_Costs "__getitem__" ["self", "at"] m_Costs___getitem__ := ⟨f14, _, ok_Costs___getitem__ F14 T c_Costs__has, ⟨a14, i14, k14⟩, j14, F14.binds (ps := ["self", "at"]) fun _ _ _ _ _ _ us hl => match us, hl with | [_, _], _ => rfl⟩
  have c_pair_bound : Cal PySem.Challenge.pw_drawnlayers_k30_whole_no_cheaper_order w K mg base 6 "pair_bound" ["costs"] m_pair_bound := ⟨f15, _, ok_pair_bound F15 T c_Costs___getitem__, PySem.W.mg_of X G a15, k15, F15.binds (ps := ["costs"]) fun _ _ _ _ _ _ us hl => match us, hl with | [_], _ => rfl⟩
  have c__law_order_price : Cal PySem.Challenge.pw_drawnlayers_k30_whole_no_cheaper_order w K mg base 2 "_law_order_price" ["rows", "order"] m__law_order_price := ⟨f16, _, ok__law_order_price F16 T , PySem.W.mg_of X G a16, k16, F16.binds (ps := ["rows", "order"]) fun _ _ _ _ _ _ us hl => match us, hl with | [_, _], _ => rfl⟩
  have c__law_whole : Cal PySem.Challenge.pw_drawnlayers_k30_whole_no_cheaper_order w K mg base 2 "_law_whole" ["got"] m__law_whole := ⟨f17, _, ok__law_whole F17 T , PySem.W.mg_of X G a17, k17, F17.binds (ps := ["got"]) fun _ _ _ _ _ _ us hl => match us, hl with | [_], _ => rfl⟩
  have c__law_wholes : Cal PySem.Challenge.pw_drawnlayers_k30_whole_no_cheaper_order w K mg base 4 "_law_wholes" ["got", "many"] m__law_wholes := ⟨f18, _, ok__law_wholes F18 T c__law_whole, PySem.W.mg_of X G a18, k18, F18.binds (ps := ["got", "many"]) fun _ _ _ _ _ _ us hl => match us, hl with | [_, _], _ => rfl⟩
  have c__law_is_told : Cal PySem.Challenge.pw_drawnlayers_k30_whole_no_cheaper_order w K mg base 6 "_law_is_told" ["got", "rows"] m__law_is_told := ⟨f19, _, ok__law_is_told F19 T c__law_whole c__law_wholes c__law_order_price, PySem.W.mg_of X G a19, k19, F19.binds (ps := ["got", "rows"]) fun _ _ _ _ _ _ us hl => match us, hl with | [_, _], _ => rfl⟩
  have c_Costs___add__ : CalM PySem.Challenge.pw_drawnlayers_k30_whole_no_cheaper_order w K mg base 4 C_Costs "__add__" ["self", "other"] m_Costs___add__ := ⟨f20, _, ok_Costs___add__ F20 T c_Costs___init__, ⟨a20, i20, k20⟩, j20, F20.binds (ps := ["self", "other"]) fun _ _ _ _ _ _ us hl => match us, hl with | [_, _], _ => rfl⟩
  have c__law_beats : Cal PySem.Challenge.pw_drawnlayers_k30_whole_no_cheaper_order w K mg base 4 "_law_beats" ["rows", "got", "other"] m__law_beats := ⟨f21, _, ok__law_beats F21 T c__law_order_price, PySem.W.mg_of X G a21, k21, F21.binds (ps := ["rows", "got", "other"]) fun _ _ _ _ _ _ us hl => match us, hl with | [_, _, _], _ => rfl⟩
  have c__law_same : ∀ n, Cal PySem.Challenge.pw_drawnlayers_k30_whole_no_cheaper_order w K mg base (3 + n) "_law_same" ["got", "due"] (m__law_same n) := fun n => by
    induction n with
    | zero => exact ⟨f22, _, fn_no rfl, PySem.W.mg_of X G a22, k22, F22.binds (ps := ["got", "due"]) fun _ _ _ _ _ _ us hl => match us, hl with | [_, _], _ => rfl⟩
    | succ n ih => exact ⟨f22, _, ok__law_same F22 T c__law_whole n ih, PySem.W.mg_of X G a22, k22, F22.binds (ps := ["got", "due"]) fun _ _ _ _ _ _ us hl => match us, hl with | [_, _], _ => rfl⟩
  have c__law_stayed : Cal PySem.Challenge.pw_drawnlayers_k30_whole_no_cheaper_order w K mg base 17 "_law_stayed" ["costs", "rows"] m__law_stayed := ⟨f23, _, ok__law_stayed F23 T (c__law_same 12) c_Costs_rows, PySem.W.mg_of X G a23, k23, F23.binds (ps := ["costs", "rows"]) fun _ _ _ _ _ _ us hl => match us, hl with | [_, _], _ => rfl⟩
  have c__law_shuffle : Cal PySem.Challenge.pw_drawnlayers_k30_whole_no_cheaper_order w K mg base 4 "_law_shuffle" ["bag", "things"] m__law_shuffle := ⟨f24, _, ok__law_shuffle F24 T c__law_draw, PySem.W.mg_of X G a24, k24, F24.binds (ps := ["bag", "things"]) fun _ _ _ _ _ _ us hl => match us, hl with | [_, _], _ => rfl⟩
  have c__law_rivals : Cal PySem.Challenge.pw_drawnlayers_k30_whole_no_cheaper_order w K mg base 6 "_law_rivals" ["bag", "size"] m__law_rivals := ⟨f25, _, ok__law_rivals F25 T c__law_shuffle, PySem.W.mg_of X G a25, k25, F25.binds (ps := ["bag", "size"]) fun _ _ _ _ _ _ us hl => match us, hl with | [_, _], _ => rfl⟩
  have c__law_near_orders : Cal PySem.Challenge.pw_drawnlayers_k30_whole_no_cheaper_order w K mg base 2 "_law_near_orders" ["order"] m__law_near_orders := ⟨f26, _, ok__law_near_orders F26 T , PySem.W.mg_of X G a26, k26, F26.binds (ps := ["order"]) fun _ _ _ _ _ _ us hl => match us, hl with | [_], _ => rfl⟩
  have c__law_due_bound : Cal PySem.Challenge.pw_drawnlayers_k30_whole_no_cheaper_order w K mg base 2 "_law_due_bound" ["rows"] m__law_due_bound := ⟨f27, _, ok__law_due_bound F27 T , PySem.W.mg_of X G a27, k27, F27.binds (ps := ["rows"]) fun _ _ _ _ _ _ us hl => match us, hl with | [_], _ => rfl⟩
  exact (ok_law F28 T c__law_bag c__law_draw c__law_lifted c__law_cost_rows c_Costs_of c_least_order c__law_is_told c_Costs___add__ c__law_rivals c__law_near_orders c__law_beats c_pair_bound (c__law_same 12) c__law_due_bound c__law_stayed).imp fun vs H Q E h => h ca
local macro_rules
  | `(tactic| simp_arith) => `(tactic| simp only [w_eTRg, bMinP_1, mnPO_cons, w_bor, borSl_nil, borSl_cons, Option.bind_none, starQ_some, w_star, seqO_tup, seqO_ktup, seqO_lst, seqO_r, valsOf_map, w_minD, mnDL_1, sqI_lst, sqI_r, mnDO_nil, mnDO_cons, Option.isNone_none, Option.isNone_some, w_lend, w_callLn, w_lendF, w_fld, w_make, w_meth, w_meth0, w_itm, w_setC, w_fldS, lendQ_eq, nonQ_eq, lroots, lendW, lend1, lendO, consO, immR, immW, immO, immOs, immOF, immD, immDs, immDs_int, fldW, fldD, fldS, fldO, fldR, aget_nil, aget_cons, insW_d, insW_r, insO, hasM, gOwnB_eq, bIsC_2, stW, stO, stD, stR, O.toD, O.toDF, List.contains_nil, List.contains_cons, Nat.reduceBEq, Bool.or_false, gInT_c, gNinT_c, inTO_some, bSortT_1, srtIO_some, gLtT_c, ltTO_some, w_fz, w_tidy, w_revK, ktOf_k, isKt_k, mIndexT_1, mIndexL_1, mCountT_1, ixoO_some, bTupleK_1, okT_some, mAppN_d, mAppN_r, appD_lst, appD_nst, appO_d, appO_lst, appO_nst, appL_some, osOf_lst, osOf_nst, noVw_nil, noVw_lst, noVw_nst, noVw_d, noVw_dk, noVw_dt, noVw_ndk, noVw_ndt, noVw_vw, isLsN, w_subN, setIxN_d, setIxN_r, setLO_d, setLO_lst, setLO_nst, setL_dk, setL_ndk, setL_dt, setL_ndt, setLt_ii, setLk_i, w_get, dcOf_dt, gtD_ii, gtD_i, gtO_some, gtO_none, w_maxD, mxDL_1, sqI_tup, mxDO_nil, mxDO_cons, mCount_1, cntO_some, bSortR_1, srtO_some, bMaxT_1, mxTO_cons, ne_eq, wE_ok, wE_no, wE_bind, wE_noex, wE_ite, wS_seq, wS_nx, wS_re, wS_bk, wS_ct, wS_no, wS_then, wS_ite, obl_bl, oint_int, w_seq, w_nil, w_set, w_drop, w_ret, w_retN, w_brk, w_cont, w_if, w_asg,
      eVar, w_c, w_op, w_eB, w_notT, w_andT, w_orT, w_eAnd, w_eOr, w_eNot, w_eNeg, w_eIf, w_chain, w_aNil, w_aCons, w_eVal, w_eFn, w_eMt, w_eTup, w_eLst, w_oNone, w_oSome, w_eSl, w_isN, w_notN, w_gN, w_gSb, w_gT, w_gNil, w_gCons, w_call, w_call0, w_callF, w_mkF, w_retD, w_retR, ipA, w_augS, w_itSeq, w_itL, ort_r, itO_lst, itO_nst, nxL_c, nxO_lst, nxO_nst, nxI_some, nxI_none, nxV_none, nxV_d, nxV_lst, wN_it, wN_stop, wN_no, w_eLRg, w_eRevL, w_par, w_lenSet, bSorted,
      atI_0, atI_1, atI_2, atI_3, atI_4, atI_5, atI_6, ixN_0, ixN_1, ixN_2, ixN_3, ixN_4, ixN_5, ixN_6, eqD_int, eqD_bl, bIsi, tyName, kit_ii, kit_ib, kit_bb, kit_bi, kit_tt, kit_nt, kit_ll, kit_ss, kit_tl, kit_lt, kit_is, kit_bs, kit_ts, kit_ti, kit_tb, kit_si, kit_sb, kit_st, kit_sl, kit_dd, kit_td, kit_ld, kit_ls, kit_li, kit_lb, ite_and, dec_t, mulOk_r, mulOk_l, divOk_of, pow10_18, nab10, news_nil, news_none, news_d, news_r, kill, gcSl, gcRt, gcW, ixOf, roots, renum, pk, put, back, okRoots, nvAt, gTurn, tk_nil, tk_lst, tk_d, tk_dk, tk_dt, tk_nst, tk_ndk, tk_ndt, tk_ins, tk_vw, nv_nil, nv_cons, vw_lst, vw_d, vw_dk, vw_dt, vw_nst, vw_ndk, vw_ndt, vw_ins, vw_vw, off_lst, off_d, off_dk, off_dt, off_nst, off_ndk, off_ndt, off_ins, off_vw, vfz_lst, vfz_d, vfz_dk, vfz_dt, vfz_nst, vfz_ndk, vfz_ndt, vfz_ins, vfz_vw, frz, Option.getD_some, vOf_d, w_yes, lkD_d, lkD_r, toD_lst, toD_d, toD_dk, toD_dt, W.isN,
      gMod_int, gDiv_int, gPow_int, gLt, gLe, gGt, gGe, valsOf, mkTup, mkLst, bInt, bAbs, isLs, isSt, mInsert, mReverse, mClear, itRng, itRng2, itEnum, itEnumA, itZip, seqOf,
      List.getElem?_cons_zero, List.getElem?_cons_succ, List.set_cons_zero, List.set_cons_succ, List.length_cons, List.length_nil, List.map_cons, List.map_nil, List.cons_append, List.nil_append, List.replicate_succ, List.replicate_zero, List.take_succ_cons, List.take_zero, List.take_nil, List.drop_succ_cons, List.drop_zero, List.drop_nil, List.getD_cons_zero, List.getD_cons_succ, List.append_nil, List.singleton_append,
      Option.isSome_some, Option.isSome_none, Option.map_some, Option.map_none, Option.bind_some, List.all_cons, List.all_nil, List.nodup_cons, List.not_mem_nil, List.mem_cons, List.nodup_nil,
      if_true, if_false, ite_true, ite_false, and_true, true_and, or_true, true_or, and_false, false_and, or_false, false_or, not_false_eq_true, not_true_eq_false, Bool.and_true, Bool.true_and, Bool.and_false, Bool.false_and, Bool.not_true, Bool.not_false, reduceIte, Nat.add_zero, Nat.zero_add, Nat.reduceAdd, Nat.reduceSub, Nat.reduceLT, Nat.reduceLeDiff, Nat.reduceEqDiff, Int.reduceLT, Int.reduceLE, Int.reduceEq, Int.reduceNeg, Int.reduceNe, Int.reduceAdd, Int.reduceSub, Int.reduceMul, Nat.reduceMul, Int.reducePow, Int.reduceToNat, List.reduceReplicate, Nat.sub_self, beq_self_eq_true, decide_true, decide_false, Bool.false_eq_true, eq_self, beq_self_eq_true, rd_c, rdO_lst, rdO_d, rdO_dk, rdO_dt, rdO_nst, rdO_ndk, rdO_ndt, rdO_ins, rdO_vw, wr_c, wrO_lst, wrO_d, wrO_dk, wrO_dt, wrO_nst, wrO_ndk, wrO_ndt, wrO_ins, wrO_vw, wrV_some, lc_c, lcO_lst, lcO_d, lcO_dk, lcO_dt, lcO_nst, lcO_ndk, lcO_ndt, lcO_ins, lcO_vw, lsOf_r, lsOf_lst, lsOf_tup, lsOf_ktup, lsOf_str, lsOf_int, lsO_lst, lsO_dl, lsO_nst, lsO_dk, lsO_dt, lsO_ndk, lsO_ndt, tpOf_tup, tpOf_ktup, tpOf_lst, tpOf_str, tpOf_r, okD_some, ixS_some, ixNs_some, gIxV_r, gIxV_lst, gIxV_tup, gIxV_ktup, gIxV_dki, gIxV_dks, ixR_lst, ixR_dl, ixR_nst, ixR_dki, ixR_dks, ixR_ndki, ixR_ndks, ixR_dt_ii, ixR_ndt_ii, ixR_dt, ixR_ndt, keysOf_ii, stepV_d, stepV_lst, stepV_nst, stepV_ins, stepV_dk, stepV_dt, gIxA_r, ixA_lst, ixA_dki, ixA_dks, setN_some, setIx_r, setR_lst, setR_dki, setR_dks, setR_dt, lenD_r, lenD_lst, lenD_tup, lenD_ktup, lenD_str, lenO_lst, lenO_dl, lenO_dk, lenO_dt, lenO_nst, lenO_ndk, lenO_ndt, okN_some, bLen_1, bList_1, tupO_some, bTuple_r, bTuple_lst, bTuple_tup, mAppend_r, appR_lst, mExtend_r, extR_lst, mPop_i, popO_lst, popR_some, addL_some, gAdd_int, gAdd_str, gAdd_tup, gAdd_r, gAdd_l, gAddI_int, gAddI_str, gDif_int, gMul_int, mulL_some, gMul_r, gMul_l, okB_some, gEq_c, gNe_c, cmpI_int, vfW_some, vOf_c, vfO_lst, vfO_d, vfO_dk, vfO_dt, vfO_nst, vfO_ndk, vfO_ndt, vfO_ins, vfO_vw, ty_lst, keyOf_int, keyOf_str, inU_dk, inU_lst, inU_d, inU_dt, inU_ndk, inU_ndt_ii, inD_dt_ii, inW_r, inW_d, inD_lst, inD_tup, gIn_c, gNin_c, bListK_r, trD_r, trD_bl, trD_non, trD_int, trD_tup, trO_lst, trO_dk, w_dk0, w_dt0, w_tr, trP_some, bMin_2, bMax_2, mnO_some, bMin_1, mxO_some, bMax_1, smO_some, bSum_1,
      Option.map_some, Option.map_none])
  | `(tactic| simp_arith [$ls,*]) => `(tactic| simp only [w_eTRg, bMinP_1, mnPO_cons, w_bor, borSl_nil, borSl_cons, Option.bind_none, starQ_some, w_star, seqO_tup, seqO_ktup, seqO_lst, seqO_r, valsOf_map, w_minD, mnDL_1, sqI_lst, sqI_r, mnDO_nil, mnDO_cons, Option.isNone_none, Option.isNone_some, w_lend, w_callLn, w_lendF, w_fld, w_make, w_meth, w_meth0, w_itm, w_setC, w_fldS, lendQ_eq, nonQ_eq, lroots, lendW, lend1, lendO, consO, immR, immW, immO, immOs, immOF, immD, immDs, immDs_int, fldW, fldD, fldS, fldO, fldR, aget_nil, aget_cons, insW_d, insW_r, insO, hasM, gOwnB_eq, bIsC_2, stW, stO, stD, stR, O.toD, O.toDF, List.contains_nil, List.contains_cons, Nat.reduceBEq, Bool.or_false, gInT_c, gNinT_c, inTO_some, bSortT_1, srtIO_some, gLtT_c, ltTO_some, w_fz, w_tidy, w_revK, ktOf_k, isKt_k, mIndexT_1, mIndexL_1, mCountT_1, ixoO_some, bTupleK_1, okT_some, mAppN_d, mAppN_r, appD_lst, appD_nst, appO_d, appO_lst, appO_nst, appL_some, osOf_lst, osOf_nst, noVw_nil, noVw_lst, noVw_nst, noVw_d, noVw_dk, noVw_dt, noVw_ndk, noVw_ndt, noVw_vw, isLsN, w_subN, setIxN_d, setIxN_r, setLO_d, setLO_lst, setLO_nst, setL_dk, setL_ndk, setL_dt, setL_ndt, setLt_ii, setLk_i, w_get, dcOf_dt, gtD_ii, gtD_i, gtO_some, gtO_none, w_maxD, mxDL_1, sqI_tup, mxDO_nil, mxDO_cons, mCount_1, cntO_some, bSortR_1, srtO_some, bMaxT_1, mxTO_cons, ne_eq, wE_ok, wE_no, wE_bind, wE_noex, wE_ite, wS_seq, wS_nx, wS_re, wS_bk, wS_ct, wS_no, wS_then, wS_ite, obl_bl, oint_int, w_seq, w_nil, w_set, w_drop, w_ret, w_retN, w_brk, w_cont, w_if, w_asg,
      eVar, w_c, w_op, w_eB, w_notT, w_andT, w_orT, w_eAnd, w_eOr, w_eNot, w_eNeg, w_eIf, w_chain, w_aNil, w_aCons, w_eVal, w_eFn, w_eMt, w_eTup, w_eLst, w_oNone, w_oSome, w_eSl, w_isN, w_notN, w_gN, w_gSb, w_gT, w_gNil, w_gCons, w_call, w_call0, w_callF, w_mkF, w_retD, w_retR, ipA, w_augS, w_itSeq, w_itL, ort_r, itO_lst, itO_nst, nxL_c, nxO_lst, nxO_nst, nxI_some, nxI_none, nxV_none, nxV_d, nxV_lst, wN_it, wN_stop, wN_no, w_eLRg, w_eRevL, w_par, w_lenSet, bSorted,
      atI_0, atI_1, atI_2, atI_3, atI_4, atI_5, atI_6, ixN_0, ixN_1, ixN_2, ixN_3, ixN_4, ixN_5, ixN_6, eqD_int, eqD_bl, bIsi, tyName, kit_ii, kit_ib, kit_bb, kit_bi, kit_tt, kit_nt, kit_ll, kit_ss, kit_tl, kit_lt, kit_is, kit_bs, kit_ts, kit_ti, kit_tb, kit_si, kit_sb, kit_st, kit_sl, kit_dd, kit_td, kit_ld, kit_ls, kit_li, kit_lb, ite_and, dec_t, mulOk_r, mulOk_l, divOk_of, pow10_18, nab10, news_nil, news_none, news_d, news_r, kill, gcSl, gcRt, gcW, ixOf, roots, renum, pk, put, back, okRoots, nvAt, gTurn, tk_nil, tk_lst, tk_d, tk_dk, tk_dt, tk_nst, tk_ndk, tk_ndt, tk_ins, tk_vw, nv_nil, nv_cons, vw_lst, vw_d, vw_dk, vw_dt, vw_nst, vw_ndk, vw_ndt, vw_ins, vw_vw, off_lst, off_d, off_dk, off_dt, off_nst, off_ndk, off_ndt, off_ins, off_vw, vfz_lst, vfz_d, vfz_dk, vfz_dt, vfz_nst, vfz_ndk, vfz_ndt, vfz_ins, vfz_vw, frz, Option.getD_some, vOf_d, w_yes, lkD_d, lkD_r, toD_lst, toD_d, toD_dk, toD_dt, W.isN,
      gMod_int, gDiv_int, gPow_int, gLt, gLe, gGt, gGe, valsOf, mkTup, mkLst, bInt, bAbs, isLs, isSt, mInsert, mReverse, mClear, itRng, itRng2, itEnum, itEnumA, itZip, seqOf,
      List.getElem?_cons_zero, List.getElem?_cons_succ, List.set_cons_zero, List.set_cons_succ, List.length_cons, List.length_nil, List.map_cons, List.map_nil, List.cons_append, List.nil_append, List.replicate_succ, List.replicate_zero, List.take_succ_cons, List.take_zero, List.take_nil, List.drop_succ_cons, List.drop_zero, List.drop_nil, List.getD_cons_zero, List.getD_cons_succ, List.append_nil, List.singleton_append,
      Option.isSome_some, Option.isSome_none, Option.map_some, Option.map_none, Option.bind_some, List.all_cons, List.all_nil, List.nodup_cons, List.not_mem_nil, List.mem_cons, List.nodup_nil,
      if_true, if_false, ite_true, ite_false, and_true, true_and, or_true, true_or, and_false, false_and, or_false, false_or, not_false_eq_true, not_true_eq_false, Bool.and_true, Bool.true_and, Bool.and_false, Bool.false_and, Bool.not_true, Bool.not_false, reduceIte, Nat.add_zero, Nat.zero_add, Nat.reduceAdd, Nat.reduceSub, Nat.reduceLT, Nat.reduceLeDiff, Nat.reduceEqDiff, Int.reduceLT, Int.reduceLE, Int.reduceEq, Int.reduceNeg, Int.reduceNe, Int.reduceAdd, Int.reduceSub, Int.reduceMul, Nat.reduceMul, Int.reducePow, Int.reduceToNat, List.reduceReplicate, Nat.sub_self, beq_self_eq_true, decide_true, decide_false, Bool.false_eq_true, eq_self, beq_self_eq_true, rd_c, rdO_lst, rdO_d, rdO_dk, rdO_dt, rdO_nst, rdO_ndk, rdO_ndt, rdO_ins, rdO_vw, wr_c, wrO_lst, wrO_d, wrO_dk, wrO_dt, wrO_nst, wrO_ndk, wrO_ndt, wrO_ins, wrO_vw, wrV_some, lc_c, lcO_lst, lcO_d, lcO_dk, lcO_dt, lcO_nst, lcO_ndk, lcO_ndt, lcO_ins, lcO_vw, lsOf_r, lsOf_lst, lsOf_tup, lsOf_ktup, lsOf_str, lsOf_int, lsO_lst, lsO_dl, lsO_nst, lsO_dk, lsO_dt, lsO_ndk, lsO_ndt, tpOf_tup, tpOf_ktup, tpOf_lst, tpOf_str, tpOf_r, okD_some, ixS_some, ixNs_some, gIxV_r, gIxV_lst, gIxV_tup, gIxV_ktup, gIxV_dki, gIxV_dks, ixR_lst, ixR_dl, ixR_nst, ixR_dki, ixR_dks, ixR_ndki, ixR_ndks, ixR_dt_ii, ixR_ndt_ii, ixR_dt, ixR_ndt, keysOf_ii, stepV_d, stepV_lst, stepV_nst, stepV_ins, stepV_dk, stepV_dt, gIxA_r, ixA_lst, ixA_dki, ixA_dks, setN_some, setIx_r, setR_lst, setR_dki, setR_dks, setR_dt, lenD_r, lenD_lst, lenD_tup, lenD_ktup, lenD_str, lenO_lst, lenO_dl, lenO_dk, lenO_dt, lenO_nst, lenO_ndk, lenO_ndt, okN_some, bLen_1, bList_1, tupO_some, bTuple_r, bTuple_lst, bTuple_tup, mAppend_r, appR_lst, mExtend_r, extR_lst, mPop_i, popO_lst, popR_some, addL_some, gAdd_int, gAdd_str, gAdd_tup, gAdd_r, gAdd_l, gAddI_int, gAddI_str, gDif_int, gMul_int, mulL_some, gMul_r, gMul_l, okB_some, gEq_c, gNe_c, cmpI_int, vfW_some, vOf_c, vfO_lst, vfO_d, vfO_dk, vfO_dt, vfO_nst, vfO_ndk, vfO_ndt, vfO_ins, vfO_vw, ty_lst, keyOf_int, keyOf_str, inU_dk, inU_lst, inU_d, inU_dt, inU_ndk, inU_ndt_ii, inD_dt_ii, inW_r, inW_d, inD_lst, inD_tup, gIn_c, gNin_c, bListK_r, trD_r, trD_bl, trD_non, trD_int, trD_tup, trO_lst, trO_dk, w_dk0, w_dt0, w_tr, trP_some, bMin_2, bMax_2, mnO_some, bMin_1, mxO_some, bMax_1, smO_some, bSum_1,
      Option.map_some, Option.map_none, $ls,*])
  | `(tactic| simp_arith $l:location) => `(tactic| simp only [w_eTRg, bMinP_1, mnPO_cons, w_bor, borSl_nil, borSl_cons, Option.bind_none, starQ_some, w_star, seqO_tup, seqO_ktup, seqO_lst, seqO_r, valsOf_map, w_minD, mnDL_1, sqI_lst, sqI_r, mnDO_nil, mnDO_cons, Option.isNone_none, Option.isNone_some, w_lend, w_callLn, w_lendF, w_fld, w_make, w_meth, w_meth0, w_itm, w_setC, w_fldS, lendQ_eq, nonQ_eq, lroots, lendW, lend1, lendO, consO, immR, immW, immO, immOs, immOF, immD, immDs, immDs_int, fldW, fldD, fldS, fldO, fldR, aget_nil, aget_cons, insW_d, insW_r, insO, hasM, gOwnB_eq, bIsC_2, stW, stO, stD, stR, O.toD, O.toDF, List.contains_nil, List.contains_cons, Nat.reduceBEq, Bool.or_false, gInT_c, gNinT_c, inTO_some, bSortT_1, srtIO_some, gLtT_c, ltTO_some, w_fz, w_tidy, w_revK, ktOf_k, isKt_k, mIndexT_1, mIndexL_1, mCountT_1, ixoO_some, bTupleK_1, okT_some, mAppN_d, mAppN_r, appD_lst, appD_nst, appO_d, appO_lst, appO_nst, appL_some, osOf_lst, osOf_nst, noVw_nil, noVw_lst, noVw_nst, noVw_d, noVw_dk, noVw_dt, noVw_ndk, noVw_ndt, noVw_vw, isLsN, w_subN, setIxN_d, setIxN_r, setLO_d, setLO_lst, setLO_nst, setL_dk, setL_ndk, setL_dt, setL_ndt, setLt_ii, setLk_i, w_get, dcOf_dt, gtD_ii, gtD_i, gtO_some, gtO_none, w_maxD, mxDL_1, sqI_tup, mxDO_nil, mxDO_cons, mCount_1, cntO_some, bSortR_1, srtO_some, bMaxT_1, mxTO_cons, ne_eq, wE_ok, wE_no, wE_bind, wE_noex, wE_ite, wS_seq, wS_nx, wS_re, wS_bk, wS_ct, wS_no, wS_then, wS_ite, obl_bl, oint_int, w_seq, w_nil, w_set, w_drop, w_ret, w_retN, w_brk, w_cont, w_if, w_asg,
      eVar, w_c, w_op, w_eB, w_notT, w_andT, w_orT, w_eAnd, w_eOr, w_eNot, w_eNeg, w_eIf, w_chain, w_aNil, w_aCons, w_eVal, w_eFn, w_eMt, w_eTup, w_eLst, w_oNone, w_oSome, w_eSl, w_isN, w_notN, w_gN, w_gSb, w_gT, w_gNil, w_gCons, w_call, w_call0, w_callF, w_mkF, w_retD, w_retR, ipA, w_augS, w_itSeq, w_itL, ort_r, itO_lst, itO_nst, nxL_c, nxO_lst, nxO_nst, nxI_some, nxI_none, nxV_none, nxV_d, nxV_lst, wN_it, wN_stop, wN_no, w_eLRg, w_eRevL, w_par, w_lenSet, bSorted,
      atI_0, atI_1, atI_2, atI_3, atI_4, atI_5, atI_6, ixN_0, ixN_1, ixN_2, ixN_3, ixN_4, ixN_5, ixN_6, eqD_int, eqD_bl, bIsi, tyName, kit_ii, kit_ib, kit_bb, kit_bi, kit_tt, kit_nt, kit_ll, kit_ss, kit_tl, kit_lt, kit_is, kit_bs, kit_ts, kit_ti, kit_tb, kit_si, kit_sb, kit_st, kit_sl, kit_dd, kit_td, kit_ld, kit_ls, kit_li, kit_lb, ite_and, dec_t, mulOk_r, mulOk_l, divOk_of, pow10_18, nab10, news_nil, news_none, news_d, news_r, kill, gcSl, gcRt, gcW, ixOf, roots, renum, pk, put, back, okRoots, nvAt, gTurn, tk_nil, tk_lst, tk_d, tk_dk, tk_dt, tk_nst, tk_ndk, tk_ndt, tk_ins, tk_vw, nv_nil, nv_cons, vw_lst, vw_d, vw_dk, vw_dt, vw_nst, vw_ndk, vw_ndt, vw_ins, vw_vw, off_lst, off_d, off_dk, off_dt, off_nst, off_ndk, off_ndt, off_ins, off_vw, vfz_lst, vfz_d, vfz_dk, vfz_dt, vfz_nst, vfz_ndk, vfz_ndt, vfz_ins, vfz_vw, frz, Option.getD_some, vOf_d, w_yes, lkD_d, lkD_r, toD_lst, toD_d, toD_dk, toD_dt, W.isN,
      gMod_int, gDiv_int, gPow_int, gLt, gLe, gGt, gGe, valsOf, mkTup, mkLst, bInt, bAbs, isLs, isSt, mInsert, mReverse, mClear, itRng, itRng2, itEnum, itEnumA, itZip, seqOf,
      List.getElem?_cons_zero, List.getElem?_cons_succ, List.set_cons_zero, List.set_cons_succ, List.length_cons, List.length_nil, List.map_cons, List.map_nil, List.cons_append, List.nil_append, List.replicate_succ, List.replicate_zero, List.take_succ_cons, List.take_zero, List.take_nil, List.drop_succ_cons, List.drop_zero, List.drop_nil, List.getD_cons_zero, List.getD_cons_succ, List.append_nil, List.singleton_append,
      Option.isSome_some, Option.isSome_none, Option.map_some, Option.map_none, Option.bind_some, List.all_cons, List.all_nil, List.nodup_cons, List.not_mem_nil, List.mem_cons, List.nodup_nil,
      if_true, if_false, ite_true, ite_false, and_true, true_and, or_true, true_or, and_false, false_and, or_false, false_or, not_false_eq_true, not_true_eq_false, Bool.and_true, Bool.true_and, Bool.and_false, Bool.false_and, Bool.not_true, Bool.not_false, reduceIte, Nat.add_zero, Nat.zero_add, Nat.reduceAdd, Nat.reduceSub, Nat.reduceLT, Nat.reduceLeDiff, Nat.reduceEqDiff, Int.reduceLT, Int.reduceLE, Int.reduceEq, Int.reduceNeg, Int.reduceNe, Int.reduceAdd, Int.reduceSub, Int.reduceMul, Nat.reduceMul, Int.reducePow, Int.reduceToNat, List.reduceReplicate, Nat.sub_self, beq_self_eq_true, decide_true, decide_false, Bool.false_eq_true, eq_self, beq_self_eq_true, rd_c, rdO_lst, rdO_d, rdO_dk, rdO_dt, rdO_nst, rdO_ndk, rdO_ndt, rdO_ins, rdO_vw, wr_c, wrO_lst, wrO_d, wrO_dk, wrO_dt, wrO_nst, wrO_ndk, wrO_ndt, wrO_ins, wrO_vw, wrV_some, lc_c, lcO_lst, lcO_d, lcO_dk, lcO_dt, lcO_nst, lcO_ndk, lcO_ndt, lcO_ins, lcO_vw, lsOf_r, lsOf_lst, lsOf_tup, lsOf_ktup, lsOf_str, lsOf_int, lsO_lst, lsO_dl, lsO_nst, lsO_dk, lsO_dt, lsO_ndk, lsO_ndt, tpOf_tup, tpOf_ktup, tpOf_lst, tpOf_str, tpOf_r, okD_some, ixS_some, ixNs_some, gIxV_r, gIxV_lst, gIxV_tup, gIxV_ktup, gIxV_dki, gIxV_dks, ixR_lst, ixR_dl, ixR_nst, ixR_dki, ixR_dks, ixR_ndki, ixR_ndks, ixR_dt_ii, ixR_ndt_ii, ixR_dt, ixR_ndt, keysOf_ii, stepV_d, stepV_lst, stepV_nst, stepV_ins, stepV_dk, stepV_dt, gIxA_r, ixA_lst, ixA_dki, ixA_dks, setN_some, setIx_r, setR_lst, setR_dki, setR_dks, setR_dt, lenD_r, lenD_lst, lenD_tup, lenD_ktup, lenD_str, lenO_lst, lenO_dl, lenO_dk, lenO_dt, lenO_nst, lenO_ndk, lenO_ndt, okN_some, bLen_1, bList_1, tupO_some, bTuple_r, bTuple_lst, bTuple_tup, mAppend_r, appR_lst, mExtend_r, extR_lst, mPop_i, popO_lst, popR_some, addL_some, gAdd_int, gAdd_str, gAdd_tup, gAdd_r, gAdd_l, gAddI_int, gAddI_str, gDif_int, gMul_int, mulL_some, gMul_r, gMul_l, okB_some, gEq_c, gNe_c, cmpI_int, vfW_some, vOf_c, vfO_lst, vfO_d, vfO_dk, vfO_dt, vfO_nst, vfO_ndk, vfO_ndt, vfO_ins, vfO_vw, ty_lst, keyOf_int, keyOf_str, inU_dk, inU_lst, inU_d, inU_dt, inU_ndk, inU_ndt_ii, inD_dt_ii, inW_r, inW_d, inD_lst, inD_tup, gIn_c, gNin_c, bListK_r, trD_r, trD_bl, trD_non, trD_int, trD_tup, trO_lst, trO_dk, w_dk0, w_dt0, w_tr, trP_some, bMin_2, bMax_2, mnO_some, bMin_1, mxO_some, bMax_1, smO_some, bSum_1,
      Option.map_some, Option.map_none] $l)
  | `(tactic| simp_arith [$ls,*] $l:location) => `(tactic| simp only [w_eTRg, bMinP_1, mnPO_cons, w_bor, borSl_nil, borSl_cons, Option.bind_none, starQ_some, w_star, seqO_tup, seqO_ktup, seqO_lst, seqO_r, valsOf_map, w_minD, mnDL_1, sqI_lst, sqI_r, mnDO_nil, mnDO_cons, Option.isNone_none, Option.isNone_some, w_lend, w_callLn, w_lendF, w_fld, w_make, w_meth, w_meth0, w_itm, w_setC, w_fldS, lendQ_eq, nonQ_eq, lroots, lendW, lend1, lendO, consO, immR, immW, immO, immOs, immOF, immD, immDs, immDs_int, fldW, fldD, fldS, fldO, fldR, aget_nil, aget_cons, insW_d, insW_r, insO, hasM, gOwnB_eq, bIsC_2, stW, stO, stD, stR, O.toD, O.toDF, List.contains_nil, List.contains_cons, Nat.reduceBEq, Bool.or_false, gInT_c, gNinT_c, inTO_some, bSortT_1, srtIO_some, gLtT_c, ltTO_some, w_fz, w_tidy, w_revK, ktOf_k, isKt_k, mIndexT_1, mIndexL_1, mCountT_1, ixoO_some, bTupleK_1, okT_some, mAppN_d, mAppN_r, appD_lst, appD_nst, appO_d, appO_lst, appO_nst, appL_some, osOf_lst, osOf_nst, noVw_nil, noVw_lst, noVw_nst, noVw_d, noVw_dk, noVw_dt, noVw_ndk, noVw_ndt, noVw_vw, isLsN, w_subN, setIxN_d, setIxN_r, setLO_d, setLO_lst, setLO_nst, setL_dk, setL_ndk, setL_dt, setL_ndt, setLt_ii, setLk_i, w_get, dcOf_dt, gtD_ii, gtD_i, gtO_some, gtO_none, w_maxD, mxDL_1, sqI_tup, mxDO_nil, mxDO_cons, mCount_1, cntO_some, bSortR_1, srtO_some, bMaxT_1, mxTO_cons, ne_eq, wE_ok, wE_no, wE_bind, wE_noex, wE_ite, wS_seq, wS_nx, wS_re, wS_bk, wS_ct, wS_no, wS_then, wS_ite, obl_bl, oint_int, w_seq, w_nil, w_set, w_drop, w_ret, w_retN, w_brk, w_cont, w_if, w_asg,
      eVar, w_c, w_op, w_eB, w_notT, w_andT, w_orT, w_eAnd, w_eOr, w_eNot, w_eNeg, w_eIf, w_chain, w_aNil, w_aCons, w_eVal, w_eFn, w_eMt, w_eTup, w_eLst, w_oNone, w_oSome, w_eSl, w_isN, w_notN, w_gN, w_gSb, w_gT, w_gNil, w_gCons, w_call, w_call0, w_callF, w_mkF, w_retD, w_retR, ipA, w_augS, w_itSeq, w_itL, ort_r, itO_lst, itO_nst, nxL_c, nxO_lst, nxO_nst, nxI_some, nxI_none, nxV_none, nxV_d, nxV_lst, wN_it, wN_stop, wN_no, w_eLRg, w_eRevL, w_par, w_lenSet, bSorted,
      atI_0, atI_1, atI_2, atI_3, atI_4, atI_5, atI_6, ixN_0, ixN_1, ixN_2, ixN_3, ixN_4, ixN_5, ixN_6, eqD_int, eqD_bl, bIsi, tyName, kit_ii, kit_ib, kit_bb, kit_bi, kit_tt, kit_nt, kit_ll, kit_ss, kit_tl, kit_lt, kit_is, kit_bs, kit_ts, kit_ti, kit_tb, kit_si, kit_sb, kit_st, kit_sl, kit_dd, kit_td, kit_ld, kit_ls, kit_li, kit_lb, ite_and, dec_t, mulOk_r, mulOk_l, divOk_of, pow10_18, nab10, news_nil, news_none, news_d, news_r, kill, gcSl, gcRt, gcW, ixOf, roots, renum, pk, put, back, okRoots, nvAt, gTurn, tk_nil, tk_lst, tk_d, tk_dk, tk_dt, tk_nst, tk_ndk, tk_ndt, tk_ins, tk_vw, nv_nil, nv_cons, vw_lst, vw_d, vw_dk, vw_dt, vw_nst, vw_ndk, vw_ndt, vw_ins, vw_vw, off_lst, off_d, off_dk, off_dt, off_nst, off_ndk, off_ndt, off_ins, off_vw, vfz_lst, vfz_d, vfz_dk, vfz_dt, vfz_nst, vfz_ndk, vfz_ndt, vfz_ins, vfz_vw, frz, Option.getD_some, vOf_d, w_yes, lkD_d, lkD_r, toD_lst, toD_d, toD_dk, toD_dt, W.isN,
      gMod_int, gDiv_int, gPow_int, gLt, gLe, gGt, gGe, valsOf, mkTup, mkLst, bInt, bAbs, isLs, isSt, mInsert, mReverse, mClear, itRng, itRng2, itEnum, itEnumA, itZip, seqOf,
      List.getElem?_cons_zero, List.getElem?_cons_succ, List.set_cons_zero, List.set_cons_succ, List.length_cons, List.length_nil, List.map_cons, List.map_nil, List.cons_append, List.nil_append, List.replicate_succ, List.replicate_zero, List.take_succ_cons, List.take_zero, List.take_nil, List.drop_succ_cons, List.drop_zero, List.drop_nil, List.getD_cons_zero, List.getD_cons_succ, List.append_nil, List.singleton_append,
      Option.isSome_some, Option.isSome_none, Option.map_some, Option.map_none, Option.bind_some, List.all_cons, List.all_nil, List.nodup_cons, List.not_mem_nil, List.mem_cons, List.nodup_nil,
      if_true, if_false, ite_true, ite_false, and_true, true_and, or_true, true_or, and_false, false_and, or_false, false_or, not_false_eq_true, not_true_eq_false, Bool.and_true, Bool.true_and, Bool.and_false, Bool.false_and, Bool.not_true, Bool.not_false, reduceIte, Nat.add_zero, Nat.zero_add, Nat.reduceAdd, Nat.reduceSub, Nat.reduceLT, Nat.reduceLeDiff, Nat.reduceEqDiff, Int.reduceLT, Int.reduceLE, Int.reduceEq, Int.reduceNeg, Int.reduceNe, Int.reduceAdd, Int.reduceSub, Int.reduceMul, Nat.reduceMul, Int.reducePow, Int.reduceToNat, List.reduceReplicate, Nat.sub_self, beq_self_eq_true, decide_true, decide_false, Bool.false_eq_true, eq_self, beq_self_eq_true, rd_c, rdO_lst, rdO_d, rdO_dk, rdO_dt, rdO_nst, rdO_ndk, rdO_ndt, rdO_ins, rdO_vw, wr_c, wrO_lst, wrO_d, wrO_dk, wrO_dt, wrO_nst, wrO_ndk, wrO_ndt, wrO_ins, wrO_vw, wrV_some, lc_c, lcO_lst, lcO_d, lcO_dk, lcO_dt, lcO_nst, lcO_ndk, lcO_ndt, lcO_ins, lcO_vw, lsOf_r, lsOf_lst, lsOf_tup, lsOf_ktup, lsOf_str, lsOf_int, lsO_lst, lsO_dl, lsO_nst, lsO_dk, lsO_dt, lsO_ndk, lsO_ndt, tpOf_tup, tpOf_ktup, tpOf_lst, tpOf_str, tpOf_r, okD_some, ixS_some, ixNs_some, gIxV_r, gIxV_lst, gIxV_tup, gIxV_ktup, gIxV_dki, gIxV_dks, ixR_lst, ixR_dl, ixR_nst, ixR_dki, ixR_dks, ixR_ndki, ixR_ndks, ixR_dt_ii, ixR_ndt_ii, ixR_dt, ixR_ndt, keysOf_ii, stepV_d, stepV_lst, stepV_nst, stepV_ins, stepV_dk, stepV_dt, gIxA_r, ixA_lst, ixA_dki, ixA_dks, setN_some, setIx_r, setR_lst, setR_dki, setR_dks, setR_dt, lenD_r, lenD_lst, lenD_tup, lenD_ktup, lenD_str, lenO_lst, lenO_dl, lenO_dk, lenO_dt, lenO_nst, lenO_ndk, lenO_ndt, okN_some, bLen_1, bList_1, tupO_some, bTuple_r, bTuple_lst, bTuple_tup, mAppend_r, appR_lst, mExtend_r, extR_lst, mPop_i, popO_lst, popR_some, addL_some, gAdd_int, gAdd_str, gAdd_tup, gAdd_r, gAdd_l, gAddI_int, gAddI_str, gDif_int, gMul_int, mulL_some, gMul_r, gMul_l, okB_some, gEq_c, gNe_c, cmpI_int, vfW_some, vOf_c, vfO_lst, vfO_d, vfO_dk, vfO_dt, vfO_nst, vfO_ndk, vfO_ndt, vfO_ins, vfO_vw, ty_lst, keyOf_int, keyOf_str, inU_dk, inU_lst, inU_d, inU_dt, inU_ndk, inU_ndt_ii, inD_dt_ii, inW_r, inW_d, inD_lst, inD_tup, gIn_c, gNin_c, bListK_r, trD_r, trD_bl, trD_non, trD_int, trD_tup, trO_lst, trO_dk, w_dk0, w_dt0, w_tr, trP_some, bMin_2, bMax_2, mnO_some, bMin_1, mxO_some, bMax_1, smO_some, bSum_1,
      Option.map_some, Option.map_none, $ls,*] $l)
section
variable [CA]





def IsBag (g : List D) : Prop := ∃ (cells : List Int) (a : Nat) (b c d e : Int), g = [.lst (cells.map D.int), .int a, .int b, .int c, .int d, .int e] ∧ 0 ≤ b 
theorem IsBag.mk {cells : List Int} {a b c d e : Int} (ha : 0 ≤ a) (hb : 0 ≤ b) : IsBag [.lst (cells.map D.int), .int a, .int b, .int c, .int d, .int e] :=
  ⟨cells, a.toNat, b, c, d, e, by rw [Int.toNat_of_nonneg ha], hb⟩
theorem draw_ok {g : List D} {many : Int} (h : IsBag g) (hd : divOk many = true) : wE (m__law_draw [.r 0, .d (.int many)] [.lst g]) fun x rt => ∃ v g', x = .d (.int v) ∧ rt = [.lst g'] ∧ IsBag g' ∧ 0 ≤ v ∧ v < many := by
  have hm := divOk_pos hd
  obtain ⟨cells, a, b, c, d, e, rfl, hb⟩ := h
  unfold m__law_draw b__law_draw
  simp only [w_mkF]
  refine w_cut (fun sl rt => ∃ x g', sl = [some (.r 0), some (.d (.int many)), x, none, none, none, none] ∧ rt = [.lst g'] ∧ IsBag g') ?_ ?_
  · simp_arith
    have stop : ∀ (e : Int), ∃ x g', ([some (W.r 0), some (W.d (D.int many)), none, none, none, none, none] : Sl) = [some (W.r 0), some (W.d (D.int many)), x, none, none, none, none] ∧
        [O.lst [D.lst (List.map D.int cells), D.int a, D.int b, D.int c, D.int d, D.int e]] = [O.lst g'] ∧ IsBag g' := fun e => ⟨none, _, rfl, rfl, IsBag.mk (by omega) hb⟩
    split
    · split
      · split
        · rename_i hlt
          rw [List.length_map] at hlt
          have hx : atI (List.map D.int cells) (a : Int) = some (.int (cells[a]'(by omega))) := by rw [atI_ofNat, List.getElem?_map, List.getElem?_eq_getElem (by omega)]; rfl
          generalize cells[a]'(by omega) = x at hx
          simp_arith [hx, kont]
          split
          · exact ⟨_, _, rfl, rfl, IsBag.mk (by omega) (by omega)⟩
          · exact ⟨_, _, rfl, rfl, IsBag.mk (by omega) hb⟩
        · exact stop _
      · exact stop _
    · exact stop _
  · rintro _ _ ⟨x, g', rfl, rfl, cells, a, b, c, d, e, rfl, hb⟩
    refine w_cut (fun sl rt => ∃ x g', sl = [some (.r 0), some (.d (.int many)), x, none, none, none, none] ∧ rt = [.lst g'] ∧ IsBag g') ?_ ?_
    · simp_arith
      split
      · simp_arith [kont]
        refine ⟨hm, hd, _, _, rfl, rfl, IsBag.mk (by omega) (Int.ediv_nonneg hb (by omega)), Int.emod_nonneg _ (by omega), Int.emod_lt_of_pos _ hm⟩
      · exact ⟨_, _, rfl, rfl, IsBag.mk (by omega) hb⟩
    · rintro _ _ ⟨x, g', rfl, rfl, cells, a, b, c, d, e, rfl, hb⟩
      refine w_cut (fun sl rt => ∃ x g', sl = [some (.r 0), some (.d (.int many)), x, none, none, none, none] ∧ rt = [.lst g'] ∧ IsBag g') ?_ ?_
      · simp_arith
        exact ⟨_, _, rfl, rfl, IsBag.mk (by omega) hb⟩
      · rintro _ _ ⟨x, g', rfl, rfl, cells, a, b, c, d, e, rfl, hb⟩
        refine w_cut (fun sl rt => ∃ x g', sl = [some (.r 0), some (.d (.int many)), x, none, none, none, none] ∧ rt = [.lst g'] ∧ IsBag g') ?_ ?_
        · simp_arith
          split
          · exact ⟨_, _, rfl, rfl, IsBag.mk (by omega) hb⟩
          · exact ⟨_, _, rfl, rfl, IsBag.mk (by omega) hb⟩
        · rintro _ _ ⟨x, g', rfl, rfl, cells, a, b, c, d, e, rfl, hb⟩
          refine w_cut (fun sl rt => ∃ f, sl = [some (.r 0), some (.d (.int many)), x, none, some (.d (.int f)), none, none] ∧ rt = [O.lst [D.lst (List.map D.int cells), D.int a, D.int b, D.int c, D.int d, D.int e]] ∧ 0 ≤ f ∧ f < 2147483647) ?_ ?_
          · simp_arith
            exact ⟨_, rfl, Int.emod_nonneg _ (by omega), Int.emod_lt_of_pos _ (by omega)⟩
          · rintro _ _ ⟨f, rfl, rfl, f0, f1⟩
            refine w_cut (fun sl rt => ∃ g, sl = [some (.r 0), some (.d (.int many)), x, none, some (.d (.int f)), some (.d (.int g)), none] ∧ rt = [O.lst [D.lst (List.map D.int cells), D.int a, D.int b, D.int c, D.int d, D.int e]] ∧ 0 ≤ g ∧ g < 2147483399) ?_ ?_
            · simp_arith
              exact ⟨mulOk_r (by omega) (by omega), _, rfl, Int.emod_nonneg _ (by omega), Int.emod_lt_of_pos _ (by omega)⟩
            · rintro _ _ ⟨g, rfl, rfl, g0, g1⟩
              refine w_cut (fun sl rt => ∃ h, sl = [some (.r 0), some (.d (.int many)), x, none, some (.d (.int f)), some (.d (.int g)), some (.d (.int h))] ∧ rt = [O.lst [D.lst (List.map D.int cells), D.int a, D.int b, D.int c, D.int d, D.int e]]) ?_ ?_
              · simp_arith
                exact ⟨mulOk_r (by omega) (by omega), _, rfl⟩
              · rintro _ _ ⟨h, rfl, rfl⟩
                simp_arith
                exact ⟨hm, _, _, rfl, rfl, IsBag.mk (by omega) hb, Int.emod_nonneg _ (by omega), Int.emod_lt_of_pos _ hm⟩







theorem bag_ok (ns : List Int) (hn : ns.length ≤ 63) : wE (m__law_bag [.d (.fz (ns.map D.int))] []) fun x rt => x = .r 0 ∧ ∃ g, rt = [.lst g] ∧ IsBag g := by
  unfold m__law_bag b__law_bag
  simp only [w_mkF]
  simp_arith
  refine w_compF (fun x => match x with | .int n => some (.int (if n < 0 then -n else n)) | _ => none) ?_
  simp_arith
  refine ⟨by rw [List.length_map]; omega, ?_, ?_⟩
  · intro i x acc hx
    obtain ⟨n, _, _, rfl⟩ := mem_at hx
    unfold b__law_bag_1
    simp_arith
  · have e : (List.map D.int ns).filterMap (fun x => match x with | .int n => some (.int (if n < 0 then -n else n)) | _ => none) = (ns.map fun n => if n < 0 then -n else n).map D.int := by
      rw [List.filterMap_map, List.map_map, ← List.filterMap_eq_map]
      rfl
    rw [e]
    exact ⟨_, rfl, IsBag.mk (a := 0) (by omega) (by omega)⟩
theorem shuffle_ok {g xs : List D} {y : D} (hy : y = .lst xs ∨ y = .tup xs) (hb : IsBag g) (hl : xs.length < 1000000) : wE (m__law_shuffle [.r 0, .d y] [.lst g]) fun x rt => ∃ g' ys, x = .r 1 ∧ rt = [.lst g', .lst ys] ∧ IsBag g' ∧ ys.Perm xs := by
  unfold m__law_shuffle b__law_shuffle
  simp only [w_mkF]
  rcases hy with rfl | rfl
  · simp_arith
    (rw [kont]; simp_arith)
    (rw [kont]; simp_arith)
    refine w_for (fun zs L i sl rt => ∃ (g rest mixed : List D), sl = [some (.r 0), some (.d (.lst xs)), some (.r 1), some (.r 2), none] ∧ rt = [.lst g, .lst rest, .lst mixed] ∧ IsBag g ∧ (mixed ++ rest).Perm xs ∧ mixed.length = i ∧ zs.length = xs.length) ?_
    simp_arith
    refine ⟨by omega, ⟨g, xs, [], rfl, hb, by simp, rfl, by rw [rangeD_len]; simp⟩, ?_, ?_⟩
    · rintro i x sl rt hx ⟨g, rest, mixed, rfl, rfl, hb, hp, hi, hz⟩
      have hi2 := (List.getElem?_eq_some_iff.mp hx).1
      have hpl := hp.length_eq
      rw [List.length_append] at hpl
      unfold b__law_shuffle_1
      simp_arith
      (refine wE.imp (draw_ok hb (divOk_of (by omega) (by omega))) ?_; intro _ _ ⟨v, g', ee1, ee2, h, v0, v1⟩; subst ee1 ee2)
      obtain ⟨a, rfl⟩ := Int.eq_ofNat_of_zero_le v0
      have ha : a < rest.length := by omega
      simp_arith [ixN_nat ha, List.getElem?_eq_getElem ha]
      refine ⟨by omega, by omega, g', rest.eraseIdx a, mixed ++ [rest[a]], rfl, h, ?_, by simp [hi], hz⟩
      rw [List.append_assoc]
      exact ((erase_perm rest a _ (List.getElem?_eq_getElem ha)).append_left mixed).trans hp
    · rintro sl rt ⟨g, rest, mixed, rfl, rfl, hb, hp, hi, hz⟩
      (rw [kont]; simp_arith)
      have hpl := hp.length_eq
      rw [List.length_append] at hpl
      have : rest = [] := List.length_eq_zero_iff.mp (by omega)
      subst this
      rw [List.append_nil] at hp
      exact ⟨_, _, rfl, hb, hp⟩
  · simp_arith
    (rw [kont]; simp_arith)
    (rw [kont]; simp_arith)
    refine w_for (fun zs L i sl rt => ∃ (g rest mixed : List D), sl = [some (.r 0), some (.d (.tup xs)), some (.r 1), some (.r 2), none] ∧ rt = [.lst g, .lst rest, .lst mixed] ∧ IsBag g ∧ (mixed ++ rest).Perm xs ∧ mixed.length = i ∧ zs.length = xs.length) ?_
    simp_arith
    refine ⟨by omega, ⟨g, xs, [], rfl, hb, by simp, rfl, by rw [rangeD_len]; simp⟩, ?_, ?_⟩
    · rintro i x sl rt hx ⟨g, rest, mixed, rfl, rfl, hb, hp, hi, hz⟩
      have hi2 := (List.getElem?_eq_some_iff.mp hx).1
      have hpl := hp.length_eq
      rw [List.length_append] at hpl
      unfold b__law_shuffle_1
      simp_arith
      (refine wE.imp (draw_ok hb (divOk_of (by omega) (by omega))) ?_; intro _ _ ⟨v, g', ee1, ee2, h, v0, v1⟩; subst ee1 ee2)
      obtain ⟨a, rfl⟩ := Int.eq_ofNat_of_zero_le v0
      have ha : a < rest.length := by omega
      simp_arith [ixN_nat ha, List.getElem?_eq_getElem ha]
      refine ⟨by omega, by omega, g', rest.eraseIdx a, mixed ++ [rest[a]], rfl, h, ?_, by simp [hi], hz⟩
      rw [List.append_assoc]
      exact ((erase_perm rest a _ (List.getElem?_eq_getElem ha)).append_left mixed).trans hp
    · rintro sl rt ⟨g, rest, mixed, rfl, rfl, hb, hp, hi, hz⟩
      (rw [kont]; simp_arith)
      have hpl := hp.length_eq
      rw [List.length_append] at hpl
      have : rest = [] := List.length_eq_zero_iff.mp (by omega)
      subst this
      rw [List.append_nil] at hp
      exact ⟨_, _, rfl, hb, hp⟩







theorem whole_ok {v : Int} : wE (m__law_whole [.d (.int v)] []) fun x rt => rt = [] ∧ x = .d (.bl true) := by
  unfold m__law_whole b__law_whole
  simp only [w_mkF]
  simp_arith
def nd (ks : List Nat) : List D := ks.map fun (k : Nat) => D.int (k : Int)
theorem nd_len {ks : List Nat} : (nd ks).length = ks.length := by simp [nd]
theorem nd_at {ks : List Nat} {i : Nat} {x : D} (h : (nd ks)[i]? = some x) : ∃ k, ks[i]? = some k ∧ k ∈ ks ∧ x = .int (k : Int) := mem_at h
theorem nd_range {n : Nat} : rangeD 0 n = nd (List.range n) := rangeD_0
theorem atI_nd {l : List Nat} {k x : Nat} (h : l[k]? = some x) : atI (nd l) (k : Int) = some (.int (x : Int)) := by
  rw [atI_ofNat]; unfold nd; rw [List.getElem?_map, h]; rfl
theorem nd_add {l : List Nat} {x : Nat} : nd l ++ [D.int (x : Int)] = nd (l ++ [x]) := by unfold nd; rw [List.map_append]; rfl
def rwD (r : List Int) : D := .lst (r.map D.int)
def rwO (r : List Int) : O := .lst (r.map D.int)
def costO (M : List (List Int)) : O := .ins C_Costs [("size", .d (.int (M.length : Nat))), ("_rows", .nst (M.map rwO))]
def costD (M : List (List Int)) : D := .obj C_Costs [("size", .int (M.length : Nat)), ("_rows", .lst (M.map rwD))]
theorem rwO_toD (r : List Int) : (rwO r).toD = rwD r := by rw [rwO, O.toD, rwD]
theorem costO_toD {M : List (List Int)} : (costO M).toD = costD M := by
  rw [costO, O.toD, O.toDF, O.toDF, O.toDF, O.toD, O.toD, toDs_map rwO_toD]
  rfl
theorem nsr : ((PySem.Str.ofString "size" : Str) = PySem.Str.ofString "_rows") = False := eq_false (by decide +kernel)
theorem nrs : ((PySem.Str.ofString "_rows" : Str) = PySem.Str.ofString "size") = False := eq_false (by decide +kernel)
theorem ns1 : ((PySem.Str.ofString "size" : Str) = PySem.Str.ofString "_has") = False := eq_false (by decide +kernel)
theorem ns2 : ((PySem.Str.ofString "_rows" : Str) = PySem.Str.ofString "_has") = False := eq_false (by decide +kernel)
theorem ns3 : ((PySem.Str.ofString "size" : Str) = PySem.Str.ofString "put") = False := eq_false (by decide +kernel)
theorem ns4 : ((PySem.Str.ofString "_rows" : Str) = PySem.Str.ofString "put") = False := eq_false (by decide +kernel)
theorem ns5 : ((PySem.Str.ofString "size" : Str) = PySem.Str.ofString "rows") = False := eq_false (by decide +kernel)
theorem ns6 : ((PySem.Str.ofString "_rows" : Str) = PySem.Str.ofString "rows") = False := eq_false (by decide +kernel)
theorem ns7 : ((PySem.Str.ofString "size" : Str) = PySem.Str.ofString "__getitem__") = False := eq_false (by decide +kernel)
theorem ns8 : ((PySem.Str.ofString "_rows" : Str) = PySem.Str.ofString "__getitem__") = False := eq_false (by decide +kernel)
theorem ns9 : ((PySem.Str.ofString "size" : Str) = PySem.Str.ofString "__setitem__") = False := eq_false (by decide +kernel)
theorem ns10 : ((PySem.Str.ofString "_rows" : Str) = PySem.Str.ofString "__setitem__") = False := eq_false (by decide +kernel)
theorem ns11 : ((PySem.Str.ofString "size" : Str) = PySem.Str.ofString "") = False := eq_false (by decide +kernel)
theorem ns12 : ((PySem.Str.ofString "_rows" : Str) = PySem.Str.ofString "") = False := eq_false (by decide +kernel)
theorem has_ok {M : List (List Int)} {a b : Nat} (ha : a < M.length) (hb : b < M.length) (hab : a ≠ b) : wE (m_Costs__has [.d (costD M), .d (.int (a : Int)), .d (.int (b : Int))] []) fun x rt => rt = [] ∧ x = .d (.bl true) := by
  have h1 : ((a : Int) < (M.length : Nat)) := by omega
  have h2 : ((b : Int) < (M.length : Nat)) := by omega
  have h3 : (0 : Int) ≤ (a : Int) := by omega
  have h4 : (0 : Int) ≤ (b : Int) := by omega
  have h5 : ((a : Int) = (b : Int)) = False := eq_false (by omega)
  unfold m_Costs__has b_Costs__has costD
  simp only [w_mkF]
  simp_arith [h1, h2, h3, h4, h5]
theorem atI_map {α : Type} {f : α → D} {l : List α} {k : Nat} {x : α} (h : l[k]? = some x) : atI (l.map f) (k : Int) = some (f x) := by
  rw [atI_ofNat, List.getElem?_map, h]; rfl
theorem costO_vw {M : List (List Int)} : (costO M).isVw = false := rfl
theorem costO_imm {M : List (List Int)} : immO (costO M) = true := by
  unfold costO
  simp only [immO, immOF, immD, immOs_map (g := rwO) (fun a => by rw [rwO, immO, immDs_int]), Bool.and_true]
theorem getR {x y : O} : getP (O.ins C_Costs [(PySem.Str.ofString "size", x), (PySem.Str.ofString "_rows", y)]) [.fld (PySem.Str.ofString "_rows")] = some y := by
  simp only [getP, aget_cons, nsr, if_false, if_true, Option.bind_some, getP_nil]
theorem getR2 {x : O} {os : List O} {a : Nat} {z : O} (h : os[a]? = some z) : getP (O.ins C_Costs [(PySem.Str.ofString "size", x), (PySem.Str.ofString "_rows", .nst os)]) [.fld (PySem.Str.ofString "_rows"), .ix a] = some z := by
  simp only [getP, aget_cons, nsr, if_false, if_true, Option.bind_some, h, getP_nil]
theorem setR2 {x y : O} {os : List O} {a : Nat} {z : O} (h : os[a]? = some z) : setP (O.ins C_Costs [(PySem.Str.ofString "size", x), (PySem.Str.ofString "_rows", .nst os)]) [.fld (PySem.Str.ofString "_rows"), .ix a] y = O.ins C_Costs [(PySem.Str.ofString "size", x), (PySem.Str.ofString "_rows", .nst (os.set a y))] := by
  simp only [setP, aget_cons, aset, nsr, if_false, if_true, h, setP_nil]
theorem rows_ok {M : List (List Int)} (hM : M.length ≤ 1000) : wE (m_Costs_rows [.d (costD M)] []) fun x rt => rt = [] ∧ x = .d (.tup (M.map fun r => .tup (r.map D.int))) := by
  unfold m_Costs_rows b_Costs_rows costD
  simp only [w_mkF]
  simp_arith [nsr]
  refine w_compF (fun x => match x with | .lst r => some (.tup r) | _ => none) ?_
  simp_arith [nsr]
  refine ⟨by rw [List.length_map]; omega, fun i x acc hx => ?_, ?_⟩
  · obtain ⟨r, _, _, rfl⟩ := mem_at hx
    unfold b_Costs_rows_1
    simp_arith [rwD]
  · congr 2
    rw [List.filterMap_map, ← List.filterMap_eq_map]
    rfl
theorem flat_one {α : Type} {x : α} : ∀ {n : Nat}, (List.replicate n [x]).flatten = List.replicate n x
  | 0 => rfl
  | n + 1 => by rw [List.replicate_succ, List.flatten_cons, flat_one, List.replicate_succ]; rfl
theorem fm_const {α β : Type} {z : β} : ∀ {l : List α}, l.filterMap (fun _ => some z) = List.replicate l.length z
  | [] => rfl
  | a :: l => by rw [List.filterMap_cons_some (f := fun _ => some z) (b := z) rfl, fm_const, List.length_cons, List.replicate_succ]
def tab {α : Type} (n : Nat) (f : Nat → Nat → α) : List (List α) := (List.range n).map fun a => (List.range n).map (f a)
def dz (R : List (List Int)) : List (List Int) := tab R.length fun a b => if a = b then 0 else (R.getD a []).getD b 0
def tupM (M : List (List Int)) : D := .tup (M.map fun r => .tup (r.map D.int))
def lstM (M : List (List Int)) : D := .lst (M.map rwD)
def rgF (f : Nat → D) (y : D) : Option D := match y with
  | .int p => some (f p.toNat)
  | _ => none
theorem rgF_nat {f : Nat → D} {p : Nat} : rgF f (.int (p : Int)) = some (f p) := rfl
theorem rgF_all {f : Nat → D} {n : Nat} : (rangeD 0 n).filterMap (rgF f) = (List.range n).map f := by
  rw [rangeD_0]
  induction List.range n with
  | nil => rfl
  | cons a l ih => rw [List.map_cons, List.filterMap_cons, rgF_nat, List.map_cons, ih]
def rgO (f : Nat → O) (y : D) : Option O := match y with
  | .int p => some (f p.toNat)
  | _ => none
theorem rgO_nat {f : Nat → O} {p : Nat} : rgO f (.int (p : Int)) = some (f p) := rfl
theorem rgO_all {f : Nat → O} {n : Nat} : (rangeD 0 n).filterMap (rgO f) = (List.range n).map f := by
  rw [rangeD_0]
  induction List.range n with
  | nil => rfl
  | cons a l ih => rw [List.map_cons, List.filterMap_cons, rgO_nat, List.map_cons, ih]
theorem init_rows_ok {R : List (List Int)} {x : D} (hx : x = lstM R ∨ x = tupM R) (hn : R.length ≤ 1000) (hr : ∀ r ∈ R, r.length = R.length) :
    wE (m_Costs___init__ [.r 0, .d (.int (R.length : Int)), .d x] [.ins C_Costs []]) fun y rt => rt = [costO (dz R)] ∧ y = .d .non := by
  have en : ((R.length : Int)).toNat = R.length := by omega
  have hI : ∀ (rt : List O) (i j : Nat) (Q : W → List O → Prop), i < R.length → j < R.length → Q (.d (.int ((R.getD i []).getD j 0))) rt → wE (gIxV (.d x) (.d (.int (i : Int))) rt) fun y rt => wE (gIxV y (.d (.int (j : Int))) rt) Q := fun rt i j Q hi hj hq => by
    have h1 : R[i]? = some (R.getD i []) := by rw [List.getElem?_eq_getElem hi, List.getD_eq_getElem?_getD, List.getElem?_eq_getElem hi]; rfl
    have hl := hr _ (List.mem_of_getElem? h1)
    generalize R.getD i [] = row at *
    have h2 : row[j]? = some (row.getD j 0) := by rw [List.getElem?_eq_getElem (by omega), List.getD_eq_getElem?_getD, List.getElem?_eq_getElem (by omega)]; rfl
    rcases hx with rfl | rfl
    · rw [lstM]
      simp_arith
      rw [atI_map h1]
      simp_arith [rwD]
      rw [atI_map h2]
      simp_arith
      exact hq
    · rw [tupM]
      simp_arith
      rw [atI_map (f := fun r => D.tup (r.map D.int)) h1]
      simp_arith
      rw [atI_map h2]
      simp_arith
      exact hq
  unfold m_Costs___init__ b_Costs___init__
  simp only [w_mkF]
  simp_arith
  rw [if_neg (by rcases hx with rfl | rfl <;> simp [lstM, tupM])]
  rw [kont]
  simp_arith
  (rw [kont]; simp_arith)
  refine w_compNF (rgO fun a => .lst ((List.range R.length).map fun b => .int (if a = b then 0 else (R.getD a []).getD b 0))) ?_
  simp_arith
  rw [en]
  refine ⟨⟨by omega, by omega⟩, by rw [rangeD_len]; omega, fun i y acc hy hacc => ?_, ?_⟩
  · obtain ⟨hi, rfl⟩ := rangeD_at hy
    unfold b_Costs___init___3
    refine w_compF (rgF fun b => .int (if i = b then 0 else (R.getD i []).getD b 0)) ?_
    simp_arith
    rw [en]
    refine ⟨⟨by omega, by omega⟩, by rw [rangeD_len]; omega, fun j z acc2 hz => ?_, ?_⟩
    · obtain ⟨hj, rfl⟩ := rangeD_at hz
      unfold b_Costs___init___2
      by_cases hij : i = j
      · subst hij
        simp_arith
        rw [rgF_nat, if_pos rfl]
      · have e : ((i : Int) = (j : Int)) = False := eq_false (by omega)
        simp_arith [e]
        refine hI _ i j _ hi hj ?_
        simp_arith
        rw [rgF_nat, if_neg hij]
    · rw [rgF_all]
      exact ⟨⟨rfl, hacc⟩, _, rfl, rfl⟩
  · rw [rgO_all]
    refine ⟨⟨by simp only [nsr, if_false], rfl⟩, ?_⟩
    rw [costO, dz]
    unfold tab
    rw [List.length_map, List.length_range, List.map_map]
    congr 6
    refine List.map_congr_left fun a _ => ?_
    simp only [Function.comp, rwO, List.map_map]
    rfl
theorem of_ok {R : List (List Int)} {x : D} (hx : x = lstM R ∨ x = tupM R) (hn : R.length ≤ 1000) (hr : ∀ r ∈ R, r.length = R.length) :
    wE (m_Costs_of [.d x] []) fun y rt => rt = [costO (dz R)] ∧ y = .r 0 := by
  have hlen : ∀ rt, lenD (W.d x) rt = some R.length := fun rt => by
    rcases hx with rfl | rfl
    · rw [lstM, lenD_lst, List.length_map]
    · rw [tupM, lenD_tup, List.length_map]
  unfold m_Costs_of b_Costs_of
  simp only [w_mkF]
  simp_arith [hlen]
  refine (init_rows_ok hx hn hr).imp ?_
  rintro y rt ⟨rfl, rfl⟩
  rw [lendQ_eq]
  simp_arith [costO_vw, costO_imm]
def sumM (M N : List (List Int)) : List (List Int) := List.zipWith (fun r s => List.zipWith (· + ·) r s) M N
def plF (y : D) : Option D := match y with
  | .tup [.int a, .int b] => some (.int (a + b))
  | _ => none
theorem plF_all : ∀ r s : List Int, (zipD (r.map D.int) (s.map D.int)).filterMap plF = (List.zipWith (· + ·) r s).map D.int
  | [], _ => by simp [zipD]
  | _ :: _, [] => by simp [zipD]
  | a :: r, b :: s => by
    have ih := plF_all r s
    unfold zipD at *
    rw [List.map_cons, List.map_cons, List.zip_cons_cons, List.map_cons, List.filterMap_cons, List.zipWith_cons_cons, List.map_cons]
    show _ :: _ = _
    rw [ih]
def zrF (y : D) : Option D := match y with
  | .tup [.lst xs, .lst ys] => some (.lst ((zipD xs ys).filterMap plF))
  | _ => none
theorem zrF_all : ∀ M N : List (List Int), (zipD (M.map rwD) (N.map rwD)).filterMap zrF = (sumM M N).map rwD
  | [], _ => by simp [zipD, sumM]
  | _ :: _, [] => by simp [zipD, sumM]
  | r :: M, s :: N => by
    have ih := zrF_all M N
    have h1 : zrF (.tup [rwD r, rwD s]) = some (rwD (List.zipWith (· + ·) r s)) := by
      show some (D.lst _) = _
      rw [plF_all]; rfl
    unfold zipD sumM at *
    rw [List.map_cons, List.map_cons, List.zip_cons_cons, List.map_cons, List.filterMap_cons, List.zipWith_cons_cons, List.map_cons, h1, ih]
theorem zip_at {α : Type} {f : α → D} {M N : List α} {i : Nat} {x : D} (h : (zipD (M.map f) (N.map f))[i]? = some x) : ∃ r s, r ∈ M ∧ s ∈ N ∧ x = .tup [f r, f s] := by
  unfold zipD at h
  have hm := List.mem_of_getElem? h
  obtain ⟨⟨a, b⟩, hp, rfl⟩ := List.mem_map.mp hm
  obtain ⟨h1, h2⟩ := List.of_mem_zip hp
  obtain ⟨r, hr, rfl⟩ := List.mem_map.mp h1
  obtain ⟨s, hs, rfl⟩ := List.mem_map.mp h2
  exact ⟨r, s, hr, hs, rfl⟩
theorem zip_len {xs ys : List D} : (zipD xs ys).length ≤ xs.length := by
  unfold zipD
  rw [List.length_map, List.length_zip]
  omega
theorem sumM_len {M N : List (List Int)} (h : M.length = N.length) : (sumM M N).length = M.length := by
  unfold sumM
  rw [List.length_zipWith, h, Nat.min_self]
theorem sumM_row {M N : List (List Int)} {n : Nat} (hm : ∀ r ∈ M, r.length = n) (hn : ∀ r ∈ N, r.length = n) : ∀ r ∈ sumM M N, r.length = n := fun r hr => by
  unfold sumM at hr
  obtain ⟨i, hi, e⟩ := List.getElem_of_mem hr
  rw [List.getElem_zipWith] at e
  rw [← e, List.length_zipWith, hm _ (List.getElem_mem _), hn _ (List.getElem_mem _), Nat.min_self]
theorem add_ok {M N : List (List Int)} (hM : M.length ≤ 1000) (hl : M.length = N.length) (hm : ∀ r ∈ M, r.length = M.length) (hn : ∀ r ∈ N, r.length = M.length) :
    wE (m_Costs___add__ [.d (costD M), .d (costD N)] []) fun y rt => rt = [costO (dz (sumM M N))] ∧ y = .r 0 := by
  unfold m_Costs___add__ b_Costs___add__
  simp only [w_mkF]
  simp_arith
  rw [costD, costD, hl]
  simp_arith
  rw [kont]
  simp_arith [nsr]
  refine w_compF zrF ?_
  simp_arith [nsr]
  refine ⟨Nat.lt_of_le_of_lt zip_len (by rw [List.length_map]; omega), fun i x acc hx => ?_, ?_⟩
  · obtain ⟨r, s, hr, hs, rfl⟩ := zip_at hx
    have hrl := hm r hr
    unfold b_Costs___add___2
    simp_arith
    refine w_compF plF ?_
    simp_arith [rwD]
    refine ⟨Nat.lt_of_le_of_lt zip_len (by rw [List.length_map]; omega), fun j y acc2 hy => ?_, ?_⟩
    · obtain ⟨a, b, _, _, rfl⟩ := zip_at hy
      unfold b_Costs___add___1
      simp_arith
      rfl
    · rfl
  · rw [zrF_all]
    have e : (sumM M N).length = N.length := (sumM_len hl).trans hl
    (rw [kont]; simp_arith)
    rw [← e]
    refine (init_rows_ok (R := sumM M N) (.inl rfl) (by omega) (by rw [sumM_len hl]; exact sumM_row hm hn)).imp ?_
    rintro y rt ⟨rfl, rfl⟩
    rw [lendQ_eq]
    simp_arith [costO_vw, costO_imm]
theorem tab_len {α : Type} {n : Nat} {f : Nat → Nat → α} : (tab n f).length = n := by simp [tab]
theorem tab_at {α : Type} {n a : Nat} {f : Nat → Nat → α} (h : a < n) : (tab n f)[a]? = some ((List.range n).map (f a)) := by
  unfold tab
  rw [List.getElem?_map, List.getElem?_range h]; rfl
theorem row_at {α : Type} {n b : Nat} {g : Nat → α} (h : b < n) : ((List.range n).map g)[b]? = some (g b) := by
  rw [List.getElem?_map, List.getElem?_range h]; rfl
theorem tab_congr {α : Type} {n : Nat} {f g : Nat → Nat → α} (h : ∀ a, a < n → ∀ b, b < n → f a b = g a b) : tab n f = tab n g := by
  unfold tab
  refine List.map_congr_left fun a ha => List.map_congr_left fun b hb => h a (List.mem_range.mp ha) b (List.mem_range.mp hb)
theorem row_set {α : Type} {n j : Nat} {g : Nat → α} {c : α} : ((List.range n).map g).set j c = (List.range n).map fun b => if b = j then c else g b := by
  refine List.ext_getElem? fun k => ?_
  rw [List.getElem?_set, List.getElem?_map, List.getElem?_map]
  by_cases hk : k < n
  · rw [List.getElem?_range hk]
    by_cases e : j = k
    · subst e; simp [hk]
    · simp [e, Ne.symm e]
  · rw [List.getElem?_eq_none (by simpa using hk)]
    by_cases e : j = k
    · subst e; simp [hk]
    · simp [e]
theorem tab_set {α : Type} {n i j : Nat} {f : Nat → Nat → α} {c : α} : (tab n f).set i (((List.range n).map (f i)).set j c) = tab n fun a b => if a = i ∧ b = j then c else f a b := by
  unfold tab
  rw [row_set, row_set]
  refine List.map_congr_left fun a _ => ?_
  by_cases e : a = i
  · subst e; simp
  · simp [e]
theorem same_int (k : Nat) (v : Int) : wE (m__law_same (k + 1) [.d (.int v), .d (.int v)] []) fun x rt => rt = [] ∧ x = .d (.bl true) := by
  unfold m__law_same b__law_same
  simp only [w_mkF]
  simp_arith
  (rw [kont]; simp_arith)
  (rw [kont]; simp_arith)
  refine whole_ok.imp ?_
  rintro _ _ ⟨rfl, rfl⟩
  simp_arith
theorem same_tup (k : Nat) {xs : List D} (hl : xs.length ≤ 1000) (h : ∀ x ∈ xs, wE (m__law_same (k + 1) [.d x, .d x] []) fun x rt => rt = [] ∧ x = .d (.bl true)) : wE (m__law_same (k + 2) [.d (.tup xs), .d (.tup xs)] []) fun x rt => rt = [] ∧ x = .d (.bl true) := by
  unfold m__law_same b__law_same
  simp only [w_mkF]
  simp_arith
  (rw [kont]; simp_arith)
  (rw [kont]; simp_arith)
  (rw [kont]; simp_arith)
  (rw [kont]; simp_arith)
  (rw [kont]; simp_arith)
  (rw [kont]; simp_arith)
  rw [kont]
  rw [w_seq]
  refine w_for (fun ys L i sl rt => ys.length = xs.length ∧ sl = [some (.d (.tup xs)), some (.d (.tup xs)), none, none] ∧ rt = []) ?_
  simp_arith
  refine ⟨by omega, by rw [rangeD_len]; omega, ?_, ?_⟩
  · rintro i x sl rt hx ⟨hxl, rfl, rfl⟩
    obtain ⟨hi, rfl⟩ := rangeD_at hx
    have hi : i < xs.length := by omega
    have ha : atI xs (i : Int) = some xs[i] := by rw [atI_ofNat, List.getElem?_eq_getElem hi]
    have hx := h _ (List.getElem_mem hi)
    generalize xs[i] = y at *
    unfold b__law_same_1
    simp_arith [ha]
    refine hx.imp ?_
    rintro _ _ ⟨rfl, rfl⟩
    simp_arith
    exact hxl
  · rintro sl rt ⟨_, rfl, rfl⟩
    rw [kont]
    simp_arith
theorem same_rows (k : Nat) {M : List (List Int)} (hl : M.length ≤ 1000) (hr : ∀ r ∈ M, r.length ≤ 1000) : wE (m__law_same (k + 3) [.d (tupM M), .d (tupM M)] []) fun x rt => rt = [] ∧ x = .d (.bl true) := by
  refine same_tup (k + 1) (by rw [List.length_map]; exact hl) fun x hx => ?_
  obtain ⟨r, hm, rfl⟩ := List.mem_map.mp hx
  refine same_tup k (by rw [List.length_map]; exact hr r hm) fun y hy => ?_
  obtain ⟨v, _, rfl⟩ := List.mem_map.mp hy
  exact same_int k v
def ent (R : List (List Int)) (a b : Nat) : Int := (R.getD a []).getD b 0
theorem intsOf_map : ∀ l : List Int, intsOf (l.map D.int) = some l
  | [] => rfl
  | a :: l => by rw [List.map_cons, intsOf, intsOf_map l]; rfl
def tlF (y : D) : Option D := match y with
  | .lst r => some (.tup r)
  | _ => none
theorem tlF_all : ∀ R : List (List Int), (R.map rwD).filterMap tlF = R.map fun r => D.tup (r.map D.int)
  | [] => rfl
  | r :: R => by
    rw [List.map_cons, List.filterMap_cons, List.map_cons, ← tlF_all R]
    rfl
def rowsO (R : List (List Int)) : O := match R with
  | [] => .lst []
  | _ => .nst (R.map rwO)
theorem rowsO_vw {R : List (List Int)} : (rowsO R).isVw = false := by cases R <;> rfl
theorem rowsO_tk {n : Nat} {R : List (List Int)} {l : List O} : tkOk n (rowsO R :: l) = tkOk n l := by cases R <;> rfl
structure SqZ (n : Nat) (R : List (List Int)) : Prop where
  row : ∀ (k : Nat) (r : List Int), R[k]? = some r → r.length = n ∧ r[k]? = some 0 ∧ ∀ v ∈ r, 0 ≤ v
structure SqU (n : Nat) (R : List (List Int)) : Prop where
  row : ∀ (k : Nat) (r : List Int), R[k]? = some r → r.length = n ∧ r[k]? = some 0 ∧ ∀ v ∈ r, 0 ≤ v ∧ v ≤ 1000000000
theorem SqU.z {n : Nat} {R : List (List Int)} (h : SqU n R) : SqZ n R := ⟨fun k r e => let ⟨h1, h2, h3⟩ := h.row k r e; ⟨h1, h2, fun v hv => (h3 v hv).1⟩⟩
theorem cost_rows_ok {g : List D} (hb : IsBag g) {n : Nat} (hn : n ≤ 1000) : wE (m__law_cost_rows [.r 0, .d (.int (n : Int))] [.lst g]) fun x rt => ∃ g' R, x = .r 1 ∧ rt = [.lst g', rowsO R] ∧ IsBag g' ∧ R.length = n ∧ SqU n R := by
  unfold m__law_cost_rows b__law_cost_rows
  simp only [w_mkF]
  simp_arith
  (refine wE.imp (draw_ok hb (divOk_of (by omega) (by omega))) ?_; intro _ _ ⟨w, g1, ee1, ee2, hb, w0, w1⟩; subst ee1 ee2)
  simp_arith
  rw [kont]
  simp_arith
  rw [kont, w_seq]
  refine w_for (fun xs L a sl rt => ∃ g R, IsBag g ∧ R.length = a ∧ SqU n R ∧ xs = rangeD 0 n ∧ L = 2 ∧ sl = [some (.r 0), some (.d (.int (n : Int))), some (.d (.int w)), some (.r 1), none, none, none, none] ∧ rt = [.lst g, rowsO R]) ?_
  simp_arith
  rw [show ((n : Int)).toNat = n by omega]
  refine ⟨⟨by omega, by omega⟩, ⟨g1, [], hb, rfl, ⟨fun k r h => by simp at h⟩, rfl, rfl⟩, ?_, ?_⟩
  · rintro a x sl rt hx ⟨g, R, hb, hR, hS, -, rfl, rfl⟩
    obtain ⟨ha, rfl⟩ := rangeD_at hx
    unfold b__law_cost_rows_2
    simp_arith
    rw [kont]
    rw [w_seq, rowsO_tk]
    refine ⟨rfl, ?_⟩
    refine w_for (fun xs L b sl rt => ∃ (g : List D) (row : List Int), IsBag g ∧ row.length = b ∧ ((a < b → row[a]? = some 0) ∧ ∀ v ∈ row, 0 ≤ v ∧ v ≤ 1000000000) ∧ xs = rangeD 0 n ∧ L = 3 ∧ sl = [some (.r 0), some (.d (.int (n : Int))), some (.d (.int w)), some (.r 1), some (.d (.int (a : Int))), some (.r 2), none, none] ∧ rt = [.lst g, rowsO R, .lst (row.map D.int)]) ?_
    simp_arith
    rw [show ((n : Int)).toNat = n by omega]
    refine ⟨⟨by omega, by omega⟩, ⟨g, [], hb, rfl, ⟨by omega, by simp⟩, rfl, rfl⟩, ?_, ?_⟩
    · rintro b x sl rt hx ⟨g, row, hb, hl, hz, -, rfl, rfl⟩
      obtain ⟨hbn, rfl⟩ := rangeD_at hx
      unfold b__law_cost_rows_1
      simp_arith
      rw [kont]
      refine w_cut (fun sl rt => ∃ (g : List D) (v : Int), IsBag g ∧ ((a = b → v = 0) ∧ 0 ≤ v ∧ v ≤ 1000000000) ∧ sl = [some (.r 0), some (.d (.int (n : Int))), some (.d (.int w)), some (.r 1), some (.d (.int (a : Int))), some (.r 2), some (.d (.int (b : Int))), some (.d (.int v))] ∧ rt = [.lst g, rowsO R, .lst (row.map D.int)]) ?_ ?_
      · by_cases hab : a = b
        · subst hab
          simp_arith
          exact ⟨g, 0, hb, ⟨fun _ => rfl, by omega⟩, rfl, rfl⟩
        · have e : ((a : Int) = (b : Int)) = False := eq_false (by omega)
          have ho : offO [0] (rowsO R) = true := by cases R <;> rfl
          have draw : ∀ (m : Int) (Q : W → List O → Prop), 0 < m → m ≤ 1000000001 → (∀ v g', IsBag g' → (0 ≤ v ∧ v ≤ 1000000000) → Q (.d (.int v)) [.lst g']) → wE (m__law_draw [.r 0, .d (.int m)] [.lst g]) Q := fun m Q h1 h2 hq => by
            refine wE.imp (draw_ok hb (divOk_of (by omega) (by omega))) ?_
            rintro _ _ ⟨v, g', rfl, rfl, hb', v0, v1⟩
            exact hq v g' hb' ⟨v0, by omega⟩
          simp_arith [e, ho]
          split
          · refine draw 2 _ (by omega) (by omega) fun v g' hb' v0 => ?_
            simp_arith
            exact ⟨by rw [rowsO_tk]; rfl, g', v, hb', ⟨fun h => absurd h hab, v0⟩, rfl, rfl⟩
          · split
            · refine draw 10 _ (by omega) (by omega) fun v g' hb' v0 => ?_
              simp_arith
              exact ⟨by rw [rowsO_tk]; rfl, g', v, hb', ⟨fun h => absurd h hab, v0⟩, rfl, rfl⟩
            · split
              · refine draw 1000000001 _ (by omega) (by omega) fun v g' hb' v0 => ?_
                simp_arith
                exact ⟨by rw [rowsO_tk]; rfl, g', v, hb', ⟨fun h => absurd h hab, v0⟩, rfl, rfl⟩
              · split
                · refine wE.imp (draw_ok hb (divOk_of (j := 4) (by omega) (by omega))) ?_
                  rintro _ _ ⟨v, g', rfl, rfl, hb', v0, v1⟩
                  simp_arith
                  have hv : ∃ u : Int, (0 ≤ u ∧ u ≤ 1000000000) ∧ atI [D.int 0, D.int 0, D.int 1, D.int 5] v = some (.int u) := by
                    have : v = 0 ∨ v = 1 ∨ v = 2 ∨ v = 3 := by omega
                    rcases this with rfl | rfl | rfl | rfl
                    · exact ⟨0, by omega, rfl⟩
                    · exact ⟨0, by omega, rfl⟩
                    · exact ⟨1, by omega, rfl⟩
                    · exact ⟨5, by omega, rfl⟩
                  obtain ⟨u, hu0, hu⟩ := hv
                  rw [hu]
                  simp_arith
                  exact ⟨by rw [rowsO_tk]; rfl, g', u, hb', ⟨fun h => absurd h hab, hu0⟩, rfl, rfl⟩
                · exact ⟨g, 0, hb, ⟨fun h => absurd h hab, by omega⟩, rfl, rfl⟩
      · rintro sl rt ⟨g, v, hb, ⟨hv, hv0⟩, rfl, rfl⟩
        simp_arith
        refine ⟨by rw [List.length_map]; omega, by rw [rowsO_tk]; rfl, by rw [rowsO_tk]; rfl, g, row ++ [v], hb, by simp [hl], ⟨fun h => ?_, fun u hu => (List.mem_append.mp hu).elim (hz.2 u) fun h => by rw [List.mem_singleton.mp h]; exact hv0⟩, by rw [List.map_append]; rfl⟩
        by_cases hab : a = b
        · rw [hv hab, List.getElem?_append_right (by omega), show a - row.length = 0 by omega]; rfl
        · rw [List.getElem?_append_left (by omega)]
          exact hz.1 (by omega)
    · rintro sl rt ⟨g, row, hb, hl, hz, -, rfl, rfl⟩
      rw [rangeD_len] at hl hz
      have hS2 : SqU n (R ++ [row]) := ⟨fun k r hk => by
        by_cases h : k < R.length
        · rw [List.getElem?_append_left h] at hk
          exact hS.row k r hk
        · have h2 := (List.getElem?_eq_some_iff.mp hk).1
          rw [List.length_append, List.length_singleton] at h2
          have h3 : k = R.length := by omega
          rw [h3, List.getElem?_append_right (Nat.le_refl _), Nat.sub_self] at hk
          cases hk
          exact ⟨hl, by rw [h3, hR]; exact hz.1 ha, hz.2⟩⟩
      have hR2 : (R ++ [row]).length = a + 1 := by rw [List.length_append, hR]; rfl
      have done : ∃ g' R', IsBag g' ∧ R'.length = a + 1 ∧ SqU n R' ∧ [O.lst g, .nst ((R ++ [row]).map rwO)] = [O.lst g', rowsO R'] := by
        refine ⟨g, R ++ [row], hb, hR2, hS2, ?_⟩
        cases R <;> rfl
      rw [kont]
      cases R with
      | nil =>
        rw [rowsO]
        simp_arith
        exact done
      | cons r0 R =>
        rw [show rowsO (r0 :: R) = .nst ((r0 :: R).map rwO) from rfl]
        simp_arith
        refine ⟨?_, ?_⟩
        · rw [List.length_map]
          rw [List.length_cons] at hR
          omega
        · rw [List.cons_append, List.map_cons, List.map_append] at done
          exact done
  · rintro sl rt ⟨g, R, hb, hR, hS, -, rfl, rfl⟩
    rw [rangeD_len] at hR
    (rw [kont]; simp_arith)
    rw [rowsO_vw]
    simp_arith
    exact ⟨g, R, rfl, hb, hR, hS⟩
theorem sq_tab {n : Nat} {R : List (List Int)} (hl : R.length = n) (hr : ∀ r ∈ R, r.length = n) : R = tab n (ent R) := by
  refine List.ext_getElem? fun a => ?_
  by_cases ha : a < n
  · rw [tab_at ha, List.getElem?_eq_getElem (by omega)]
    congr 1
    have hrl := hr _ (List.getElem_mem (show a < R.length by omega))
    refine List.ext_getElem? fun b => ?_
    by_cases hb : b < n
    · rw [row_at hb, List.getElem?_eq_getElem (by omega)]
      congr 1
      unfold ent
      rw [List.getD_eq_getElem?_getD (l := R), List.getElem?_eq_getElem (by omega), Option.getD_some, List.getD_eq_getElem?_getD, List.getElem?_eq_getElem (by omega), Option.getD_some]
    · rw [List.getElem?_eq_none (by omega), List.getElem?_eq_none (by simp; omega)]
  · rw [List.getElem?_eq_none (by omega), List.getElem?_eq_none (by rw [tab_len]; omega)]
theorem SqZ.sq {n : Nat} {R : List (List Int)} (h : SqZ n R) : ∀ r ∈ R, r.length = n := fun r hr => by
  obtain ⟨k, hk⟩ := List.mem_iff_getElem?.mp hr
  exact (h.row k r hk).1
theorem SqZ.diag {n : Nat} {R : List (List Int)} (h : SqZ n R) (hl : R.length = n) {a : Nat} (ha : a < n) : ent R a a = 0 := by
  have h1 : R[a]? = some (R.getD a []) := by rw [List.getElem?_eq_getElem (by omega), List.getD_eq_getElem?_getD, List.getElem?_eq_getElem (by omega)]; rfl
  have := (h.row a _ h1).2.1
  unfold ent
  rw [List.getD_eq_getElem?_getD (l := R.getD a []), this]
  rfl
theorem dz_same {n : Nat} {R S : List (List Int)} (h : SqZ n R) (hl : R.length = n) (hs : S.length = n) (he : ∀ a, a < n → ∀ b, b < n → a ≠ b → ent S a b = ent R a b) : dz S = R := by
  rw [sq_tab hl h.sq]
  unfold dz
  rw [hs]
  refine tab_congr fun a ha b hb => ?_
  by_cases hab : a = b
  · subst hab
    rw [if_pos rfl, h.diag hl ha]
  · rw [if_neg hab, ← he a ha b hb hab]
    rfl
theorem rowsO_toD {R : List (List Int)} : (rowsO R).toD = lstM R := by
  cases R with
  | nil => rfl
  | cons r R =>
    rw [show rowsO (r :: R) = .nst ((r :: R).map rwO) from rfl, O.toD, toDs_map rwO_toD]
    rfl
def lsF (y : D) : Option O := match y with
  | .lst r => some (.lst r)
  | _ => none
theorem lsF_all : ∀ R : List (List Int), (R.map rwD).filterMap lsF = R.map rwO
  | [] => rfl
  | r :: R => by
    rw [List.map_cons, List.filterMap_cons, List.map_cons, ← lsF_all R]
    rfl
theorem getP_ix1 {os : List O} {r : Nat} {z : O} (h : os[r]? = some z) : getP (.nst os) [.ix r] = some z := by
  simp only [getP, h, Option.bind_some, getP_nil]
theorem setP_ix1 {os : List O} {r : Nat} {z y : O} (h : os[r]? = some z) : setP (.nst os) [.ix r] y = .nst (os.set r y) := by
  simp only [setP, h, setP_nil]
def hwF (f : Int → Int) (y : D) : Option D := match y with
  | .int v => some (.int (f v))
  | _ => none
theorem hwF_all {f : Int → Int} : ∀ r : List Int, (r.map D.int).filterMap (hwF f) = (r.map f).map D.int
  | [] => rfl
  | v :: r => by
    rw [List.map_cons, List.filterMap_cons, List.map_cons, List.map_cons, ← hwF_all r]
    rfl
def hvF (f : Int → Int) (y : D) : Option D := match y with
  | .lst r => some (.lst (r.filterMap (hwF f)))
  | _ => none
theorem hvF_all {f : Int → Int} : ∀ R : List (List Int), (R.map rwD).filterMap (hvF f) = (R.map fun r => r.map f).map rwD
  | [] => rfl
  | r :: R => by
    have h1 : hvF f (rwD r) = some (rwD (r.map f)) := by
      show some (D.lst _) = _
      rw [hwF_all]; rfl
    rw [List.map_cons, List.filterMap_cons, h1, List.map_cons, List.map_cons, ← hvF_all R]
theorem costO_tk {n : Nat} {M : List (List Int)} {l : List O} : tkOk n (costO M :: l) = tkOk n l := rfl
theorem costO_off {js : List Nat} {M : List (List Int)} : offO js (costO M) = true := rfl
theorem costO_vfz {n : Nat} {o : O} {M : List (List Int)} : vfz n o (costO M) = costO M := rfl
structure RowZ (Z : O) (R : List (List Int)) : Prop where
  vw : Z.isVw = false
  toD : Z.toD = lstM R
  rd : ∀ rt, rdO rt (some Z) = some Z
  lc : ∀ n, lcO n (some Z) = (n, [])
  tk : ∀ n l, tkOk n (Z :: l) = tkOk n l
  off : ∀ js, offO js Z = true
  vfz : ∀ n o, vfz n o Z = Z
  len : lenO (some Z) = some R.length
  nv : ∀ m l, noVw m (Z :: l) = noVw m l
  vf : ∀ n rt, vfO n rt (some Z) = .ok Z.toD (frz n Z rt)
  nst : 0 < R.length → Z = .nst (R.map rwO)
theorem rowZ_O {R : List (List Int)} : RowZ (rowsO R) R := by
  cases R with
  | nil => exact ⟨rfl, rfl, fun _ => rfl, fun _ => rfl, fun _ _ => rfl, fun _ => rfl, fun _ _ => rfl, rfl, fun _ _ => noVw_lst, fun _ _ => rfl, fun h => absurd h (by simp)⟩
  | cons r R => exact ⟨rfl, rowsO_toD, fun _ => rfl, fun _ => rfl, fun _ _ => rfl, fun _ => rfl, fun _ _ => rfl, by simp [rowsO, lenO], fun _ _ => noVw_nst, fun _ _ => rfl, fun _ => rfl⟩
theorem rowZ_nst {R : List (List Int)} : RowZ (.nst (R.map rwO)) R := ⟨rfl, by rw [O.toD, toDs_map rwO_toD, lstM], fun _ => rfl, fun _ => rfl, fun _ _ => rfl, fun _ => rfl, fun _ _ => rfl, by simp [lenO], fun _ _ => noVw_nst, fun _ _ => rfl, fun _ => rfl⟩
theorem costO_nv {m : Nat} {M : List (List Int)} {l : List O} : noVw m (costO M :: l) = noVw m l := by simp [noVw, costO]
theorem ent_at {n : Nat} {R : List (List Int)} (hl : R.length = n) (hs : ∀ r ∈ R, r.length = n) {a b : Nat} (ha : a < n) (hb : b < n) : ∃ row, R[a]? = some row ∧ row[b]? = some (ent R a b) ∧ row.length = n := by
  have h1 : R[a]? = some R[a] := List.getElem?_eq_getElem (by omega)
  have hrl := hs _ (List.getElem_mem (show a < R.length by omega))
  refine ⟨_, h1, ?_, hrl⟩
  unfold ent
  rw [List.getD_eq_getElem?_getD (l := R), h1, Option.getD_some, List.getD_eq_getElem?_getD, List.getElem?_eq_getElem (by omega)]; rfl
theorem nd_take {l : List Nat} {k : Nat} : (nd l).take k = nd (l.take k) := by unfold nd; rw [List.map_take]
theorem nd_drop {l : List Nat} {k : Nat} : (nd l).drop k = nd (l.drop k) := by unfold nd; rw [List.map_drop]
theorem nd_app {l m : List Nat} : nd l ++ nd m = nd (l ++ m) := by unfold nd; rw [List.map_append]
theorem nd_rev {l : List Nat} : (nd l).reverse = nd l.reverse := by unfold nd; rw [List.map_reverse]
theorem nd_two {a b : Nat} : [D.int (a : Int), D.int (b : Int)] = nd [a, b] := rfl
theorem nd_one {a : Nat} : [D.int (a : Int)] = nd [a] := rfl
theorem perm_two {α : Type} {l : List α} {k : Nat} {a b : α} (ha : l[k]? = some a) (hb : l[k + 1]? = some b) : (l.take k ++ [b, a] ++ l.drop (k + 2)).Perm l := by
  have h1 := (List.getElem?_eq_some_iff.mp ha)
  have h2 := (List.getElem?_eq_some_iff.mp hb)
  obtain ⟨h1, e1⟩ := h1
  obtain ⟨h2, e2⟩ := h2
  have : l = l.take k ++ [a, b] ++ l.drop (k + 2) := by
    conv => lhs; rw [← List.take_append_drop k l, List.drop_eq_getElem_cons h1, List.drop_eq_getElem_cons h2, e1, e2]
    rw [List.append_assoc]
    rfl
  conv => rhs; rw [this]
  rw [List.append_assoc, List.append_assoc]
  exact (List.Perm.append_left _ (List.Perm.append_right _ (List.Perm.swap ..)))
theorem perm_move {α : Type} {l : List α} {i j : Nat} {a : α} (ha : l[i]? = some a) : ((l.take i ++ l.drop (i + 1)).take j ++ [a] ++ (l.take i ++ l.drop (i + 1)).drop j).Perm l := by
  obtain ⟨h1, e1⟩ := (List.getElem?_eq_some_iff.mp ha)
  have e : l = l.take i ++ a :: l.drop (i + 1) := by
    conv => lhs; rw [← List.take_append_drop i l, List.drop_eq_getElem_cons h1, e1]
  have h2 : (l.take i ++ a :: l.drop (i + 1)).Perm (a :: (l.take i ++ l.drop (i + 1))) := List.perm_middle
  rw [← e] at h2
  refine List.Perm.trans ?_ h2.symm
  generalize l.take i ++ l.drop (i + 1) = r
  conv => rhs; rw [← List.take_append_drop j r]
  rw [List.append_assoc]
  exact List.perm_middle
theorem ent_tab {n : Nat} {f : Nat → Nat → Int} {a b : Nat} (ha : a < n) (hb : b < n) : ent (tab n f) a b = f a b := by
  unfold ent
  rw [List.getD_eq_getElem?_getD (l := tab n f), tab_at ha, Option.getD_some, List.getD_eq_getElem?_getD, row_at hb, Option.getD_some]
theorem SqZ_tab {n : Nat} {f : Nat → Nat → Int} (h0 : ∀ a, a < n → f a a = 0) (h1 : ∀ a, a < n → ∀ b, b < n → 0 ≤ f a b) : SqZ n (tab n f) := ⟨fun k r hk => by
  have hkl := (List.getElem?_eq_some_iff.mp hk).1
  rw [tab_len] at hkl
  rw [tab_at hkl] at hk
  cases hk
  refine ⟨by simp, by rw [row_at hkl, h0 k hkl], fun v hv => ?_⟩
  obtain ⟨b, hb, rfl⟩ := List.mem_map.mp hv
  exact h1 k hkl b (List.mem_range.mp hb)⟩
theorem sumM_tab {n : Nat} {f g : Nat → Nat → Int} : sumM (tab n f) (tab n g) = tab n fun a b => f a b + g a b := by
  unfold sumM tab
  refine List.ext_getElem? fun a => ?_
  rw [List.getElem?_zipWith, List.getElem?_map, List.getElem?_map, List.getElem?_map]
  cases (List.range n)[a]? with
  | none => rfl
  | some x =>
    simp only [Option.map_some]
    congr 1
    refine List.ext_getElem? fun b => ?_
    rw [List.getElem?_zipWith, List.getElem?_map, List.getElem?_map, List.getElem?_map]
    cases (List.range n)[b]? <;> rfl
theorem SqZ.nonneg {n : Nat} {R : List (List Int)} (h : SqZ n R) (hl : R.length = n) {a b : Nat} (ha : a < n) (hb : b < n) : 0 ≤ ent R a b := by
  have h1 : R[a]? = some (R.getD a []) := by rw [List.getElem?_eq_getElem (by omega), List.getD_eq_getElem?_getD, List.getElem?_eq_getElem (by omega)]; rfl
  obtain ⟨q1, _, q3⟩ := h.row a _ h1
  unfold ent
  refine q3 _ ?_
  rw [List.getD_eq_getElem?_getD (l := R.getD a []), List.getElem?_eq_getElem (by omega), Option.getD_some]
  exact List.getElem_mem _
theorem dz_self {n : Nat} {R : List (List Int)} (h : SqZ n R) (hl : R.length = n) : dz R = R := dz_same h hl hl fun _ _ _ _ _ => rfl
theorem sum_rows {n : Nat} {R M : List (List Int)} (h : SqZ n R) (hl : R.length = n) (h2 : SqZ n M) (hl2 : M.length = n) : sumM R M = tab n fun a b => ent R a b + ent M a b := by
  have e1 := sq_tab hl h.sq
  have e2 := sq_tab hl2 h2.sq
  conv => lhs; rw [e1, e2]
  exact sumM_tab
theorem SqZ_sum {n : Nat} {R M : List (List Int)} (h : SqZ n R) (hl : R.length = n) (h2 : SqZ n M) (hl2 : M.length = n) : SqZ n (sumM R M) := by
  rw [sum_rows h hl h2 hl2]
  exact SqZ_tab (fun a ha => by rw [h.diag hl ha, h2.diag hl2 ha]; rfl) fun a ha b hb => by
    have := h.nonneg hl ha hb
    have := h2.nonneg hl2 ha hb
    omega
theorem costO_rd {rt : List O} {M : List (List Int)} : rdO rt (some (costO M)) = some (costO M) := rfl
theorem costO_lc {n : Nat} {M : List (List Int)} : lcO n (some (costO M)) = (n, []) := rfl
theorem costO_ins (M : List (List Int)) : costO M = .ins C_Costs [("size", .d (.int (M.length : Nat))), ("_rows", .nst (M.map rwO))] := rfl
def lcF (y : D) : Option D := match y with
  | .lst r => some (.lst r)
  | _ => none
theorem lcF_all : ∀ R : List (List Int), (R.map rwD).filterMap lcF = R.map rwD
  | [] => rfl
  | r :: R => by
    have e : lcF (rwD r) = some (rwD r) := rfl
    rw [List.map_cons, List.filterMap_cons, e, lcF_all R]
theorem lrg_nd {n : Nat} : rangeD 0 n = nd (List.range n) := nd_range
theorem nd_perm {l : List Nat} {ys : List D} (h : ys.Perm (nd l)) : ∃ o, ys = nd o ∧ o.Perm l := by
  unfold nd at h
  refine ⟨ys.map fun | .int v => v.toNat | _ => 0, ?_, ?_⟩
  · unfold nd
    rw [List.map_map]
    refine List.ext_getElem (by simp) fun i h1 h2 => ?_
    have hm := h.mem_iff.mp (List.getElem_mem h1)
    obtain ⟨k, _, e⟩ := List.mem_map.mp hm
    rw [List.getElem_map, ← e]
    simp
  · have := h.map (fun | D.int v => v.toNat | _ => 0)
    refine this.trans ?_
    rw [List.map_map]
    have e : ((fun | D.int v => v.toNat | _ => 0) ∘ fun (k : Nat) => D.int (k : Int)) = id := by
      funext k
      simp
    rw [e, List.map_id]
theorem SqZ.tab {n : Nat} {R : List (List Int)} (h : SqZ n R) (hl : R.length = n) : ∃ f, R = VL.tab n f ∧ (∀ a, a < n → f a a = 0) ∧ ∀ a, a < n → ∀ b, b < n → 0 ≤ f a b := ⟨ent R, sq_tab hl h.sq, fun a ha => h.diag hl ha, fun a ha b hb => h.nonneg hl ha hb⟩
theorem lstM_nst {R : List (List Int)} : (O.nst (R.map rwO)).toD = lstM R := by rw [O.toD, toDs_map rwO_toD, lstM]






section
variable {α : Type}
def psZ (w : α → α → Int) : List α → Int
  | [] => 0
  | x :: l => (l.map (w x)).sum + psZ w l
theorem psZ_snoc {w : α → α → Int} {x : α} : ∀ l : List α, psZ w (l ++ [x]) = psZ w l + (l.map fun y => w y x).sum
  | [] => by simp [psZ]
  | a :: l => by
    rw [List.cons_append, psZ, psZ, psZ_snoc l, List.map_append, List.sum_append, List.map_cons, List.sum_cons]
    simp only [List.map_cons, List.map_nil, List.sum_cons, List.sum_nil]
    omega
theorem sumZ_congr {f g : α → Int} : ∀ {l : List α}, (∀ x ∈ l, f x = g x) → (l.map f).sum = (l.map g).sum
  | [], _ => rfl
  | a :: l, h => by
    rw [List.map_cons, List.map_cons, List.sum_cons, List.sum_cons, h a (List.mem_cons_self ..), sumZ_congr fun x hx => h x (List.mem_cons_of_mem a hx)]
theorem sumZ_add {f g : α → Int} : ∀ l : List α, (l.map fun x => f x + g x).sum = (l.map f).sum + (l.map g).sum
  | [] => rfl
  | a :: l => by
    rw [List.map_cons, List.map_cons, List.map_cons, List.sum_cons, List.sum_cons, List.sum_cons, sumZ_add l]
    omega
theorem sumZ_zero : ∀ l : List α, (l.map fun _ => (0 : Int)).sum = 0
  | [] => rfl
  | a :: l => by rw [List.map_cons, List.sum_cons, sumZ_zero l]; rfl
theorem sumZ_perm {f : α → Int} {l m : List α} (h : l.Perm m) : (l.map f).sum = (m.map f).sum := by
  induction h with
  | nil => rfl
  | cons x h ih => rw [List.map_cons, List.map_cons, List.sum_cons, List.sum_cons, ih]
  | swap x y l =>
    simp only [List.map_cons, List.sum_cons]
    omega
  | trans _ _ h1 h2 => exact h1.trans h2
theorem psZ_pos {w : α → α → Int} {π : α → Nat} : ∀ {l : List α}, l.Pairwise (fun x y => π x < π y) → psZ w l = (l.map fun a => (l.map fun b => if π a < π b then w a b else 0).sum).sum
  | [], _ => rfl
  | x :: l, h => by
    have h := List.pairwise_cons.mp h
    rw [psZ, psZ_pos h.2, List.map_cons, List.sum_cons, List.map_cons, List.sum_cons, if_neg (by omega), Int.zero_add]
    rw [sumZ_congr (f := w x) (g := fun b => if π x < π b then w x b else 0) fun b hb => by rw [if_pos (h.1 b hb)]]
    congr 1
    refine sumZ_congr fun a ha => ?_
    rw [List.map_cons, List.sum_cons, if_neg (by have := h.1 a ha; omega), Int.zero_add]
/-- the price of an order, by the places of the numbers -/
theorem psZ_range {w : Nat → Nat → Int} {π : Nat → Nat} {n : Nat} {o : List Nat} (hp : o.Perm (List.range n)) (h : o.Pairwise (fun x y => π x < π y)) :
    psZ w o = ((List.range n).map fun a => ((List.range n).map fun b => if π a < π b then w a b else 0).sum).sum := by
  rw [psZ_pos h, sumZ_perm hp]
  exact sumZ_congr fun a _ => sumZ_perm hp
end
/-! all subsets, and the least prices -/
def subs : Nat → List (List Nat)
  | 0 => [[]]
  | n + 1 => subs n ++ (subs n).map (· ++ [n])
theorem subs_mem : ∀ {n : Nat} {l : List Nat}, l.Sublist (List.range n) → l ∈ subs n
  | 0, l, h => by
    rw [List.range_zero, List.sublist_nil] at h
    subst h
    exact List.mem_singleton.mpr rfl
  | n + 1, l, h => by
    rw [List.range_succ, List.sublist_append_iff] at h
    obtain ⟨a, b, rfl, ha, hb⟩ := h
    have h1 := subs_mem ha
    rw [subs, List.mem_append]
    cases hb with
    | cons _ h2 =>
      rw [List.sublist_nil] at h2
      subst h2
      rw [List.append_nil]
      exact .inl h1
    | cons_cons _ h2 =>
      rw [List.sublist_nil] at h2
      subst h2
      exact .inr (List.mem_map.mpr ⟨a, h1, rfl⟩)
theorem subs_sub : ∀ {n : Nat} {l : List Nat}, l ∈ subs n → l.Sublist (List.range n)
  | 0, l, h => by
    rw [subs, List.mem_singleton] at h
    subst h
    exact List.nil_sublist _
  | n + 1, l, h => by
    rw [subs, List.mem_append] at h
    rw [List.range_succ]
    rcases h with h | h
    · exact (subs_sub h).trans (List.sublist_append_left _ _)
    · obtain ⟨a, ha, rfl⟩ := List.mem_map.mp h
      exact (subs_sub ha).append (List.Sublist.refl _)
theorem subs_lt {n : Nat} {l : List Nat} (h : l ∈ subs n) : ∀ a ∈ l, a < n := fun a ha => List.mem_range.mp ((subs_sub h).subset ha)
theorem subs_len : ∀ n : Nat, (subs n).length = 2 ^ n
  | 0 => rfl
  | n + 1 => by rw [subs, List.length_append, List.length_map, subs_len n, Nat.pow_succ]; omega
/-- what a subset contains stands ahead of it -/
theorem subs_ahead : ∀ {n k i : Nat} {s : List Nat}, (subs n)[k]? = some s → i < s.length → s.eraseIdx i ∈ (subs n).take k
  | 0, k, i, s, h, hi => by
    cases k with
    | zero =>
      simp [subs] at h
      subst h
      simp at hi
    | succ k => simp [subs] at h
  | n + 1, k, i, s, h, hi => by
    rw [subs] at h ⊢
    by_cases hk : k < (subs n).length
    · rw [List.getElem?_append_left hk] at h
      rw [List.take_append_of_le_length (by omega)]
      exact subs_ahead h hi
    · rw [List.getElem?_append_right (by omega), List.getElem?_map] at h
      obtain ⟨t, ht, rfl⟩ := Option.map_eq_some_iff.mp h
      rw [List.take_append, List.take_of_length_le (by omega)]
      rw [List.length_append, List.length_singleton] at hi
      by_cases h2 : i < t.length
      · rw [List.eraseIdx_append_of_lt_length h2, List.mem_append]
        refine .inr ?_
        rw [← List.map_take]
        exact List.mem_map.mpr ⟨_, subs_ahead ht h2, rfl⟩
      · have h3 : i = t.length := by omega
        rw [List.mem_append]
        refine .inl ?_
        rw [h3, List.eraseIdx_append_of_length_le (Nat.le_refl _), Nat.sub_self]
        show t ++ [] ∈ _
        rw [List.append_nil]
        exact List.mem_of_getElem? ht
section
variable (w : Nat → Nat → Int)
/-- the price of s with the member at i last, p being the least price of the others -/
def lastC (s : List Nat) (i : Nat) (p : Int) : Int := p + ((s.eraseIdx i).map fun u => w u (s.getD i 0)).sum
def firstC (s : List Nat) (i : Nat) (p : Int) : Int := p + ((s.eraseIdx i).map fun u => w (s.getD i 0) u).sum
def mnF : Nat → List Nat → Int
  | 0, _ => 0
  | k + 1, s => minL ((List.range s.length).map fun i => lastC w s i (mnF k (s.eraseIdx i)))
/-- the least price of an order of s -/
def mnv (s : List Nat) : Int := mnF w s.length s
theorem mnv_nil : mnv w [] = 0 := rfl
theorem mnv_eq (s : List Nat) : mnv w s = minL ((List.range s.length).map fun i => lastC w s i (mnv w (s.eraseIdx i))) := by
  unfold mnv
  cases h : s.length with
  | zero => rfl
  | succ k =>
    rw [mnF]
    congr 1
    rw [h]
    refine List.map_congr_left fun i hi => ?_
    rw [List.mem_range] at hi
    rw [List.length_eraseIdx_of_lt (by omega), h, Nat.add_sub_cancel]
structure IsMin (s : List Nat) (p : Int) : Prop where
  ex : ∃ o, o.Perm s ∧ psZ w o = p
  le : ∀ o, o.Perm s → p ≤ psZ w o
variable {w}
theorem IsMin.uniq {s : List Nat} {p q : Int} (h1 : IsMin w s p) (h2 : IsMin w s q) : p = q := by
  obtain ⟨o, ho, e⟩ := h1.ex
  obtain ⟨o2, ho2, e2⟩ := h2.ex
  have := h1.le o2 ho2
  have := h2.le o ho
  omega
theorem getD_at {s : List Nat} {i : Nat} (h : i < s.length) : s.getD i 0 = s[i] := by rw [List.getD_eq_getElem?_getD, List.getElem?_eq_getElem h]; rfl
theorem erase_cons_perm {s : List Nat} {i : Nat} (h : i < s.length) : (s[i] :: s.eraseIdx i).Perm s := by
  rw [List.eraseIdx_eq_take_drop_succ]
  conv => rhs; rw [← List.take_append_drop i s, List.drop_eq_getElem_cons h]
  exact List.perm_middle.symm
theorem perm_at {s o : List Nat} {v : Nat} (h : (v :: o).Perm s) : ∃ i, ∃ hi : i < s.length, s[i] = v ∧ o.Perm (s.eraseIdx i) := by
  obtain ⟨i, hi, e⟩ := List.getElem_of_mem (h.mem_iff.mp (List.mem_cons_self ..))
  refine ⟨i, hi, e, ?_⟩
  have := h.trans (erase_cons_perm hi).symm
  rw [e] at this
  exact this.cons_inv
theorem psZ_last {o : List Nat} {v : Nat} {s : List Nat} {i : Nat} (hi : i < s.length) (ho : o.Perm (s.eraseIdx i)) : psZ w (o ++ [s[i]]) = lastC w s i (psZ w o) := by
  rw [psZ_snoc, lastC, getD_at hi, sumZ_perm ho]
theorem psZ_first {o : List Nat} {s : List Nat} {i : Nat} (hi : i < s.length) (ho : o.Perm (s.eraseIdx i)) : psZ w (s[i] :: o) = firstC w s i (psZ w o) := by
  rw [psZ, firstC, getD_at hi, sumZ_perm ho]
  exact Int.add_comm _ _
theorem mnv_min : ∀ (n : Nat) (s : List Nat), s.length = n → IsMin w s (mnv w s)
  | 0, s, h => by
    have : s = [] := List.length_eq_zero_iff.mp h
    subst this
    exact ⟨⟨[], .nil, rfl⟩, fun o ho => by rw [List.Perm.eq_nil ho]; exact Int.le_refl _⟩
  | n + 1, s, h => by
    have ih : ∀ i, i < s.length → IsMin w (s.eraseIdx i) (mnv w (s.eraseIdx i)) := fun i hi => mnv_min n _ (by rw [List.length_eraseIdx_of_lt hi]; omega)
    refine ⟨?_, fun o ho => ?_⟩
    · have hne : ((List.range s.length).map fun i => lastC w s i (mnv w (s.eraseIdx i))) ≠ [] := by
        intro e
        have := congrArg List.length e
        simp at this
        subst this
        simp at h
      have hm := minL_mem hne
      rw [← mnv_eq] at hm
      obtain ⟨i, hi, e⟩ := List.mem_map.mp hm
      rw [List.mem_range] at hi
      obtain ⟨o, ho, e2⟩ := (ih i hi).ex
      refine ⟨o ++ [s[i]], ?_, by rw [psZ_last (v := 0) hi ho, e2, e]⟩
      exact (List.perm_append_singleton _ _).trans ((ho.cons _).trans (erase_cons_perm hi))
    · have hon : o ≠ [] := fun e => by
        subst e
        have := ho.length_eq
        simp at this
        omega
      obtain ⟨o', v, rfl⟩ : ∃ o' v, o = o' ++ [v] := ⟨o.dropLast, o.getLast hon, (List.dropLast_concat_getLast hon).symm⟩
      obtain ⟨i, hi, e, hp⟩ := perm_at ((List.perm_append_singleton v o').symm.trans ho)
      subst e
      rw [psZ_last (v := 0) hi hp, mnv_eq]
      have h1 := (ih i hi).le o' hp
      have h2 := minL_le (ns := (List.range s.length).map fun i => lastC w s i (mnv w (s.eraseIdx i))) (List.mem_map.mpr ⟨i, List.mem_range.mpr hi, rfl⟩)
      unfold lastC at *
      omega
theorem mnv_ok (s : List Nat) : IsMin w s (mnv w s) := mnv_min _ s rfl
/-! by the member that stands first -/
variable (w)
def bfs (s : List Nat) : List (Int × Int) := (List.range s.length).map fun i => (firstC w s i (mnv w (s.eraseIdx i)), (i : Int))
/-- the index of the member that stands first -/
def bst (s : List Nat) : Nat := (minP (bfs w s)).2.toNat
variable {w}
theorem bst_ok {s : List Nat} (hs : s ≠ []) : bst w s < s.length ∧ (minP (bfs w s)).2 = (bst w s : Int) ∧ firstC w s (bst w s) (mnv w (s.eraseIdx (bst w s))) = mnv w s ∧ ∀ i, i < s.length → mnv w s ≤ firstC w s i (mnv w (s.eraseIdx i)) ∧ (firstC w s i (mnv w (s.eraseIdx i)) = mnv w s → bst w s ≤ i) := by
  have hl : 0 < s.length := List.length_pos_iff.mpr hs
  have hne : bfs w s ≠ [] := fun e => by
    have := congrArg List.length e
    simp [bfs] at this
    exact hs this
  obtain ⟨hm, hle⟩ := minP_ok hne
  obtain ⟨i, hi, e⟩ := List.mem_map.mp hm
  rw [List.mem_range] at hi
  have hb : bst w s = i := by unfold bst; rw [← e]; simp
  have e2 : (minP (bfs w s)).2 = (i : Int) := by rw [← e]
  have e1 : (minP (bfs w s)).1 = firstC w s i (mnv w (s.eraseIdx i)) := by rw [← e]
  have low : ∀ j, j < s.length → mnv w s ≤ firstC w s j (mnv w (s.eraseIdx j)) := fun j hj => by
    obtain ⟨o, ho, e3⟩ := (mnv_ok (w := w) (s.eraseIdx j)).ex
    have := (mnv_ok (w := w) s).le (s[j] :: o) ((ho.cons _).trans (erase_cons_perm hj))
    rw [psZ_first hj ho, e3] at this
    exact this
  have att : firstC w s i (mnv w (s.eraseIdx i)) ≤ mnv w s := by
    obtain ⟨o, ho, e3⟩ := (mnv_ok (w := w) s).ex
    cases o with
    | nil =>
      have := ho.length_eq
      simp at this
      omega
    | cons v o =>
      obtain ⟨j, hj, rfl, hp⟩ := perm_at ho
      rw [psZ_first hj hp] at e3
      have h1 := (mnv_ok (w := w) (s.eraseIdx j)).le o hp
      have h2 := hle (firstC w s j (mnv w (s.eraseIdx j)), (j : Int)) (List.mem_map.mpr ⟨j, List.mem_range.mpr hj, rfl⟩)
      rw [e1] at h2
      simp only at h2
      have h3 : firstC w s j (mnv w (s.eraseIdx j)) ≤ firstC w s j (psZ w o) := by unfold firstC; omega
      omega
  have lo := low i hi
  rw [hb]
  refine ⟨hi, e2, by omega, fun j hj => ⟨low j hj, fun hj2 => ?_⟩⟩
  have h2 := hle (firstC w s j (mnv w (s.eraseIdx j)), (j : Int)) (List.mem_map.mpr ⟨j, List.mem_range.mpr hj, rfl⟩)
  rw [e1, e2] at h2
  simp only at h2
  omega
variable (w)
def loF : Nat → List Nat → List Nat
  | 0, _ => []
  | k + 1, s => s.getD (bst w s) 0 :: loF k (s.eraseIdx (bst w s))
/-- the least of the cheapest orders -/
def lo (s : List Nat) : List Nat := loF w s.length s
variable {w}
theorem lo_nil : lo w [] = [] := rfl
theorem lo_cons {s : List Nat} (hs : s ≠ []) : lo w s = s.getD (bst w s) 0 :: lo w (s.eraseIdx (bst w s)) := by
  have h := (bst_ok (w := w) hs).1
  unfold lo
  rw [List.length_eraseIdx_of_lt h]
  obtain ⟨k, hk⟩ : ∃ k, s.length = k + 1 := ⟨s.length - 1, by omega⟩
  rw [hk, loF, Nat.add_sub_cancel]
theorem lo_perm : ∀ (n : Nat) (s : List Nat), s.length = n → (lo w s).Perm s ∧ psZ w (lo w s) = mnv w s
  | 0, s, h => by
    have : s = [] := List.length_eq_zero_iff.mp h
    subst this
    exact ⟨.nil, rfl⟩
  | n + 1, s, h => by
    have hs : s ≠ [] := fun e => by subst e; simp at h
    obtain ⟨hb, _, he, _⟩ := bst_ok (w := w) hs
    obtain ⟨h1, h2⟩ := lo_perm n (s.eraseIdx (bst w s)) (by rw [List.length_eraseIdx_of_lt hb]; omega)
    rw [lo_cons hs, getD_at hb]
    exact ⟨(h1.cons _).trans (erase_cons_perm hb), by rw [psZ_first hb h1, h2, he]⟩
/-- the first difference decides -/
inductive LexLe : List Nat → List Nat → Prop
  | nil {l : List Nat} : LexLe [] l
  | lt {a b : Nat} {l m : List Nat} : a < b → LexLe (a :: l) (b :: m)
  | eq {a : Nat} {l m : List Nat} : LexLe l m → LexLe (a :: l) (a :: m)
theorem LexLe.refl : ∀ l : List Nat, LexLe l l
  | [] => .nil
  | _ :: l => .eq (LexLe.refl l)
theorem lo_lex : ∀ (n : Nat) (s : List Nat), s.length = n → s.Pairwise (· < ·) → ∀ o, o.Perm s → psZ w o = mnv w s → LexLe (lo w s) o
  | 0, s, h, _, o, _, _ => by
    have : s = [] := List.length_eq_zero_iff.mp h
    subst this
    exact .nil
  | n + 1, s, h, hp, o, ho, he => by
    have hs : s ≠ [] := fun e => by subst e; simp at h
    obtain ⟨hb, _, hb2, hbl⟩ := bst_ok (w := w) hs
    rw [lo_cons hs]
    cases o with
    | nil =>
      have := ho.length_eq
      simp at this
      omega
    | cons v o =>
      obtain ⟨j, hj, rfl, hq⟩ := perm_at ho
      rw [psZ_first hj hq] at he
      have h1 := (mnv_ok (w := w) (s.eraseIdx j)).le o hq
      obtain ⟨h2, h3⟩ := hbl j hj
      have h4 : firstC w s j (mnv w (s.eraseIdx j)) ≤ firstC w s j (psZ w o) := by unfold firstC; omega
      have h5 := h3 (by omega)
      rcases Nat.lt_or_ge (bst w s) j with h6 | h6
      · rw [getD_at hb]
        exact .lt (List.pairwise_iff_getElem.mp hp _ _ hb hj h6)
      · have e : bst w s = j := by omega
        rw [e] at hb2 ⊢
        rw [getD_at hj]
        refine .eq (lo_lex n _ (by rw [List.length_eraseIdx_of_lt hj]; omega) (hp.sublist (List.eraseIdx_sublist _ _)) o hq ?_)
        unfold firstC at *
        omega
end







theorem nd_erase {s : List Nat} {i : Nat} : (nd s).take i ++ (nd s).drop (i + 1) = nd (s.eraseIdx i) := by
  rw [nd_take, nd_drop, nd_app, List.eraseIdx_eq_take_drop_succ]
theorem without_ok {s : List Nat} {i : Nat} (hi : i < s.length) (hs : s.length ≤ 1000) : wE (m__without [.d (.tup (nd s)), .d (.int (i : Int))] []) fun x rt => rt = [] ∧ x = .d (.tup (nd (s.eraseIdx i))) := by
  unfold m__without b__without
  simp only [w_mkF]
  simp_arith
  rw [gSl_tup, cut_take (by rw [nd_len]; omega)]
  simp_arith
  rw [gSl_tup, show (i : Int) + 1 = ((i + 1 : Nat) : Int) from rfl, cut_drop (by rw [nd_len]; omega)]
  simp_arith
  rw [nd_erase]
  exact ⟨by rw [List.length_take, List.length_drop, nd_len]; omega, rfl⟩
def sbF (k : Nat) (y : D) : Option D := match y with
  | .tup xs => some (.tup (xs ++ [.int (k : Int)]))
  | _ => none
theorem sbF_all {k : Nat} : ∀ l : List (List Nat), (l.map fun s => D.tup (nd s)).filterMap (sbF k) = (l.map (· ++ [k])).map fun s => D.tup (nd s)
  | [] => rfl
  | s :: l => by
    have e : sbF k (.tup (nd s)) = some (.tup (nd (s ++ [k]))) := by
      show some _ = _
      rw [nd_add]
    rw [List.map_cons, List.filterMap_cons, e, sbF_all l, List.map_cons, List.map_cons]
theorem subsets_ok {n : Nat} (hn : n ≤ 12) : wE (m__subsets [.d (.int (n : Int))] []) fun x rt => rt = [] ∧ x = .d (.lst ((subs n).map fun s => .tup (nd s))) := by
  have hp : ∀ k, k ≤ n → (subs k).length ≤ 4096 := fun k hk => by
    rw [subs_len]
    exact Nat.pow_le_pow_right (n := 2) (by omega) (show k ≤ 12 by omega)
  unfold m__subsets b__subsets
  simp only [w_mkF]
  simp_arith
  rw [kont, w_seq]
  refine w_for (fun xs L k sl rt => xs = rangeD 0 n ∧ k ≤ n ∧ sl = [some (.d (.int (n : Int))), some (.d (.lst ((subs k).map fun s => .tup (nd s)))), none, none] ∧ rt = []) ?_
  simp_arith
  rw [show ((n : Int)).toNat = n by omega]
  refine ⟨⟨by omega, by omega⟩, ⟨rfl, by omega, rfl⟩, ?_, ?_⟩
  · rintro k x sl rt hx ⟨-, hkn, rfl, rfl⟩
    obtain ⟨hk, rfl⟩ := rangeD_at hx
    have hl := hp k hkn
    unfold b__subsets_2
    simp_arith
    refine w_compF (sbF k) ?_
    simp_arith
    refine ⟨by rw [List.length_map]; omega, fun i x acc hx => ?_, ?_⟩
    · obtain ⟨s, _, _, rfl⟩ := mem_at hx
      unfold b__subsets_1
      simp_arith
      have hsl := (subs_sub (by assumption : s ∈ subs k)).length_le
      rw [List.length_range] at hsl
      exact ⟨by rw [List.length_append, nd_len, List.length_singleton]; omega, rfl⟩
    · rw [sbF_all]
      refine ⟨by rw [List.length_map, List.length_map, List.length_map]; omega, by omega, ?_⟩
      rw [subs, List.map_append]
  · rintro sl rt ⟨-, -, rfl, rfl⟩
    (rw [kont]; simp_arith)
    rw [rangeD_len]
/-- a subset as a key -/
def kz (s : List Nat) : List Key := s.map fun (k : Nat) => Sum.inl (k : Int)
theorem keysOf_nd : ∀ s : List Nat, keysOf (nd s) = some (kz s)
  | [] => rfl
  | a :: s => by
    show keysOf (.int (a : Int) :: nd s) = _
    rw [keysOf, keysOf_nd s]
    rfl
structure TabW (n : Nat) (M : List (List Int)) (w : Nat → Nat → Int) : Prop where
  at_ : ∀ a b, a < n → b < n → ∃ row, M[a]? = some row ∧ row[b]? = some (w a b)
def lcS (w : Nat → Nat → Int) (v : Nat) (y : D) : Option D := match y with
  | .int u => some (.int (w u.toNat v))
  | _ => none
theorem lcS_all {w : Nat → Nat → Int} {v : Nat} : ∀ l : List Nat, (nd l).filterMap (lcS w v) = (l.map fun u => w u v).map D.int
  | [] => rfl
  | u :: l => by
    have e : lcS w v (.int (u : Int)) = some (.int (w u v)) := rfl
    show (.int (u : Int) :: nd l).filterMap _ = _
    rw [List.filterMap_cons, e, lcS_all l]
    rfl
theorem gIxV_dtk {kvs : List (List Key × D)} {xs : List D} {k : List Key} {rt : List O} (h : keysOf xs = some k) : gIxV (.d (.dt kvs)) (.d (.tup xs)) rt = okD rt (dget kvs k) := by
  unfold gIxV
  simp only [h]
  cases dget kvs k <;> rfl
theorem price_of_ok {n : Nat} {M : List (List Int)} {w : Nat → Nat → Int} (hM : TabW n M w) {kvs : List (List Key × D)} {s : List Nat} (hs : ∀ a ∈ s, a < n) (hl : s.length ≤ 1000)
    (ht : ∀ i, i < s.length → dget kvs (kz (s.eraseIdx i)) = some (.int (mnv w (s.eraseIdx i)))) :
    wE (m__price_of [.d (tupM M), .d (.dt kvs), .d (.tup (nd s))] []) fun x rt => rt = [] ∧ x = .d (.int (mnv w s)) := by
  unfold m__price_of b__price_of
  simp only [w_mkF]
  simp_arith
  rw [kont]
  simp_arith
  refine w_for (fun xs L k sl rt => xs = enumD 0 (nd s) ∧ k ≤ s.length ∧ sl = [some (.d (tupM M)), some (.d (.dt kvs)), some (.d (.tup (nd s))), some (.r 0), none, none, none, none] ∧ rt = [.lst (((List.range k).map fun i => lastC w s i (mnv w (s.eraseIdx i))).map D.int)]) ?_
  simp_arith
  refine ⟨⟨by omega, rfl⟩, ?_, ?_⟩
  · rintro k x sl rt hx ⟨hks, rfl, rfl⟩
    rw [enumD_get] at hx
    obtain ⟨y, hy, rfl⟩ := Option.map_eq_some_iff.mp hx
    obtain ⟨v, hv, hm, rfl⟩ := nd_at hy
    have hk : k < s.length := (List.getElem?_eq_some_iff.mp hv).1
    rw [Int.zero_add]
    unfold b__price_of_2
    simp_arith
    refine (without_ok hk hl).imp ?_
    rintro _ _ ⟨rfl, rfl⟩
    simp_arith
    rw [kont]
    simp_arith
    rw [gIxV_dtk (keysOf_nd _), ht k hk]
    simp_arith
    refine w_compF (lcS w v) ?_
    simp_arith
    refine ⟨by rw [nd_len, List.length_eraseIdx_of_lt hk]; omega, fun i x acc hx => ?_, ?_⟩
    · obtain ⟨u, hu, hum, rfl⟩ := nd_at hx
      obtain ⟨row, h1, h2⟩ := hM.at_ u v (hs u (List.mem_of_mem_eraseIdx hum)) (hs v hm)
      unfold b__price_of_1
      rw [tupM]
      simp_arith
      rw [atI_map (f := fun r => D.tup (r.map D.int)) h1]
      simp_arith
      rw [atI_map h2]
      simp_arith
      rfl
    · rw [lcS_all, intsOf_map]
      simp_arith
      refine ⟨by rw [List.length_map, List.length_map, List.length_range]; omega, by omega, ?_⟩
      rw [List.range_succ, List.map_append, List.map_append]
      unfold lastC
      rw [List.map_cons, List.map_nil, List.map_cons, List.map_nil, List.getD_eq_getElem?_getD, hv]
      rfl
  · rintro sl rt ⟨-, rfl, rfl⟩
    rw [enumD_length, nd_len]
    (rw [kont]; simp_arith)
    rw [intsOf_map]
    cases s with
    | nil =>
      simp_arith
      exact ⟨rfl, rfl⟩
    | cons a s =>
      rw [List.length_cons, List.range_succ_eq_map, List.map_cons]
      simp_arith
      rw [mnv_eq (s := a :: s), List.length_cons, List.range_succ_eq_map, List.map_cons]
theorem dget_dput {κ : Type} [DecidableEq κ] {k k' : κ} {v : D} : ∀ {kvs : List (κ × D)}, dget (dput kvs k v) k' = if k = k' then some v else dget kvs k' := fun {kvs} => by
  unfold dput
  by_cases h : (kvs.any fun kv => decide (kv.1 = k)) = true
  · rw [if_pos h]
    induction kvs with
    | nil => simp at h
    | cons p kvs ih =>
      unfold dget
      rw [List.map_cons, List.find?_cons, List.find?_cons]
      by_cases hp : p.1 = k
      · rw [if_pos hp]
        by_cases hk : k = k'
        · subst hk
          simp [hp]
        · have : ¬ p.1 = k' := fun e => hk (hp.symm.trans e)
          simp only [hp, hk, decide_false, if_false]
          by_cases h2 : (kvs.any fun kv => decide (kv.1 = k)) = true
          · have := ih h2
            rw [if_neg hk] at this
            exact this
          · have e : kvs.map (fun kv => if kv.1 = k then (kv.1, v) else kv) = kvs := by
              refine (List.map_congr_left fun q hq => ?_).trans (List.map_id _)
              rw [if_neg]
              · rfl
              · intro e
                exact h2 (List.any_eq_true.mpr ⟨q, hq, by simpa using e⟩)
            rw [e]
      · rw [if_neg hp]
        have h2 : (kvs.any fun kv => decide (kv.1 = k)) = true := by
          rw [List.any_cons] at h
          simpa [hp] using h
        have := ih h2
        by_cases hq : p.1 = k'
        · have : ¬ k = k' := fun e => hp (hq.trans e.symm)
          simp [hq, this]
        · simp only [hq, decide_false]
          exact this
  · rw [if_neg h]
    unfold dget
    rw [List.find?_append]
    by_cases hk : k = k'
    · subst hk
      have : kvs.find? (fun kv => decide (kv.1 = k)) = none := by
        rw [List.find?_eq_none]
        intro q hq e
        exact h (List.any_eq_true.mpr ⟨q, hq, e⟩)
      rw [this]
      simp
    · simp [hk]
theorem kz_inj {s t : List Nat} (h : kz s = kz t) : s = t := by
  unfold kz at h
  refine List.map_inj_right (f := fun (k : Nat) => (Sum.inl (k : Int) : Key)) ?_ |>.mp h
  intro a b e
  injection e with e
  omega
theorem dput_len {κ : Type} [DecidableEq κ] {k : κ} {v : D} {kvs : List (κ × D)} : (dput kvs k v).length ≤ kvs.length + 1 := by
  unfold dput
  split
  · rw [List.length_map]; omega
  · rw [List.length_append]; exact Nat.le_refl _
theorem immDA_all {κ : Type} : ∀ {kvs : List (κ × D)}, immDA kvs = true ↔ ∀ p ∈ kvs, immD p.2 = true
  | [] => by simp [immDA]
  | p :: kvs => by rw [immDA, Bool.and_eq_true, immDA_all]; simp
theorem dput_imm {κ : Type} [DecidableEq κ] {k : κ} {v : D} {kvs : List (κ × D)} (hv : immD v = true) (h : immDA kvs = true) : immDA (dput kvs k v) = true := by
  rw [immDA_all] at *
  unfold dput
  split
  · intro p hp
    obtain ⟨q, hq, rfl⟩ := List.mem_map.mp hp
    split
    · exact hv
    · exact h q hq
  · intro p hp
    rcases List.mem_append.mp hp with hp | hp
    · exact h p hp
    · rw [List.mem_singleton.mp hp]; exact hv
theorem subset_table_ok {n : Nat} {M : List (List Int)} {w : Nat → Nat → Int} (hM : TabW n M w) (hMl : M.length = n) (hn : n ≤ 12) :
    wE (m_subset_table [.d (costD M)] []) fun x rt => ∃ kvs : List (List Key × D), x = .r 0 ∧ rt = [.dt kvs] ∧ immDA kvs = true ∧ ∀ s ∈ subs n, dget kvs (kz s) = some (.int (mnv w s)) := by
  unfold m_subset_table b_subset_table
  simp only [w_mkF]
  rw [show costD M = .obj C_Costs [("size", .int (M.length : Nat)), ("_rows", .lst (M.map rwD))] from rfl]
  simp_arith [ns5, ns6]
  refine (rows_ok (M := M) (by omega)).imp ?_
  rintro _ _ ⟨rfl, rfl⟩
  rw [lendQ_eq]
  simp_arith
  refine ⟨immDs_map (fun r => by rw [immD, immDs_int]) _, ?_⟩
  (rw [kont]; simp_arith)
  rw [kont]
  simp_arith
  refine w_for (fun xs L k sl rt => ∃ kvs : List (List Key × D), xs = (subs n).map (fun s => D.tup (nd s)) ∧ L = 1 ∧ k ≤ (subs n).length ∧ kvs.length ≤ k ∧ immDA kvs = true ∧ (∀ s ∈ (subs n).take k, dget kvs (kz s) = some (.int (mnv w s))) ∧
    sl = [some (.d (.obj C_Costs [("size", .int (M.length : Nat)), ("_rows", .lst (M.map rwD))])), some (.d (tupM M)), some (.r 0), none] ∧ rt = [.dt kvs]) ?_
  simp_arith
  rw [hMl]
  refine (subsets_ok (n := n) hn).imp ?_
  rintro _ _ ⟨rfl, rfl⟩
  simp_arith
  have hsl : (subs n).length ≤ 4096 := by
    rw [subs_len]
    exact Nat.pow_le_pow_right (n := 2) (by omega) (show n ≤ 12 by omega)
  refine ⟨⟨[], by omega, by simp, rfl, fun s h => h.elim, rfl, rfl⟩, ?_, ?_⟩
  · rintro k x sl rt hx ⟨kvs, hk1, hk2, hk3, hk4, rfl, rfl⟩
    obtain ⟨s, hs, hsm, rfl⟩ := mem_at hx
    have hk : k < (subs n).length := (List.getElem?_eq_some_iff.mp hs).1
    have hsn := (subs_sub hsm).length_le
    rw [List.length_range] at hsn
    unfold b_subset_table_1
    rw [tupM]
    simp_arith
    rw [← tupM]
    refine (price_of_ok hM (subs_lt hsm) (by omega) fun i hi => hk4 _ (subs_ahead hs hi)).imp ?_
    rintro _ _ ⟨rfl, rfl⟩
    rw [lendQ_eq]
    simp_arith
    rw [setR_dt (keysOf_nd s)]
    simp_arith
    refine ⟨by omega, dput kvs (kz s) (.int (mnv w s)), by omega, ?_, ?_, ?_, rfl⟩
    · have := dput_len (k := kz s) (v := .int (mnv w s)) (kvs := kvs)
      omega
    · exact dput_imm rfl hk3
    · intro t ht
      rw [dget_dput]
      by_cases e : kz s = kz t
      · rw [if_pos e, kz_inj e]
      · rw [if_neg e]
        rw [List.take_add_one, hs, List.mem_append] at ht
        rcases ht with ht | ht
        · exact hk4 t ht
        · have : t = s := by simpa using ht
          exact absurd (by rw [this]) e
  · rintro sl rt ⟨kvs, hk1, hk2, hk3, hk4, rfl, rfl⟩
    (rw [kont]; simp_arith)
    refine ⟨kvs, rfl, hk3, fun s hs => hk4 s ?_⟩
    rw [List.length_map, List.take_of_length_le (Nat.le_refl _)]
    exact hs
/-- the best first -/
theorem prOf_map : ∀ ps : List (Int × Int), prOf (ps.map prD) = some ps
  | [] => rfl
  | p :: ps => by
    show (prOf (ps.map prD)).map _ = _
    rw [prOf_map ps]
    rfl
def fcS (w : Nat → Nat → Int) (v : Nat) (y : D) : Option D := match y with
  | .int u => some (.int (w v u.toNat))
  | _ => none
theorem fcS_all {w : Nat → Nat → Int} {v : Nat} : ∀ l : List Nat, (nd l).filterMap (fcS w v) = (l.map fun u => w v u).map D.int
  | [] => rfl
  | u :: l => by
    have e : fcS w v (.int (u : Int)) = some (.int (w v u)) := rfl
    show (.int (u : Int) :: nd l).filterMap _ = _
    rw [List.filterMap_cons, e, fcS_all l]
    rfl
theorem best_first_ok {n : Nat} {M : List (List Int)} {w : Nat → Nat → Int} (hM : TabW n M w) {kvs : List (List Key × D)} {s : List Nat} (hne : s ≠ []) (hs : ∀ a ∈ s, a < n) (hl : s.length ≤ 1000)
    (ht : ∀ i, i < s.length → dget kvs (kz (s.eraseIdx i)) = some (.int (mnv w (s.eraseIdx i)))) :
    wE (m__best_first [.d (tupM M), .d (.dt kvs), .d (.tup (nd s))] []) fun x rt => rt = [] ∧ x = .d (.int (bst w s : Nat)) := by
  unfold m__best_first b__best_first
  simp only [w_mkF]
  simp_arith
  rw [kont]
  simp_arith
  refine w_for (fun xs L k sl rt => xs = enumD 0 (nd s) ∧ k ≤ s.length ∧ sl = [some (.d (tupM M)), some (.d (.dt kvs)), some (.d (.tup (nd s))), some (.r 0), none, none, none, none] ∧ rt = [.lst (((List.range k).map fun i => (firstC w s i (mnv w (s.eraseIdx i)), (i : Int))).map prD)]) ?_
  simp_arith
  refine ⟨⟨by omega, rfl⟩, ?_, ?_⟩
  · rintro k x sl rt hx ⟨hks, rfl, rfl⟩
    rw [enumD_get] at hx
    obtain ⟨y, hy, rfl⟩ := Option.map_eq_some_iff.mp hx
    obtain ⟨v, hv, hm, rfl⟩ := nd_at hy
    have hk : k < s.length := (List.getElem?_eq_some_iff.mp hv).1
    rw [Int.zero_add]
    unfold b__best_first_2
    simp_arith
    refine (without_ok hk hl).imp ?_
    rintro _ _ ⟨rfl, rfl⟩
    simp_arith
    rw [kont]
    simp_arith
    rw [gIxV_dtk (keysOf_nd _), ht k hk]
    simp_arith
    refine w_compF (fcS w v) ?_
    simp_arith
    refine ⟨by rw [nd_len, List.length_eraseIdx_of_lt hk]; omega, fun i x acc hx => ?_, ?_⟩
    · obtain ⟨u, hu, hum, rfl⟩ := nd_at hx
      obtain ⟨row, h1, h2⟩ := hM.at_ v u (hs v hm) (hs u (List.mem_of_mem_eraseIdx hum))
      unfold b__best_first_1
      rw [tupM]
      simp_arith
      rw [atI_map (f := fun r => D.tup (r.map D.int)) h1]
      simp_arith
      rw [atI_map h2]
      simp_arith
      rfl
    · rw [fcS_all, intsOf_map]
      simp_arith
      refine ⟨by rw [List.length_map, List.length_map, List.length_range]; omega, by omega, ?_⟩
      rw [List.range_succ, List.map_append, List.map_append]
      unfold firstC
      rw [List.map_cons, List.map_nil, List.map_cons, List.map_nil, List.getD_eq_getElem?_getD, hv]
      rfl
  · rintro sl rt ⟨-, rfl, rfl⟩
    rw [enumD_length, nd_len]
    (rw [kont]; simp_arith)
    rw [prOf_map]
    have hb := (bst_ok (w := w) hne).2.1
    rw [show (List.range s.length).map (fun i => (firstC w s i (mnv w (s.eraseIdx i)), (i : Int))) = bfs w s from rfl]
    cases hbf : bfs w s with
    | nil =>
      have := congrArg List.length hbf
      simp [bfs] at this
      exact absurd this hne
    | cons p ps =>
      rw [← hbf]
      rw [hbf] at hb ⊢
      simp_arith
      rw [hb]
theorem least_order_ok {n : Nat} {M : List (List Int)} {w : Nat → Nat → Int} (hM : TabW n M w) (hMl : M.length = n) (hn : n ≤ 12) :
    wE (m_least_order [.d (costD M)] []) fun x rt => rt = [] ∧ x = .d (.tup [.int (mnv w (List.range n)), .tup (nd (lo w (List.range n)))]) := by
  unfold m_least_order b_least_order
  simp only [w_mkF]
  rw [show costD M = .obj C_Costs [("size", .int (M.length : Nat)), ("_rows", .lst (M.map rwD))] from rfl]
  simp_arith [ns5, ns6]
  refine (rows_ok (M := M) (by omega)).imp ?_
  rintro _ _ ⟨rfl, rfl⟩
  rw [lendQ_eq]
  simp_arith
  refine ⟨immDs_map (fun r => by rw [immD, immDs_int]) _, ?_⟩
  (rw [kont]; simp_arith)
  rw [show (D.obj C_Costs [("size", .int (M.length : Nat)), ("_rows", .lst (M.map rwD))]) = costD M from rfl]
  refine (subset_table_ok hM hMl hn).imp ?_
  rintro _ _ ⟨kvs, rfl, rfl, him, hkv⟩
  rw [lendQ_eq]
  simp_arith [him]
  rw [kont]
  rw [show costD M = .obj C_Costs [("size", .int (M.length : Nat)), ("_rows", .lst (M.map rwD))] from rfl]
  simp_arith [ns5, ns6]
  rw [hMl, show ((n : Int)).toNat = n by omega, lrg_nd]
  refine ⟨⟨by omega, by omega⟩, ?_⟩
  rw [kont]
  simp_arith
  rw [gIxV_dtk (keysOf_nd _), hkv _ (subs_mem (List.Sublist.refl _))]
  simp_arith
  rw [kont]
  simp_arith
  rw [kont, w_seq]
  refine w_while (fun m sl rt => ∃ left ord : List Nat, left.Sublist (List.range n) ∧ left.length = m ∧ ord ++ lo w left = lo w (List.range n) ∧ ord.length ≤ n ∧
    sl = [some (.d (.obj C_Costs [("size", .int (n : Nat)), ("_rows", .lst (M.map rwD))])), some (.d (tupM M)), some (.d (.dt kvs)), some (.d (.tup (nd left))), some (.d (.int (mnv w (List.range n)))), some (.r 0), none] ∧ rt = [.lst (nd ord)]) n ⟨List.range n, [], List.Sublist.refl _, List.length_range, rfl, by simp, rfl, rfl⟩ ?_
  rintro m sl rt ⟨left, ord, hsub, hm, hlo, hol, rfl, rfl⟩
  have hll := hsub.length_le
  rw [List.length_range] at hll
  unfold b_least_order_1
  simp_arith [nd_len, hm]
  by_cases h0 : (m : Int) > 0
  · rw [if_pos h0]
    have hne : left ≠ [] := fun e => by subst e; simp at hm; omega
    obtain ⟨hb, _, _, _⟩ := bst_ok (w := w) hne
    unfold b_least_order_2
    simp_arith
    refine (best_first_ok hM hne (subs_lt (subs_mem hsub)) (by omega) fun i hi => hkv _ (subs_mem ((List.eraseIdx_sublist _ _).trans hsub))).imp ?_
    rintro _ _ ⟨rfl, rfl⟩
    simp_arith
    rw [kont]
    simp_arith
    rw [atI_nd (List.getElem?_eq_getElem hb)]
    simp_arith
    rw [kont]
    simp_arith
    refine ⟨by rw [nd_len]; omega, ?_⟩
    refine (without_ok hb (by omega)).imp ?_
    rintro _ _ ⟨rfl, rfl⟩
    simp_arith
    have hll2 := congrArg List.length hlo
    rw [List.length_append, (lo_perm (w := w) _ left rfl).1.length_eq, (lo_perm (w := w) _ (List.range n) rfl).1.length_eq, List.length_range] at hll2
    refine ⟨m - 1, by omega, left.eraseIdx (bst w left), ord ++ [left[bst w left]], (List.eraseIdx_sublist _ _).trans hsub, by rw [List.length_eraseIdx_of_lt hb, hm], ?_, by rw [List.length_append, List.length_singleton]; omega, rfl, by rw [nd_add]⟩
    rw [← hlo, lo_cons hne, getD_at hb, List.append_assoc]
    rfl
  · rw [if_neg h0]
    have : left = [] := List.length_eq_zero_iff.mp (by omega)
    subst this
    rw [lo_nil, List.append_nil] at hlo
    (rw [kont]; simp_arith)
    rw [hlo]






/-! lexicographic comparison, turned costs, sums, the pair bound -/
def nI (s : List Nat) : List Int := s.map fun (k : Nat) => (k : Int)
theorem lex_not : ∀ {l m : List Nat}, LexLe l m → l.length = m.length → HT.lexLt (nI m) (nI l) = false
  | _, [], .nil, _ => rfl
  | _, _ :: _, .nil, h => by simp at h
  | _, _, .lt (a := a) (b := b) (l := l) (m := m) h, _ => by
    show (if (b : Int) = (a : Int) then _ else decide ((b : Int) < (a : Int))) = false
    rw [if_neg (by omega)]
    exact decide_eq_false (by omega)
  | _, _, .eq (a := a) (l := l) (m := m) h, hl => by
    show (if (a : Int) = (a : Int) then HT.lexLt (nI m) (nI l) else _) = false
    rw [if_pos rfl]
    exact lex_not h (by simpa using hl)
theorem psZ_congr {w v : Nat → Nat → Int} : ∀ {l : List Nat}, (∀ a ∈ l, ∀ b ∈ l, w a b = v a b) → psZ w l = psZ v l
  | [], _ => rfl
  | a :: l, h => by
    rw [psZ, psZ, sumZ_congr fun x hx => h a (List.mem_cons_self ..) x (List.mem_cons_of_mem _ hx), psZ_congr fun x hx y hy => h x (List.mem_cons_of_mem _ hx) y (List.mem_cons_of_mem _ hy)]
theorem psZ_add {w v : Nat → Nat → Int} : ∀ l : List Nat, psZ (fun a b => w a b + v a b) l = psZ w l + psZ v l
  | [] => rfl
  | a :: l => by
    rw [psZ, psZ, psZ, psZ_add l, sumZ_add]
    omega
theorem sumZ_mono {f g : Nat → Int} (h : ∀ a, f a ≤ g a) : ∀ l : List Nat, (l.map f).sum ≤ (l.map g).sum
  | [] => Int.le_refl _
  | b :: l => by
    rw [List.map_cons, List.map_cons, List.sum_cons, List.sum_cons]
    have := sumZ_mono h l
    have := h b
    omega
theorem psZ_mono {w v : Nat → Nat → Int} (h : ∀ a b, w a b ≤ v a b) : ∀ l : List Nat, psZ w l ≤ psZ v l
  | [] => Int.le_refl _
  | a :: l => by
    have h1 := psZ_mono h l
    have h2 := sumZ_mono (h a) l
    rw [psZ, psZ]
    omega
theorem psZ_rev {w : Nat → Nat → Int} : ∀ l : List Nat, psZ w l.reverse = psZ (fun a b => w b a) l
  | [] => rfl
  | a :: l => by
    rw [List.reverse_cons, psZ_snoc, psZ_rev l, psZ]
    have : (l.reverse.map fun y => w y a).sum = (l.map fun y => w y a).sum := sumZ_perm l.reverse_perm
    rw [this]
    omega
theorem psZ_symm {w : Nat → Nat → Int} (hw : ∀ a b, w a b = w b a) {l m : List Nat} (h : l.Perm m) : psZ w l = psZ w m := by
  induction h with
  | nil => rfl
  | cons x h ih => rw [psZ, psZ, ih, sumZ_perm h]
  | swap x y l =>
    simp only [psZ, List.map_cons, List.sum_cons]
    rw [hw x y]
    omega
  | trans _ _ h1 h2 => exact h1.trans h2
theorem mnv_congr {w v : Nat → Nat → Int} {s : List Nat} (h : ∀ a ∈ s, ∀ b ∈ s, w a b = v a b) : mnv w s = mnv v s := by
  refine IsMin.uniq (w := v) (s := s) ?_ (mnv_ok s)
  have hc : ∀ o : List Nat, o.Perm s → psZ v o = psZ w o := fun o ho => psZ_congr fun a ha b hb => (h a (ho.mem_iff.mp ha) b (ho.mem_iff.mp hb)).symm
  refine ⟨?_, fun o ho => by rw [hc o ho]; exact (mnv_ok s).le o ho⟩
  obtain ⟨o, ho, e⟩ := (mnv_ok (w := w) s).ex
  exact ⟨o, ho, by rw [hc o ho, e]⟩
theorem mnv_flip {w : Nat → Nat → Int} {s : List Nat} : mnv (fun a b => w b a) s = mnv w s := by
  refine IsMin.uniq (w := w) (s := s) ?_ (mnv_ok s)
  refine ⟨?_, fun o ho => ?_⟩
  · obtain ⟨o, ho, e⟩ := (mnv_ok (w := fun a b => w b a) s).ex
    exact ⟨o.reverse, o.reverse_perm.trans ho, by rw [psZ_rev, e]⟩
  · have := (mnv_ok (w := fun a b => w b a) s).le o.reverse (o.reverse_perm.trans ho)
    rw [psZ_rev] at this
    exact this
theorem mnv_add {w v : Nat → Nat → Int} {s : List Nat} : mnv w s + mnv v s ≤ mnv (fun a b => w a b + v a b) s := by
  obtain ⟨o, ho, e⟩ := (mnv_ok (w := fun a b => w a b + v a b) s).ex
  rw [psZ_add] at e
  have := (mnv_ok (w := w) s).le o ho
  have := (mnv_ok (w := v) s).le o ho
  omega
/-- the pair bound, by the places of an order -/
def bnd (w : Nat → Nat → Int) (n : Nat) : Int := psZ (fun a b => min (w a b) (w b a)) (List.range n)
theorem bnd_le {w : Nat → Nat → Int} {n : Nat} : bnd w n ≤ mnv w (List.range n) := by
  obtain ⟨o, ho, e⟩ := (mnv_ok (w := w) (List.range n)).ex
  rw [← e]
  unfold bnd
  rw [← psZ_symm (fun a b => Int.min_comm _ _) ho]
  exact psZ_mono (fun a b => Int.min_le_left _ _) o
theorem sum_range_succ {f : Nat → Int} {n : Nat} : ((List.range (n + 1)).map f).sum = ((List.range n).map f).sum + f n := by
  rw [List.range_succ, List.map_append, List.sum_append]
  simp
/-- by the second number of each pair -/
theorem bnd_succ {w : Nat → Nat → Int} {n : Nat} : bnd w (n + 1) = bnd w n + ((List.range n).map fun a => min (w a n) (w n a)).sum := by
  unfold bnd
  rw [List.range_succ, psZ_snoc]
/-- by the first -/
def rowB (w : Nat → Nat → Int) (n a : Nat) : Int := ((List.range (n - (a + 1))).map fun k => min (w a (a + 1 + k)) (w (a + 1 + k) a)).sum
theorem psZ_range' {w : Nat → Nat → Int} : ∀ (k a n : Nat), n = a + k → psZ w (List.range' a k) = ((List.range k).map fun i => ((List.range (n - (a + i + 1))).map fun j => w (a + i) (a + i + 1 + j)).sum).sum
  | 0, _, _, _ => rfl
  | k + 1, a, n, h => by
    rw [List.range'_succ, psZ, psZ_range' k (a + 1) n (by omega), List.range_succ_eq_map, List.map_cons, List.sum_cons, List.map_map]
    congr 1
    · rw [show n - (a + 0 + 1) = k by omega, List.range'_eq_map_range, List.map_map]
      rfl
    · congr 1
      refine List.map_congr_left fun i _ => ?_
      simp only [Function.comp]
      rw [show a + 1 + i = a + (i + 1) by omega]
theorem bnd_rows {w : Nat → Nat → Int} {n : Nat} : bnd w n = ((List.range n).map (rowB w n)).sum := by
  unfold bnd
  rw [List.range_eq_range', psZ_range' n 0 n (by omega), ← List.range_eq_range']
  congr 1
  refine List.map_congr_left fun i _ => ?_
  simp only [Nat.zero_add]
  rfl
theorem bnd_congr {w v : Nat → Nat → Int} {n : Nat} (h : ∀ a, a < n → ∀ b, b < n → w a b = v a b) : bnd w n = bnd v n := by
  unfold bnd
  refine psZ_congr fun a ha b hb => ?_
  rw [List.mem_range] at ha hb
  rw [h a ha b hb, h b hb a ha]







theorem tabW_of {n : Nat} {R : List (List Int)} (hl : R.length = n) (hs : ∀ r ∈ R, r.length = n) : TabW n R (ent R) := ⟨fun a b ha hb => by
  obtain ⟨row, h1, h2, _⟩ := ent_at hl hs ha hb
  exact ⟨row, h1, h2⟩⟩
def liF (R : List (List Int)) (a b : Nat) : Int := if a = b then 0 else 1000000000 - ent R a b
theorem SqU.le {n : Nat} {R : List (List Int)} (h : SqU n R) (hl : R.length = n) {a b : Nat} (ha : a < n) (hb : b < n) : ent R a b ≤ 1000000000 := by
  obtain ⟨row, h1, h2, _⟩ := ent_at hl h.z.sq ha hb
  exact ((h.row a row h1).2.2 _ (List.mem_of_getElem? h2)).2
theorem lifted_ok {g : List D} (hb : IsBag g) {n : Nat} (hn : n ≤ 1000) {R : List (List Int)} (hS : SqU n R) (hR : R.length = n) :
    wE (m__law_lifted [.r 0, .d (lstM R)] [.lst g]) fun x rt => ∃ g' S, IsBag g' ∧ SqZ n S ∧ S.length = n ∧ ((x = .d (lstM S) ∧ rt = [.lst g']) ∨ (x = .r 1 ∧ rt = [.lst g', .lst (S.map rwD)])) := by
  unfold m__law_lifted b__law_lifted
  simp only [w_mkF]
  simp_arith
  (refine wE.imp (draw_ok hb (divOk_of (by omega) (by omega))) ?_; intro _ _ ⟨k, g, ee1, ee2, hb, k0, k1⟩; subst ee1 ee2)
  simp_arith
  by_cases hk : k > 0
  · simp_arith [hk]
    exact ⟨g, R, hb, hS.z, hR, .inl ⟨rfl, rfl⟩⟩
  · simp_arith [hk]
    rw [kont]
    simp_arith [lstM, List.length_map, hR]
    rw [kont]
    simp_arith
    refine w_compF (rgF fun a => .lst (((List.range n).map (liF R a)).map D.int)) ?_
    simp_arith
    rw [show ((n : Int)).toNat = n by omega]
    refine ⟨⟨by omega, by omega⟩, by rw [rangeD_len]; omega, fun i x acc hx => ?_, ?_⟩
    · obtain ⟨hi, rfl⟩ := rangeD_at hx
      unfold b__law_lifted_2
      refine w_compF (rgF fun b => .int (liF R i b)) ?_
      simp_arith
      rw [show ((n : Int)).toNat = n by omega]
      refine ⟨⟨by omega, by omega⟩, by rw [rangeD_len]; omega, fun j x acc2 hx => ?_, ?_⟩
      · obtain ⟨hj, rfl⟩ := rangeD_at hx
        obtain ⟨row, h1, h2, _⟩ := ent_at hR hS.z.sq hi hj
        unfold b__law_lifted_1
        by_cases hij : i = j
        · subst hij
          simp_arith
          rw [rgF_nat, liF, if_pos rfl]
        · have e : ((i : Int) = (j : Int)) = False := eq_false (by omega)
          simp_arith [e]
          rw [atI_map h1]
          simp_arith [rwD]
          rw [atI_map h2]
          simp_arith
          rw [rgF_nat, liF, if_neg hij]
      · rw [rgF_all, rgF_nat, List.map_map]
        rfl
    · rw [rgF_all]
      refine ⟨g, tab n (liF R), hb, SqZ_tab (fun a _ => if_pos rfl) fun a ha b hb => ?_, tab_len, .inr ?_⟩
      · unfold liF
        split
        · omega
        · have := hS.le hR ha hb
          omega
      · unfold tab
        rw [List.map_map]
        rfl
theorem take_snoc {α : Type} {l : List α} {i : Nat} {x : α} (h : l[i]? = some x) : l.take (i + 1) = l.take i ++ [x] := by rw [List.take_add_one, h]; rfl
theorem lstM_at {n : Nat} {R : List (List Int)} (hl : R.length = n) (hs : ∀ r ∈ R, r.length = n) {a b : Nat} (ha : a < n) (hb : b < n) {rt : List O} {Q : W → List O → Prop} (h : Q (.d (.int (ent R a b))) rt) :
    wE (gIxV (.d (lstM R)) (.d (.int (a : Int))) rt) fun x rt => wE (gIxV x (.d (.int (b : Int))) rt) Q := by
  obtain ⟨row, h1, h2, _⟩ := ent_at hl hs ha hb
  rw [lstM]
  simp_arith
  rw [atI_map h1]
  simp_arith [rwD]
  rw [atI_map h2]
  simp_arith
  exact h
theorem rangeD2_at {a m i : Nat} {x : D} (h : (rangeD (a : Int) m)[i]? = some x) : i < m ∧ x = .int ((a + i : Nat) : Int) := by
  obtain ⟨h1, h2⟩ := rangeD_at2 h
  exact ⟨h1, by rw [h2]; rfl⟩
/-- the pairs up to the place i, and of i up to k -/
def opP (w : Nat → Nat → Int) (o : List Nat) (i : Nat) : Int := ((List.range i).map fun j => ((o.drop (j + 1)).map (w (o.getD j 0))).sum).sum
theorem opP_succ {w : Nat → Nat → Int} {o : List Nat} {i : Nat} : opP w o (i + 1) = opP w o i + ((o.drop (i + 1)).map (w (o.getD i 0))).sum := sum_range_succ
theorem opP_all {w : Nat → Nat → Int} : ∀ o : List Nat, opP w o o.length = psZ w o
  | [] => rfl
  | a :: o => by
    unfold opP
    rw [List.length_cons, List.range_succ_eq_map, List.map_cons, List.sum_cons, List.map_map, psZ, ← opP_all o]
    rfl
/-- y is the order o -/
structure IsO (y : D) (o : List Nat) : Prop where
  len : ∀ rt, lenD (.d y) rt = some o.length
  at_ : ∀ k rt, gIxV (.d y) (.d (.int k)) rt = okD rt (atI (nd o) k)
  tp : tpOf (.d y) = some (nd o)
theorem IsO.t {o : List Nat} : IsO (.tup (nd o)) o := ⟨fun rt => by rw [lenD_tup, nd_len], fun k rt => gIxV_tup, rfl⟩
theorem IsO.k {o : List Nat} : IsO (.ktup (nd o)) o := ⟨fun rt => by rw [lenD_ktup, nd_len], fun k rt => gIxV_ktup, rfl⟩
theorem order_due_ok {n : Nat} {R : List (List Int)} (hl : R.length = n) (hs : ∀ r ∈ R, r.length = n) {o : List Nat} (ho : ∀ a ∈ o, a < n) (hol : o.length ≤ 1000) {y : D} (hy : IsO y o) :
    wE (m__law_order_price [.d (lstM R), .d y] []) fun x rt => rt = [] ∧ x = .d (.int (psZ (ent R) o)) := by
  unfold m__law_order_price b__law_order_price
  simp only [w_mkF]
  simp_arith
  rw [kont, w_seq]
  refine w_for (fun xs L i sl rt => xs = rangeD 0 o.length ∧ i ≤ o.length ∧ sl = [some (.d (lstM R)), some (.d y), some (.d (.int (opP (ent R) o i))), none, none] ∧ rt = []) ?_
  simp_arith [hy.len]
  rw [show ((o.length : Int)).toNat = o.length by omega]
  refine ⟨⟨by omega, by omega⟩, ⟨rfl, by omega, rfl⟩, ?_, ?_⟩
  · rintro i x sl rt hx ⟨-, hio, rfl, rfl⟩
    obtain ⟨hi, rfl⟩ := rangeD_at hx
    unfold b__law_order_price_2
    simp_arith [hy.len]
    refine w_for (fun xs L k sl rt => xs = rangeD ((i + 1 : Nat) : Int) (o.length - (i + 1)) ∧ k ≤ o.length - (i + 1) ∧ sl = [some (.d (lstM R)), some (.d y), some (.d (.int (opP (ent R) o i + (((o.drop (i + 1)).take k).map (ent R (o.getD i 0))).sum))), some (.d (.int (i : Int))), none] ∧ rt = []) ?_
    simp_arith [hy.len]
    rw [show ((o.length : Int) - ((i : Int) + 1)).toNat = o.length - (i + 1) by omega]
    refine ⟨⟨by omega, by omega⟩, ⟨rfl, by omega, ?_⟩, ?_, ?_⟩
    · rw [List.sum_nil, Int.add_zero]
    · rintro k x sl rt hx ⟨-, hk1, rfl, rfl⟩
      obtain ⟨hk, rfl⟩ := rangeD2_at (a := i + 1) hx
      have hk2 : i + 1 + k < o.length := by omega
      have e1 : o[i]? = some (o.getD i 0) := by rw [getD_at hi, List.getElem?_eq_getElem hi]
      have e2 : o[i + 1 + k]? = some (o.getD (i + 1 + k) 0) := by rw [getD_at hk2, List.getElem?_eq_getElem hk2]
      have h1 := ho _ (List.mem_of_getElem? e1)
      have h2 := ho _ (List.mem_of_getElem? e2)
      have e3 : (o.drop (i + 1)).take (k + 1) = (o.drop (i + 1)).take k ++ [o.getD (i + 1 + k) 0] := take_snoc (by rw [List.getElem?_drop]; exact e2)
      rw [e3, List.map_append, List.sum_append]
      unfold b__law_order_price_1
      simp_arith
      rw [hy.at_, atI_nd e1]
      obtain ⟨row, r1, r2, _⟩ := ent_at hl hs h1 h2
      rw [lstM]
      simp_arith
      rw [atI_map r1]
      simp_arith [rwD]
      rw [hy.at_, atI_nd e2]
      simp_arith
      rw [atI_map r2]
      simp_arith
      refine ⟨rfl, by omega, ?_⟩
      rw [List.sum_cons, List.sum_nil, Int.add_zero, Int.add_assoc]
    · rintro sl rt ⟨-, -, rfl, rfl⟩
      rw [rangeD_len, opP_succ, List.take_of_length_le (by rw [List.length_drop]; omega)]
      simp_arith
      omega
  · rintro sl rt ⟨-, -, rfl, rfl⟩
    rw [rangeD_len, opP_all]
    (rw [kont]; simp_arith)
theorem wholes_ok {o : List Nat} (hl : o.length ≤ 1000) : wE (m__law_wholes [.d (.tup (nd o)), .d (.int (o.length : Nat))] []) fun x rt => rt = [] ∧ x = .d (.bl true) := by
  unfold m__law_wholes b__law_wholes
  simp only [w_mkF]
  simp_arith [nd_len]
  rw [kont, w_seq]
  refine w_for (fun xs L i sl rt => sl = [some (.d (.tup (nd o))), some (.d (.int (o.length : Nat))), none] ∧ rt = []) ?_
  simp_arith
  refine ⟨?_, ?_⟩
  · rintro i x sl rt hx ⟨rfl, rfl⟩
    obtain ⟨v, _, _, rfl⟩ := nd_at hx
    unfold b__law_wholes_1
    simp_arith
    refine whole_ok.imp ?_
    rintro _ _ ⟨rfl, rfl⟩
    simp_arith
  · rintro sl rt ⟨rfl, rfl⟩
    (rw [kont]; simp_arith)
/-- what is told -/
def ansD (w : Nat → Nat → Int) (n : Nat) : D := .tup [.int (mnv w (List.range n)), .tup (nd (lo w (List.range n)))]
theorem nd_nI (o : List Nat) : nd o = (nI o).map D.int := by unfold nd nI; rw [List.map_map]; rfl
theorem lo_ok {w : Nat → Nat → Int} {n : Nat} : (lo w (List.range n)).Perm (List.range n) := (lo_perm _ _ rfl).1
theorem lo_len {w : Nat → Nat → Int} {n : Nat} : (lo w (List.range n)).length = n := by rw [lo_ok.length_eq, List.length_range]
theorem lo_lt {w : Nat → Nat → Int} {n : Nat} : ∀ a ∈ lo w (List.range n), a < n := fun a ha => List.mem_range.mp (lo_ok.mem_iff.mp ha)
theorem srt_lo {o : List Nat} {n : Nat} (ho : o.Perm (List.range n)) : srtI (nI o) = nI (List.range n) := by
  refine sorted_uniq ((srtI_perm _).trans (ho.map _)) (srtI_le _) ?_
  unfold nI
  rw [List.pairwise_map]
  exact List.pairwise_lt_range.imp fun h => by omega
theorem is_told_ok {n : Nat} (hn : n ≤ 1000) {R : List (List Int)} (hl : R.length = n) (hs : ∀ r ∈ R, r.length = n) :
    wE (m__law_is_told [.d (ansD (ent R) n), .d (lstM R)] []) fun x rt => rt = [] ∧ x = .d (.bl true) := by
  have hlen : ∀ rt, lenD (W.d (lstM R)) rt = some n := fun rt => by rw [lstM, lenD_lst, List.length_map, hl]
  unfold m__law_is_told b__law_is_told ansD
  simp only [w_mkF]
  simp_arith
  refine whole_ok.imp ?_
  rintro _ _ ⟨rfl, rfl⟩
  simp_arith
  rw [kont]
  simp_arith [hlen]
  have hw := wholes_ok (o := lo (ent R) (List.range n)) (by rw [lo_len]; exact hn)
  rw [lo_len] at hw
  refine hw.imp ?_
  rintro _ _ ⟨rfl, rfl⟩
  simp_arith
  rw [nd_nI, ints_map]
  simp_arith
  refine ⟨⟨by omega, by omega⟩, ?_⟩
  rw [show ((n : Int)).toNat = n by omega, lrg_nd, nd_nI, srt_lo lo_ok, eqD_ints, decide_eq_true rfl]
  simp_arith
  rw [kont]
  simp_arith
  rw [← nd_nI]
  refine (order_due_ok hl hs lo_lt (by rw [lo_len]; exact hn) .t).imp ?_
  rintro _ _ ⟨rfl, rfl⟩
  rw [(lo_perm _ _ rfl).2]
  simp_arith
theorem beats_ok {n : Nat} (hn : n ≤ 1000) {R : List (List Int)} (hl : R.length = n) (hs : ∀ r ∈ R, r.length = n) {o : List Nat} (ho : o.Perm (List.range n)) {y : D} (hy : IsO y o) :
    wE (m__law_beats [.d (lstM R), .d (ansD (ent R) n), .d y] []) fun x rt => rt = [] ∧ x = .d (.bl false) := by
  have hol : o.length = n := by rw [ho.length_eq, List.length_range]
  have hlt : ∀ a ∈ o, a < n := fun a ha => List.mem_range.mp (ho.mem_iff.mp ha)
  have h1 := (mnv_ok (w := ent R) (List.range n)).le o ho
  unfold m__law_beats b__law_beats ansD
  simp only [w_mkF]
  simp_arith
  refine (order_due_ok hl hs hlt (by omega) hy).imp ?_
  rintro _ _ ⟨rfl, rfl⟩
  simp_arith
  rw [kont]
  simp_arith
  by_cases he : psZ (ent R) o = mnv (ent R) (List.range n)
  · have hx := lex_not (lo_lex _ (List.range n) rfl List.pairwise_lt_range o ho he) (by rw [lo_len, hol])
    rw [he]
    simp_arith [hy.tp, nd_nI, ints_map]
    rw [if_neg (by omega), hx]
  · have e1 : decide (psZ (ent R) o < mnv (ent R) (List.range n)) = false := decide_eq_false (by omega)
    have e2 : decide (psZ (ent R) o = mnv (ent R) (List.range n)) = false := decide_eq_false he
    rw [if_neg (by omega), if_neg he]
    trivial
theorem stayed_ok {R : List (List Int)} (hn : R.length ≤ 1000) (hr : ∀ r ∈ R, r.length = R.length) : wE (m__law_stayed [.d (costD R), .d (lstM R)] []) fun x rt => rt = [] ∧ x = .d (.bl true) := by
  unfold m__law_stayed b__law_stayed
  simp only [w_mkF]
  rw [show costD R = .obj C_Costs [("size", .int (R.length : Nat)), ("_rows", .lst (R.map rwD))] from rfl]
  simp_arith [ns5, ns6]
  refine (rows_ok hn).imp ?_
  rintro x rt ⟨rfl, rfl⟩
  rw [lendQ_eq]
  simp_arith [lstM]
  refine ⟨immDs_map (fun r => by rw [immD, immDs_int]) _, ?_⟩
  refine w_compF tlF ?_
  simp_arith
  refine ⟨by rw [List.length_map]; omega, fun i x acc hx => ?_, ?_⟩
  · obtain ⟨r, _, _, rfl⟩ := mem_at hx
    unfold b__law_stayed_1
    simp_arith [rwD]
    rfl
  · rw [tlF_all]
    refine (same_rows 9 hn fun r h => by rw [hr r h]; exact hn).imp ?_
    rintro _ _ ⟨rfl, rfl⟩
    simp_arith
theorem getitem_ok {M : List (List Int)} {a b : Nat} {r : List Int} {v : Int} (hr : M[a]? = some r) (hv : r[b]? = some v) (hb : b < M.length) (hab : a ≠ b) :
    wE (m_Costs___getitem__ [.d (costD M), .d (.tup [.int (a : Int), .int (b : Int)])] []) fun x rt => rt = [] ∧ x = .d (.int v) := by
  have ha : a < M.length := (List.getElem?_eq_some_iff.mp hr).1
  unfold m_Costs___getitem__ b_Costs___getitem__
  simp only [w_mkF]
  simp_arith
  rw [kont]
  rw [show costD M = .obj C_Costs [("size", .int (M.length : Nat)), ("_rows", .lst (M.map rwD))] from rfl]
  simp_arith [ns1, ns2]
  refine (has_ok ha hb hab).imp fun x rt h => ?_
  obtain ⟨rfl, rfl⟩ := h
  rw [lendQ_eq]
  simp_arith
  rw [kont]
  simp_arith [nsr]
  rw [atI_map hr]
  simp_arith [rwD]
  rw [atI_map hv]
  simp_arith
theorem pair_bound_ok {n : Nat} {M : List (List Int)} {w : Nat → Nat → Int} (hM : TabW n M w) (hMl : M.length = n) (hn : n ≤ 1000) :
    wE (m_pair_bound [.d (costD M)] []) fun x rt => rt = [] ∧ x = .d (.int (bnd w n)) := by
  unfold m_pair_bound b_pair_bound
  simp only [w_mkF]
  rw [show costD M = .obj C_Costs [("size", .int (M.length : Nat)), ("_rows", .lst (M.map rwD))] from rfl]
  simp_arith
  rw [kont, w_seq]
  refine w_for (fun xs L b sl rt => xs = rangeD 0 n ∧ b ≤ n ∧ sl = [some (.d (costD M)), some (.d (.int (bnd w b))), none, none] ∧ rt = []) ?_
  simp_arith [nrs, nsr, hMl]
  rw [show ((n : Int)).toNat = n by omega]
  refine ⟨⟨by omega, by omega⟩, ⟨rfl, by omega, by rw [costD, hMl]; rfl⟩, ?_, ?_⟩
  · rintro b x sl rt hx ⟨-, hbn, rfl, rfl⟩
    obtain ⟨hb, rfl⟩ := rangeD_at hx
    unfold b_pair_bound_2
    simp_arith
    refine w_for (fun xs L k sl rt => xs = rangeD 0 b ∧ k ≤ b ∧ sl = [some (.d (costD M)), some (.d (.int (bnd w b + ((List.range k).map fun a => min (w a b) (w b a)).sum))), some (.d (.int (b : Int))), none] ∧ rt = []) ?_
    simp_arith
    rw [show ((b : Int)).toNat = b by omega]
    refine ⟨⟨by omega, by omega⟩, ⟨rfl, by omega, by simp⟩, ?_, ?_⟩
    · rintro a x sl rt hx ⟨-, hab, rfl, rfl⟩
      obtain ⟨ha, rfl⟩ := rangeD_at hx
      obtain ⟨r1, h1, h2⟩ := hM.at_ a b (by omega) hb
      obtain ⟨r2, h3, h4⟩ := hM.at_ b a hb (by omega)
      unfold b_pair_bound_1
      rw [show costD M = .obj C_Costs [("size", .int (M.length : Nat)), ("_rows", .lst (M.map rwD))] from rfl]
      simp_arith [ns7, ns8]
      refine (getitem_ok h1 h2 (by omega) (by omega)).imp ?_
      rintro _ _ ⟨rfl, rfl⟩
      rw [lendQ_eq]
      simp_arith [ns7, ns8]
      refine (getitem_ok h3 h4 (by omega) (by omega)).imp ?_
      rintro _ _ ⟨rfl, rfl⟩
      rw [lendQ_eq]
      simp_arith
      refine ⟨by omega, ?_⟩
      rw [sum_range_succ, Int.add_assoc]
    · rintro sl rt ⟨-, -, rfl, rfl⟩
      rw [rangeD_len, bnd_succ]
      simp_arith
      omega
  · rintro sl rt ⟨-, -, rfl, rfl⟩
    rw [rangeD_len]
    (rw [kont]; simp_arith)







def dbG (f : Nat → Int) (a : Nat) (y : D) : Option D := match y with
  | .int p => some (.int (f (p.toNat - a)))
  | _ => none
theorem dbG_all {f : Nat → Int} {a m : Nat} : (rangeD (a : Int) m).filterMap (dbG f a) = ((List.range m).map f).map D.int := by
  unfold rangeD
  rw [List.map_map]
  induction List.range m with
  | nil => rfl
  | cons k l ih =>
    rw [List.map_cons, List.filterMap_cons, ih]
    have e : dbG f a (.int ((a : Int) + (k : Int))) = some (.int (f k)) := by
      show some _ = _
      rw [show ((a : Int) + (k : Int)).toNat - a = k by omega]
    rw [e]
    rfl
theorem due_bound_ok {n : Nat} (hn : n ≤ 1000) {R : List (List Int)} (hl : R.length = n) (hs : ∀ r ∈ R, r.length = n) :
    wE (m__law_due_bound [.d (lstM R)] []) fun x rt => rt = [] ∧ x = .d (.int (bnd (ent R) n)) := by
  have hlen : ∀ rt, lenD (W.d (lstM R)) rt = some n := fun rt => by rw [lstM, lenD_lst, List.length_map, hl]
  unfold m__law_due_bound b__law_due_bound
  simp only [w_mkF]
  simp_arith
  rw [kont, w_seq]
  refine w_for (fun xs L a sl rt => xs = rangeD 0 n ∧ a ≤ n ∧ sl = [some (.d (lstM R)), some (.d (.int ((List.range a).map (rowB (ent R) n)).sum)), none, none] ∧ rt = []) ?_
  simp_arith [hlen]
  rw [show ((n : Int)).toNat = n by omega]
  refine ⟨⟨by omega, by omega⟩, ⟨rfl, by omega, rfl⟩, ?_, ?_⟩
  · rintro a x sl rt hx ⟨-, han, rfl, rfl⟩
    obtain ⟨ha, rfl⟩ := rangeD_at hx
    unfold b__law_due_bound_2
    simp_arith
    refine w_compF (dbG (fun k => min (ent R a (a + 1 + k)) (ent R (a + 1 + k) a)) (a + 1)) ?_
    simp_arith [hlen]
    rw [show ((n : Int) - ((a : Int) + 1)).toNat = n - (a + 1) by omega]
    refine ⟨⟨by omega, by omega⟩, by rw [rangeD_len]; omega, fun i x acc hx => ?_, ?_⟩
    · obtain ⟨hk, rfl⟩ := rangeD2_at (a := a + 1) hx
      obtain ⟨r1, h1, h2, _⟩ := ent_at hl hs ha (show a + 1 + i < n by omega)
      obtain ⟨r2, h3, h4, _⟩ := ent_at hl hs (show a + 1 + i < n by omega) ha
      unfold b__law_due_bound_1
      rw [lstM]
      simp_arith
      rw [atI_map h1]
      simp_arith [rwD]
      rw [atI_map h2]
      simp_arith
      rw [atI_map h3]
      simp_arith [rwD]
      rw [atI_map h4]
      simp_arith
      show some _ = _
      rw [show ((a + 1 + i : Nat) : Int).toNat - (a + 1) = i by omega]
    · rw [show ((a : Int) + 1) = ((a + 1 : Nat) : Int) from rfl, dbG_all, intsOf_map]
      simp_arith
      refine ⟨by omega, ?_⟩
      rw [sum_range_succ, rowB]
  · rintro sl rt ⟨-, -, rfl, rfl⟩
    rw [rangeD_len, ← bnd_rows]
    (rw [kont]; simp_arith)
/-- a list of orders -/
def ordsD (os : List (List Nat)) : List D := os.map fun o => .tup (nd o)
theorem ordsD_len {os : List (List Nat)} : (ordsD os).length = os.length := by simp [ordsD]
theorem ordsD_add {os : List (List Nat)} {o : List Nat} : ordsD os ++ [.tup (nd o)] = ordsD (os ++ [o]) := by unfold ordsD; rw [List.map_append]; rfl
theorem rivals_ok {g : List D} (hb : IsBag g) {n : Nat} (hn : n ≤ 1000) : wE (m__law_rivals [.r 0, .d (.int (n : Int))] [.lst g]) fun x rt => ∃ (g' : List D) (os : List (List Nat)), x = .r 1 ∧ rt = [.lst g', .lst (ordsD os)] ∧ IsBag g' ∧ os.length ≤ 1000 ∧ ∀ o ∈ os, o.Perm (List.range n) := by
  unfold m__law_rivals b__law_rivals
  simp only [w_mkF]
  simp_arith
  rw [show ((n : Int)).toNat = n by omega, lrg_nd, nd_rev]
  refine ⟨⟨by omega, by omega⟩, ⟨by omega, by omega⟩, ?_⟩
  rw [kont]
  simp_arith
  refine w_for (fun xs L a sl rt => ∃ (g : List D) (os : List (List Nat)), IsBag g ∧ os.length ≤ a + 2 ∧ (∀ o ∈ os, o.Perm (List.range n)) ∧ sl = [some (.r 0), some (.d (.int (n : Int))), some (.r 1), none] ∧ rt = [.lst g, .lst (ordsD os)]) ?_
  simp_arith
  refine ⟨⟨g, [List.range n, (List.range n).reverse], hb, by simp, ?_, rfl⟩, ?_, ?_⟩
  · intro o ho
    simp only [List.mem_cons, List.not_mem_nil, or_false] at ho
    rcases ho with rfl | rfl
    · exact .refl _
    · exact List.reverse_perm _
  · rintro a x sl rt hx ⟨g, os, hb, hl, ho, rfl, rfl⟩
    obtain ⟨ha, rfl⟩ := rangeD_at hx
    unfold b__law_rivals_1
    simp_arith
    rw [show ((n : Int)).toNat = n by omega, lrg_nd]
    refine ⟨⟨by omega, by omega⟩, ?_⟩
    refine (shuffle_ok (xs := nd (List.range n)) (.inl rfl) hb (by rw [nd_len, List.length_range]; omega)).imp ?_
    rintro _ _ ⟨g, ys, rfl, rfl, hb, hp⟩
    obtain ⟨o, rfl, hop⟩ := nd_perm hp
    simp_arith
    refine ⟨by rw [ordsD_len]; omega, g, os ++ [o], hb, by rw [List.length_append, List.length_singleton]; omega, fun q hq => ?_, by rw [ordsD_add]⟩
    rcases List.mem_append.mp hq with hq | hq
    · exact ho q hq
    · rw [List.mem_singleton.mp hq]; exact hop
  · rintro sl rt ⟨g, os, hb, hl, ho, rfl, rfl⟩
    (rw [kont]; simp_arith)
    rw [rangeD_len] at hl
    exact ⟨g, os, rfl, hb, by omega, ho⟩
theorem near_ok {n : Nat} (hn : n ≤ 100) {o : List Nat} (hop : o.Perm (List.range n)) : wE (m__law_near_orders [.d (.tup (nd o))] []) fun x rt => ∃ (os : List (List Nat)), x = .r 0 ∧ rt = [.lst (ordsD os)] ∧ os.length ≤ 100000 ∧ ∀ o ∈ os, o.Perm (List.range n) := by
  have hol : o.length = n := by rw [hop.length_eq, List.length_range]
  unfold m__law_near_orders b__law_near_orders
  simp only [w_mkF]
  simp_arith
  rw [kont]
  simp_arith
  refine w_for (fun xs L i sl rt => ∃ (os : List (List Nat)), i ≤ n ∧ os.length ≤ i * 200 ∧ (∀ o ∈ os, o.Perm (List.range n)) ∧ sl = [some (.d (.tup (nd o))), some (.r 0), none, none, none, none] ∧ rt = [.lst (ordsD os)]) ?_
  simp_arith [nd_len, hol]
  rw [show ((n : Int)).toNat = n by omega]
  refine ⟨⟨by omega, by omega⟩, ⟨[], by omega, by simp, by simp, rfl⟩, ?_, ?_⟩
  · rintro i x sl rt hx ⟨os, hin, hl, ho, rfl, rfl⟩
    obtain ⟨hi, rfl⟩ := rangeD_at hx
    unfold b__law_near_orders_2
    simp_arith
    rw [gSl_tup, cut_take (by rw [nd_len]; omega)]
    simp_arith
    rw [gSl_tup, show (i : Int) + 1 = ((i + 1 : Nat) : Int) from rfl, cut_drop (by rw [nd_len]; omega)]
    simp_arith
    rw [nd_take, nd_drop, nd_app]
    have hrl : (o.take i ++ o.drop (i + 1)).length = n - 1 := by rw [List.length_append, List.length_take, List.length_drop]; omega
    have hio : i < o.length := by omega
    have hoi : o[i]? = some o[i] := List.getElem?_eq_getElem hio
    have hmv := fun j => perm_move (j := j) hoi
    generalize hr : o.take i ++ o.drop (i + 1) = r at *
    refine ⟨by rw [nd_len, nd_len, List.length_take, List.length_drop]; omega, ?_⟩
    rw [kont]
    refine w_for (fun xs L j sl rt => ∃ (os : List (List Nat)) (s5 : Option W), os.length ≤ i * 200 + j * 2 ∧ (∀ o ∈ os, o.Perm (List.range n)) ∧ sl = [some (.d (.tup (nd o))), some (.r 0), some (.d (.int (i : Int))), some (.d (.tup (nd r))), none, none] ∧ rt = [.lst (ordsD os)]) ?_
    simp_arith [nd_len, hol]
    rw [show ((n : Int)).toNat = n by omega]
    refine ⟨⟨by omega, by omega⟩, ⟨os, none, by omega, ho, rfl⟩, ?_, ?_⟩
    · rintro j x sl rt hx ⟨os, s5, hl, ho, rfl, rfl⟩
      obtain ⟨hj, rfl⟩ := rangeD_at hx
      have hjo : j < o.length := by omega
      have hoj : o[j]? = some o[j] := List.getElem?_eq_getElem hjo
      unfold b__law_near_orders_1
      simp_arith
      rw [gSl_tup, cut_take (by rw [nd_len]; omega)]
      simp_arith
      rw [atI_nd hoi]
      simp_arith
      rw [gSl_tup, cut_drop (by rw [nd_len]; omega)]
      simp_arith
      rw [nd_take, nd_drop, nd_one, nd_app, nd_app]
      refine ⟨by rw [nd_len, List.length_take]; omega, by rw [nd_len, nd_len, List.length_append, List.length_take, List.length_drop, List.length_singleton]; omega, by rw [ordsD_len]; omega, ?_⟩
      (rw [kont]; simp_arith)
      rw [kont]
      simp_arith
      rw [atI_nd hoj]
      simp_arith [nd_len, ixN_nat hio]
      rw [kont]
      simp_arith
      rw [atI_nd hoi]
      simp_arith [nd_len, List.length_set, ixN_nat hjo]
      rw [kont, ordsD_add]
      simp_arith
      have e : ((nd o).set i (.int (o[j] : Nat))).set j (.int (o[i] : Nat)) = nd ((o.set i o[j]).set j o[i]) := by
        unfold nd
        rw [List.map_set, List.map_set]
      rw [e, ordsD_add]
      refine ⟨by rw [ordsD_len, List.length_append, List.length_singleton]; omega, _, none, ?_, fun q hq => ?_, rfl⟩
      · rw [List.length_append, List.length_append, List.length_singleton, List.length_singleton]
        omega
      · rcases List.mem_append.mp hq with hq | hq
        · rcases List.mem_append.mp hq with hq | hq
          · exact ho q hq
          · rw [List.mem_singleton.mp hq]; exact (hmv j).trans hop
        · rw [List.mem_singleton.mp hq]; exact (List.set_set_perm hio hjo).trans hop
    · rintro sl rt ⟨os, s5, hl, ho, rfl, rfl⟩
      rw [rangeD_len] at hl
      simp_arith
      exact ⟨os, by omega, by omega, ho, rfl⟩
  · rintro sl rt ⟨os, hin, hl, ho, rfl, rfl⟩
    (rw [kont]; simp_arith)
    rw [rangeD_len] at hl
    exact ⟨os, rfl, by omega, ho⟩







theorem costO_vf {n : Nat} {rt : List O} {R : List (List Int)} : vfO n rt (some (costO R)) = .ok (costO R).toD (frz n (costO R) rt) := rfl
theorem immDs_nd (o : List Nat) : immDs (nd o) = true := immDs_map (fun _ => rfl) _
theorem ansD_imm {w : Nat → Nat → Int} {n : Nat} : immD (ansD w n) = true := by
  unfold ansD
  simp only [immD, immDs, immDs_nd, Bool.and_true]
theorem gIxV_ans1 {w : Nat → Nat → Int} {n : Nat} {rt : List O} : gIxV (.d (ansD w n)) (.d (.int 1)) rt = .ok (.d (.tup (nd (lo w (List.range n))))) rt := by
  unfold ansD
  rfl
theorem gIxV_ans0 {w : Nat → Nat → Int} {n : Nat} {rt : List O} : gIxV (.d (ansD w n)) (.d (.int 0)) rt = .ok (.d (.int (mnv w (List.range n)))) rt := by
  unfold ansD
  rfl
theorem ordsD_three {a b c : List Nat} : [D.tup (nd a), D.tup (nd b), D.tup (nd c)] = ordsD [a, b, c] := rfl
theorem ordsD_app {a b : List (List Nat)} : ordsD a ++ ordsD b = ordsD (a ++ b) := by unfold ordsD; rw [List.map_append]
theorem law_ok {ns : List Int} (hn : ns.length ≤ 63) : wE (m_law [.d (.fz (ns.map D.int))] []) fun x rt => x = .d (.bl true) := by
  unfold m_law b_law
  simp only [w_mkF]
  simp_arith
  refine (bag_ok ns hn).imp ?_
  rintro _ _ ⟨rfl, g, rfl, hb⟩
  simp_arith
  (rw [kont]; simp_arith)
  (refine wE.imp (draw_ok hb (divOk_of (by omega) (by omega))) ?_; intro _ _ ⟨n0, g, ee1, ee2, hb, n00, n01⟩; subst ee1 ee2)
  simp_arith
  rw [kont]
  refine w_cut (fun sl rt => ∃ (g : List D) (n : Nat), IsBag g ∧ n ≤ 8 ∧ sl = [some (.d (.fz (ns.map D.int))), some (.r 0), some (.d (.int (n : Int))), none, none, none, none, none, none, none, none, none, none, none, none, none, none, none, none] ∧ rt = [.lst g]) ?_ ?_
  · simp_arith
    (refine wE.imp (draw_ok hb (divOk_of (by omega) (by omega))) ?_; intro _ _ ⟨k, g, ee1, ee2, hb, k0, k1⟩; subst ee1 ee2)
    simp_arith
    by_cases hk : k = 0
    · simp_arith [hk]
      (refine wE.imp (draw_ok hb (divOk_of (by omega) (by omega))) ?_; intro _ _ ⟨n, g, ee1, ee2, hb, n0, n1⟩; subst ee1 ee2)
      obtain ⟨n, rfl⟩ := Int.eq_ofNat_of_zero_le n0
      simp_arith
      exact ⟨g, n, hb, by omega, rfl, rfl⟩
    · simp_arith [hk]
      obtain ⟨n, rfl⟩ := Int.eq_ofNat_of_zero_le n00
      exact ⟨g, n, hb, by omega, rfl, rfl⟩
  rintro sl rt ⟨g, n, hb, hn8, rfl, rfl⟩
  refine w_cut (fun sl rt => ∃ (g : List D) (R : List (List Int)), IsBag g ∧ SqZ n R ∧ R.length = n ∧ sl = [some (.d (.fz (ns.map D.int))), some (.r 0), some (.d (.int (n : Int))), some (.d (lstM R)), none, none, none, none, none, none, none, none, none, none, none, none, none, none, none] ∧ rt = [.lst g]) ?_ ?_
  · simp_arith
    refine (cost_rows_ok hb (n := n) (by omega)).imp ?_
    rintro _ _ ⟨g, R0, rfl, rfl, hb, hR0, hS0⟩
    have hX := rowZ_O (R := R0)
    generalize rowsO R0 = X at hX ⊢
    simp_arith [hX.rd, hX.lc, hX.vw, hX.tk, hX.off, hX.vfz, hX.toD, hX.vf]
    refine (lifted_ok hb (by omega) hS0 hR0).imp ?_
    rintro _ _ ⟨g, S, hb, hS, hSl, ⟨rfl, rfl⟩ | ⟨rfl, rfl⟩⟩
    · simp_arith
      exact ⟨g, S, hb, hS, hSl, rfl, rfl⟩
    · simp_arith
      exact ⟨g, S, hb, hS, hSl, rfl, rfl⟩
  rintro sl rt ⟨g, R, hb, hS, hR, rfl, rfl⟩
  refine w_cut (fun sl rt => ∃ (g : List D) (M : List (List Int)), IsBag g ∧ SqZ n M ∧ M.length = n ∧ sl = [some (.d (.fz (ns.map D.int))), some (.r 0), some (.d (.int (n : Int))), some (.d (lstM R)), some (.d (lstM M)), none, none, none, none, none, none, none, none, none, none, none, none, none, none] ∧ rt = [.lst g]) ?_ ?_
  · simp_arith
    refine (cost_rows_ok hb (n := n) (by omega)).imp ?_
    rintro _ _ ⟨g, M, rfl, rfl, hb, hM, hS0⟩
    have hX := rowZ_O (R := M)
    generalize rowsO M = X at hX ⊢
    simp_arith [hX.rd, hX.lc, hX.vw, hX.tk, hX.off, hX.vfz, hX.toD, hX.vf]
    exact ⟨g, M, hb, hS0.z, hM, rfl, rfl⟩
  rintro sl rt ⟨g, M, hb, hMS, hM, rfl, rfl⟩
  simp_arith
  refine w_compF (rgF fun a => .lst (((List.range n).map fun b => ent R b a).map D.int)) ?_
  simp_arith
  rw [show ((n : Int)).toNat = n by omega]
  refine ⟨⟨by omega, by omega⟩, by rw [rangeD_len]; omega, fun i x acc hx => ?_, ?_⟩
  · obtain ⟨hi, rfl⟩ := rangeD_at hx
    unfold b_law_2
    refine w_compF (rgF fun b => .int (ent R b i)) ?_
    simp_arith
    rw [show ((n : Int)).toNat = n by omega]
    refine ⟨⟨by omega, by omega⟩, by rw [rangeD_len]; omega, fun j x acc2 hx => ?_, ?_⟩
    · obtain ⟨hj, rfl⟩ := rangeD_at hx
      unfold b_law_1
      simp_arith
      refine lstM_at hR hS.sq hj hi ?_
      simp_arith
      rfl
    · rw [rgF_all, rgF_nat, List.map_map]
      rfl
  rw [rgF_all]
  rw [show (List.range n).map (fun a => D.lst (((List.range n).map fun b => ent R b a).map D.int)) = (tab n fun a b => ent R b a).map rwD by unfold tab; rw [List.map_map]; rfl]
  have hT : SqZ n (tab n fun a b => ent R b a) := SqZ_tab (fun a ha => hS.diag hR ha) fun a ha b hb => hS.nonneg hR hb ha
  have hTl : (tab n fun a b => ent R b a).length = n := tab_len
  have hTe : ∀ a ∈ List.range n, ∀ b ∈ List.range n, ent (tab n fun a b => ent R b a) a b = ent R b a := fun a ha b hb => ent_tab (List.mem_range.mp ha) (List.mem_range.mp hb)
  generalize (tab n fun a b => ent R b a) = T at hT hTl hTe ⊢
  have hP := SqZ_sum hS hR hMS hM
  have hPl : (sumM R M).length = n := by rw [sumM_len (by omega), hR]
  have hPe : ∀ a ∈ List.range n, ∀ b ∈ List.range n, ent (sumM R M) a b = ent R a b + ent M a b := fun a ha b hb => by
    rw [sum_rows hS hR hMS hM]
    exact ent_tab (List.mem_range.mp ha) (List.mem_range.mp hb)
  have hLO : ∀ {S : List (List Int)}, SqZ n S → S.length = n → wE (m_least_order [.d (costD S)] []) fun x rt => rt = [] ∧ x = .d (ansD (ent S) n) := fun h hl => least_order_ok (tabW_of hl h.sq) hl (by omega)
  have hTO : ∀ {S : List (List Int)}, SqZ n S → S.length = n → wE (m__law_is_told [.d (ansD (ent S) n), .d (lstM S)] []) fun x rt => rt = [] ∧ x = .d (.bl true) := fun h hl => is_told_ok (by omega) hl h.sq
  have hOF : ∀ {S : List (List Int)}, SqZ n S → S.length = n → wE (m_Costs_of [.d (.lst (S.map rwD))] []) fun y rt => rt = [costO S] ∧ y = .r 0 := fun h hl => by
    rename_i S
    have := of_ok (R := S) (.inl rfl) (by omega) (by rw [hl]; exact h.sq)
    rw [dz_self h hl] at this
    exact this
  (rw [kont]; simp_arith)
  rw [show D.lst (T.map rwD) = lstM T from rfl]
  refine w_compF (rgF fun a => .lst (((List.range n).map fun b => ent R a b + ent M a b).map D.int)) ?_
  simp_arith
  rw [show ((n : Int)).toNat = n by omega]
  refine ⟨⟨by omega, by omega⟩, by rw [rangeD_len]; omega, fun i x acc hx => ?_, ?_⟩
  · obtain ⟨hi, rfl⟩ := rangeD_at hx
    unfold b_law_4
    refine w_compF (rgF fun b => .int (ent R i b + ent M i b)) ?_
    simp_arith
    rw [show ((n : Int)).toNat = n by omega]
    refine ⟨⟨by omega, by omega⟩, by rw [rangeD_len]; omega, fun j x acc2 hx => ?_, ?_⟩
    · obtain ⟨hj, rfl⟩ := rangeD_at hx
      unfold b_law_3
      simp_arith
      refine lstM_at hR hS.sq hi hj ?_
      refine lstM_at hM hMS.sq hi hj ?_
      simp_arith
      rfl
    · rw [rgF_all, rgF_nat, List.map_map]
      rfl
  rw [rgF_all]
  rw [show (List.range n).map (fun a => D.lst (((List.range n).map fun b => ent R a b + ent M a b).map D.int)) = (sumM R M).map rwD by rw [sum_rows hS hR hMS hM]; unfold tab; rw [List.map_map]; rfl]
  have hAD : wE (m_Costs___add__ [.d (costD R), .d (costD M)] []) fun y rt => rt = [costO (sumM R M)] ∧ y = .r 0 := by
    have := add_ok (M := R) (N := M) (by omega) (by omega) (by rw [hR]; exact hS.sq) (by rw [hR]; exact hMS.sq)
    rw [dz_self hP hPl] at this
    exact this
  generalize sumM R M = P at hP hPl hPe hAD ⊢
  rw [show D.lst (P.map rwD) = lstM P from rfl]
  (rw [kont]; simp_arith)
  refine w_compF lcF ?_
  simp_arith [lstM]
  refine ⟨by rw [List.length_map]; omega, fun i x acc hx => ?_, ?_⟩
  · obtain ⟨r, _, _, rfl⟩ := mem_at hx
    unfold b_law_5
    simp_arith [rwD]
    rfl
  rw [lcF_all]
  refine (hOF hS hR).imp ?_
  rintro _ _ ⟨rfl, rfl⟩
  rw [lendQ_eq]
  simp_arith [costO_vw, costO_imm, costO_vf, costO_toD]
  (rw [kont]; simp_arith)
  refine w_compF lcF ?_
  simp_arith [lstM]
  refine ⟨by rw [List.length_map]; omega, fun i x acc hx => ?_, ?_⟩
  · obtain ⟨r, _, _, rfl⟩ := mem_at hx
    unfold b_law_6
    simp_arith [rwD]
    rfl
  rw [lcF_all]
  refine (hOF hMS hM).imp ?_
  rintro _ _ ⟨rfl, rfl⟩
  rw [lendQ_eq]
  simp_arith [costO_vw, costO_imm, costO_vf, costO_toD]
  (rw [kont]; simp_arith)
  refine (hLO hS hR).imp ?_
  rintro _ _ ⟨rfl, rfl⟩
  rw [lendQ_eq]
  simp_arith [ansD_imm]
  (rw [kont]; simp_arith)
  refine (hTO hS hR).imp ?_
  rintro _ _ ⟨rfl, rfl⟩
  simp_arith
  (rw [kont]; simp_arith)
  refine (hLO hMS hM).imp ?_
  rintro _ _ ⟨rfl, rfl⟩
  rw [lendQ_eq]
  simp_arith [ansD_imm]
  (rw [kont]; simp_arith)
  refine ⟨⟨by rw [costD]; simp_arith [ns11, ns12], by rw [costD]; simp_arith [ns11, ns12]⟩, ?_⟩
  refine hAD.imp ?_
  rintro _ _ ⟨rfl, rfl⟩
  rw [lendQ_eq]
  simp_arith [costO_vw, costO_imm, costO_vf, costO_toD, costO_rd, costO_lc, costO_tk, costO_off, costO_vfz]
  refine (hLO hP hPl).imp ?_
  rintro _ _ ⟨rfl, rfl⟩
  rw [lendQ_eq]
  simp_arith [ansD_imm, costO_vw, costO_imm, costO_vf, costO_toD, costO_rd, costO_lc, costO_tk, costO_off, costO_vfz]
  (rw [kont]; simp_arith)
  refine w_compF lcF ?_
  simp_arith [lstM]
  refine ⟨by rw [List.length_map]; omega, fun i x acc hx => ?_, ?_⟩
  · obtain ⟨r, _, _, rfl⟩ := mem_at hx
    unfold b_law_7
    simp_arith [rwD]
    rfl
  rw [lcF_all]
  refine (hOF hT hTl).imp ?_
  rintro _ _ ⟨rfl, rfl⟩
  rw [lendQ_eq]
  simp_arith [costO_vw, costO_imm, costO_vf, costO_toD, costO_rd, costO_lc, costO_tk, costO_off, costO_vfz]
  refine (hLO hT hTl).imp ?_
  rintro _ _ ⟨rfl, rfl⟩
  rw [lendQ_eq]
  simp_arith [ansD_imm, costO_vw, costO_imm, costO_vf, costO_toD, costO_rd, costO_lc, costO_tk, costO_off, costO_vfz]
  (rw [kont]; simp_arith)
  refine (hTO hMS hM).imp ?_
  rintro _ _ ⟨rfl, rfl⟩
  simp_arith
  refine (hTO hP hPl).imp ?_
  rintro _ _ ⟨rfl, rfl⟩
  simp_arith
  refine (hTO hT hTl).imp ?_
  rintro _ _ ⟨rfl, rfl⟩
  simp_arith
  (rw [kont]; simp_arith)
  refine (rivals_ok hb (n := n) (by omega)).imp ?_
  rintro _ _ ⟨g, os1, rfl, rfl, hb, hl1, ho1⟩
  simp_arith
  rw [gIxV_ans1]
  simp_arith
  refine (near_ok (n := n) (by omega) lo_ok).imp ?_
  rintro _ _ ⟨os2, rfl, rfl, hl2, ho2⟩
  simp_arith
  rw [gIxV_ans1]
  simp_arith
  refine ⟨by rw [ordsD_len, ordsD_len]; omega, ?_⟩
  rw [gIxV_ans1]
  simp_arith
  rw [gIxV_ans1]
  simp_arith
  refine ⟨by rw [List.length_append, ordsD_len, ordsD_len]; omega, ?_⟩
  rw [nd_rev, ordsD_app]
  have hos : ∀ x ∈ ordsD (os1 ++ os2) ++ [D.tup (nd (lo (ent M) (List.range n))), D.tup (nd (lo (ent P) (List.range n))), D.ktup (nd (lo (ent T) (List.range n)).reverse)], ∃ o, IsO x o ∧ o.Perm (List.range n) := fun x hx => by
    simp only [List.mem_append, List.mem_cons, List.not_mem_nil, or_false] at hx
    rcases hx with hx | rfl | rfl | rfl
    · obtain ⟨o, ho, rfl⟩ := List.mem_map.mp hx
      exact ⟨o, .t, (List.mem_append.mp ho).elim (ho1 o) (ho2 o)⟩
    · exact ⟨_, .t, lo_ok⟩
    · exact ⟨_, .t, lo_ok⟩
    · exact ⟨_, .k, (List.reverse_perm _).trans lo_ok⟩
  generalize (ordsD (os1 ++ os2) ++ [D.tup (nd (lo (ent M) (List.range n))), D.tup (nd (lo (ent P) (List.range n))), D.ktup (nd (lo (ent T) (List.range n)).reverse)]) = os at hos ⊢
  rw [kont, w_seq]
  refine w_for (fun xs L i sl rt => sl = [some (.d (.fz (ns.map D.int))), some (.r 0), some (.d (.int (n : Int))), some (.d (lstM R)), some (.d (lstM M)), some (.d (lstM T)), some (.d (lstM P)), some (.d (costD R)), some (.d (costD M)), some (.d (ansD (ent R) n)), some (.d (ansD (ent M) n)), some (.d (ansD (ent P) n)), some (.d (ansD (ent T) n)), some (.d (.lst os)), none, none, none, none, none] ∧ rt = [.lst g]) ?_
  simp_arith
  refine ⟨rfl, ?_, ?_⟩
  · rintro i x sl rt hx ⟨rfl, rfl⟩
    obtain ⟨o, hy, hm⟩ := hos x (List.mem_of_getElem? hx)
    unfold b_law_8
    simp_arith
    refine (beats_ok (by omega) hR hS.sq hm hy).imp ?_
    rintro _ _ ⟨rfl, rfl⟩
    simp_arith
  · rintro sl rt ⟨rfl, rfl⟩
    rw [kont]
    simp_arith
    rw [gIxV_ans0]
    simp_arith
    rw [gIxV_ans0]
    simp_arith
    have e1 : mnv (ent T) (List.range n) = mnv (ent R) (List.range n) := (mnv_congr hTe).trans mnv_flip
    have e2 : mnv (ent R) (List.range n) + mnv (ent M) (List.range n) ≤ mnv (ent P) (List.range n) := by
      rw [mnv_congr hPe]
      exact mnv_add
    have hPB : ∀ {S : List (List Int)}, SqZ n S → S.length = n → wE (m_pair_bound [.d (costD S)] []) fun x rt => rt = [] ∧ x = .d (.int (bnd (ent S) n)) := fun h hl => pair_bound_ok (tabW_of hl h.sq) hl (by omega)
    have hDB : ∀ {S : List (List Int)}, SqZ n S → S.length = n → wE (m__law_due_bound [.d (lstM S)] []) fun x rt => rt = [] ∧ x = .d (.int (bnd (ent S) n)) := fun h hl => due_bound_ok (by omega) hl h.sq
    have e3 := bnd_le (w := ent R) (n := n)
    rw [e1, decide_eq_true rfl]
    simp_arith
    rw [gIxV_ans0]
    simp_arith
    rw [gIxV_ans0]
    simp_arith
    rw [gIxV_ans0]
    simp_arith
    rw [if_neg (by omega)]
    (rw [kont]; simp_arith)
    refine (hPB hS hR).imp ?_
    rintro _ _ ⟨rfl, rfl⟩
    rw [lendQ_eq]
    simp_arith
    (rw [kont]; simp_arith)
    refine (hDB hS hR).imp ?_
    rintro _ _ ⟨rfl, rfl⟩
    simp_arith
    refine (same_int 11 _).imp ?_
    rintro _ _ ⟨rfl, rfl⟩
    simp_arith
    rw [gIxV_ans0]
    simp_arith
    rw [if_neg (by omega)]
    rw [kont]
    simp_arith
    refine ⟨⟨by rw [costD]; simp_arith [ns11, ns12], by rw [costD]; simp_arith [ns11, ns12]⟩, ?_⟩
    refine hAD.imp ?_
    rintro _ _ ⟨rfl, rfl⟩
    rw [lendQ_eq]
    simp_arith [costO_vw, costO_imm, costO_vf, costO_toD, costO_rd, costO_lc, costO_tk, costO_off, costO_vfz]
    refine (hPB hP hPl).imp ?_
    rintro _ _ ⟨rfl, rfl⟩
    rw [lendQ_eq]
    simp_arith [costO_vw, costO_imm, costO_vf, costO_toD, costO_rd, costO_lc, costO_tk, costO_off, costO_vfz]
    refine (hDB hP hPl).imp ?_
    rintro _ _ ⟨rfl, rfl⟩
    simp_arith [costO_vw, costO_imm, costO_vf, costO_toD, costO_rd, costO_lc, costO_tk, costO_off, costO_vfz]
    refine (same_int 11 _).imp ?_
    rintro _ _ ⟨rfl, rfl⟩
    simp_arith [costO_vw, costO_imm, costO_vf, costO_toD, costO_rd, costO_lc, costO_tk, costO_off, costO_vfz]
    rw [kont]
    simp_arith [costO_vw, costO_imm, costO_vf, costO_toD, costO_rd, costO_lc, costO_tk, costO_off, costO_vfz]
    have hSR : ∀ {S : List (List Int)}, SqZ n S → S.length = n → wE (m__law_stayed [.d (costD S), .d (lstM S)] []) fun x rt => rt = [] ∧ x = .d (.bl true) := fun h hl => stayed_ok (by omega) (by rw [hl]; exact h.sq)
    refine (hSR hS hR).imp ?_
    rintro _ _ ⟨rfl, rfl⟩
    rw [lendQ_eq]
    simp_arith [costO_vw, costO_imm, costO_vf, costO_toD, costO_rd, costO_lc, costO_tk, costO_off, costO_vfz]
    refine (hSR hMS hM).imp ?_
    rintro _ _ ⟨rfl, rfl⟩
    rw [lendQ_eq]
    simp_arith [costO_vw, costO_imm, costO_vf, costO_toD, costO_rd, costO_lc, costO_tk, costO_off, costO_vfz]
theorem law_true : ∀ ns : List Int, ns.length ≤ 63 → ∃ rt, m_law [.d (.fz (ns.map D.int))] [] = .ok (.d (.bl true)) rt := fun ns hn => by
  obtain ⟨x, rt, e, rfl⟩ := (law_ok hn).ex
  exact ⟨rt, e⟩


end

theorem walk {l : PySem.W.OpenLaw} {q : Program} {loose : List Str} {XP : (Str → Option Value) → Heap → Prop} {YP : World → Heap → Prop} {d : DefRec} {K : Params → PySem.W.Frag} (hn : l.most = some 63) (hdf : d.params.defaults = [])
    (hY : ∀ (w : World) (h : Heap), YP w h → (K w.params).In h)
    (F : ∀ (w : World) (mg : Str → Option Value) (fa : Addr) (h : Heap), (K w.params).In h → h.Ns mainGlobals mg → mg d.name = some (.ref fa) →
      ∃ fd : FuncData, (∀ (s : Shared) (u : Value), BindsTo s fd ⟨[u], []⟩ [("script", u)]) ∧ ∀ base : Heap, (K w.params).In base → base.Ns mainGlobals mg → FnOk l.prog w (K w.params) mg base (L2.CX l.prog w) 19 fa fd ["script"] (fun vs H Q E => ∀ ca : CA, spV (K w.params) w (@m_law ca) 1 vs H Q E)) :
    PySem.W.WalkO q loose XP YP l.row.toRowW d [] (fun f vs => PySem.call f vs) :=
  walk_vA (m := @m_law) hn hdf ⟨rfl, by decide, by decide⟩ hY F @law_true
end VL
open PySem PySem.W PyProof.Rows in
set_option maxRecDepth 100000 in
set_option maxHeartbeats 0 in
theorem PySem.Challenge.cw_drawnlayers_k30_whole_no_cheaper_order_holds : PySem.Challenge.rw_drawnlayers_k30_whole_no_cheaper_order.Holds := by
  w_on; o_law; k_head; (case hw => w_witness2)
  k_fill
  refine VL.walk (l := PySem.Challenge.rw_drawnlayers_k30_whole_no_cheaper_order) rfl rfl (fun w h Y => PySem.W.kIn_of Y) ?F
  case F =>
    intro w mg fa h KX G hmg
    refine' VL.all_mk KX G hmg ?a_Costs ?pg_Costs ?hd_Costs ?po_Costs ?sa_Costs ?mk_Costs ?kc_Costs ?ns_Costs ?ha_Costs ?hn_Costs ?tk_Costs ?hm_Costs ?n_Costs__rows ?n_Costs_size ?sf_Costs ?rd_Costs ?ga_Costs ?a0 ?l0 ?c0 ?k0 ?a1 ?l1 ?c1 ?k1 ?a2 ?l2 ?c2 ?k2 ?a3 ?l3 ?c3 ?k3 ?a4 ?i4 ?j4 ?l4 ?c4 ?k4 ?lt4 ?a5 ?b5 ?l5 ?c5 ?k5 ?a6 ?i6 ?j6 ?l6 ?c6 ?k6 ?a7 ?l7 ?c7 ?k7 ?a8 ?l8 ?c8 ?k8 ?a9 ?l9 ?c9 ?k9 ?a10 ?l10 ?c10 ?k10 ?a11 ?l11 ?c11 ?k11 ?a12 ?l12 ?c12 ?k12 ?a13 ?i13 ?j13 ?l13 ?c13 ?k13 ?a14 ?i14 ?j14 ?l14 ?c14 ?k14 ?a15 ?l15 ?c15 ?k15 ?a16 ?l16 ?c16 ?k16 ?a17 ?l17 ?c17 ?k17 ?a18 ?l18 ?c18 ?k18 ?a19 ?l19 ?c19 ?k19 ?a20 ?i20 ?j20 ?l20 ?c20 ?k20 ?a21 ?l21 ?c21 ?k21 ?a22 ?l22 ?c22 ?k22 ?a23 ?l23 ?c23 ?k23 ?a24 ?l24 ?c24 ?k24 ?a25 ?l25 ?c25 ?k25 ?a26 ?l26 ?c26 ?k26 ?a27 ?l27 ?c27 ?k27 ?a28 ?l28 ?c28 ?k28 ?z_abs ?z_bool ?z_dict ?z_enumerate ?z_int ?z_isinstance ?z_len ?z_list ?z_min ?z_range ?z_sorted ?z_str ?z_sum ?z_tuple ?z_zip
    (case a_Costs => k_is)
    (case pg_Costs => k_is)
    (case hd_Costs => k_is)
    (case po_Costs => k_is)
    (case sa_Costs => k_is)
    (case mk_Costs => k_is)
    (case kc_Costs => k_is)
    (case ns_Costs => k_is)
    (case ha_Costs => k_is)
    (case hn_Costs => k_is)
    (case tk_Costs => k_is)
    (case hm_Costs => k_is)
    (case n_Costs__rows => k_is)
    (case n_Costs_size => k_is)
    (case sf_Costs => k_is)
    (case rd_Costs => k_is)
    (case ga_Costs => k_is)
    (case a0 => k_is)
    (case l0 => k_is)
    (case c0 => k_is)
    (case k0 => k_is)
    (case a1 => k_is)
    (case l1 => k_is)
    (case c1 => k_is)
    (case k1 => k_is)
    (case a2 => k_is)
    (case l2 => k_is)
    (case c2 => k_is)
    (case k2 => k_is)
    (case a3 => k_is)
    (case l3 => k_is)
    (case c3 => k_is)
    (case k3 => k_is)
    (case a4 => k_is)
    (case i4 => k_is)
    (case j4 => k_is)
    (case l4 => k_is)
    (case c4 => k_is)
    (case k4 => k_is)
    (case lt4 => k_is)
    (case a5 => k_is)
    (case b5 => k_is)
    (case l5 => k_is)
    (case c5 => k_is)
    (case k5 => k_is)
    (case a6 => k_is)
    (case i6 => k_is)
    (case j6 => k_is)
    (case l6 => k_is)
    (case c6 => k_is)
    (case k6 => k_is)
    (case a7 => k_is)
    (case l7 => k_is)
    (case c7 => k_is)
    (case k7 => k_is)
    (case a8 => k_is)
    (case l8 => k_is)
    (case c8 => k_is)
    (case k8 => k_is)
    (case a9 => k_is)
    (case l9 => k_is)
    (case c9 => k_is)
    (case k9 => k_is)
    (case a10 => k_is)
    (case l10 => k_is)
    (case c10 => k_is)
    (case k10 => k_is)
    (case a11 => k_is)
    (case l11 => k_is)
    (case c11 => k_is)
    (case k11 => k_is)
    (case a12 => k_is)
    (case l12 => k_is)
    (case c12 => k_is)
    (case k12 => k_is)
    (case a13 => k_is)
    (case i13 => k_is)
    (case j13 => k_is)
    (case l13 => k_is)
    (case c13 => k_is)
    (case k13 => k_is)
    (case a14 => k_is)
    (case i14 => k_is)
    (case j14 => k_is)
    (case l14 => k_is)
    (case c14 => k_is)
    (case k14 => k_is)
    (case a15 => k_is)
    (case l15 => k_is)
    (case c15 => k_is)
    (case k15 => k_is)
    (case a16 => k_is)
    (case l16 => k_is)
    (case c16 => k_is)
    (case k16 => k_is)
    (case a17 => k_is)
    (case l17 => k_is)
    (case c17 => k_is)
    (case k17 => k_is)
    (case a18 => k_is)
    (case l18 => k_is)
    (case c18 => k_is)
    (case k18 => k_is)
    (case a19 => k_is)
    (case l19 => k_is)
    (case c19 => k_is)
    (case k19 => k_is)
    (case a20 => k_is)
    (case i20 => k_is)
    (case j20 => k_is)
    (case l20 => k_is)
    (case c20 => k_is)
    (case k20 => k_is)
    (case a21 => k_is)
    (case l21 => k_is)
    (case c21 => k_is)
    (case k21 => k_is)
    (case a22 => k_is)
    (case l22 => k_is)
    (case c22 => k_is)
    (case k22 => k_is)
    (case a23 => k_is)
    (case l23 => k_is)
    (case c23 => k_is)
    (case k23 => k_is)
    (case a24 => k_is)
    (case l24 => k_is)
    (case c24 => k_is)
    (case k24 => k_is)
    (case a25 => k_is)
    (case l25 => k_is)
    (case c25 => k_is)
    (case k25 => k_is)
    (case a26 => k_is)
    (case l26 => k_is)
    (case c26 => k_is)
    (case k26 => k_is)
    (case a27 => k_is)
    (case l27 => k_is)
    (case c27 => k_is)
    (case k27 => k_is)
    (case a28 => k_is)
    (case l28 => k_is)
    (case c28 => k_is)
    (case k28 => k_is)
    (case z_abs => k_is)
    (case z_bool => k_is)
    (case z_dict => k_is)
    (case z_enumerate => k_is)
    (case z_int => k_is)
    (case z_isinstance => k_is)
    (case z_len => k_is)
    (case z_list => k_is)
    (case z_min => k_is)
    (case z_range => k_is)
    (case z_sorted => k_is)
    (case z_str => k_is)
    (case z_sum => k_is)
    (case z_tuple => k_is)
    (case z_zip => k_is)
#print axioms PySem.Challenge.cw_drawnlayers_k30_whole_no_cheaper_order_holds
